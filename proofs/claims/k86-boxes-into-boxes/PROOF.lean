import PyProof.Rows.All
import Wide.All
import OpenK.AllK
import Wide.FinOn
import HandS.ForMost
import HandS.Deep
import HandS.TupAny
import HandS.TupMul
import HandS.IsInst
import HandS.Walk
import HandS.TupSets
import HandS.SortInts
import HandS.Zip
import HandS.TupLe
import HandS.Style
import HandS.Conv
import HandS.DictComp
import KE.DataEq
import KE.DataMinMax
import KE.DataAny
import KE.DataIsa
import KE.DataCmp
import KE.SortData
import KE.KTupSum
import PyProof.ReprReads
import PyProof.ReprRoads
import KE.GoesMore
import PyProof.ReprLen
import PySem.Challenge.RW_carpentersyard_k86_whole_boxes_that_go_i
set_option Elab.async false
set_option linter.all false
set_option maxRecDepth 100000
set_option autoImplicit false
namespace Yd
open PySem
/-! the used part of Python over plain data -/
/-- data: None, bools, ints, texts, tuples, lists, dicts of such -/
abbrev D := PyData
instance : Inhabited D := ⟨.none⟩
inductive Exn where
  | mk (cls : Str) (pay : Option D)
inductive Res (α : Type) where
  | ok (a : α) | err (x : Exn) | no
@[simp] def Res.bind {α β : Type} (r : Res α) (f : α → Res β) : Res β := match r with
  | .ok a => f a
  | .err x => .err x
  | .no => .no
instance : Monad Res := { pure := .ok, bind := Res.bind }
@[simp] theorem Res.bind_ok {α β : Type} (a : α) (f : α → Res β) : (Res.ok a >>= f) = f a := rfl
@[simp] theorem Res.bind_err {α β : Type} (x : Exn) (f : α → Res β) : ((Res.err x : Res α) >>= f) = .err x := rfl
@[simp] theorem Res.bind_no {α β : Type} (f : α → Res β) : ((Res.no : Res α) >>= f) = .no := rfl
@[simp] theorem Res.pure_eq {α : Type} (a : α) : (pure a : Res α) = .ok a := rfl
/-- if b, else nothing -/
def Res.guard (b : Bool) : Res Unit := if b then .ok () else .no
@[simp] theorem Res.guard_true : Res.guard true = .ok () := rfl
@[simp] theorem Res.guard_false : Res.guard false = .no := rfl
inductive Slot where
  | un | sh (d : D) | ow (d : D) | cup
inductive RV where
  | sh (d : D) | fr (d : D) | sl (i : Nat)
inductive Arg where
  | d (x : D) | cup
structure Sta where
  env : List Slot
  cup : Option (List D)
abbrev M := Sta → Res (RV × Sta)
/-- the greatest length that is let -/
def lim : Nat := 8000000
theorem lim_line : lim < sizeLine := by rw [sizeLine_eq]; decide
/-- what a value says now -/
def rdSlot : Option Slot → Option (List D) → Res D
  | some (.sh d), _ => .ok d
  | some (.ow d), _ => .ok d
  | some .cup, some ds => .ok (.list ds)
  | _, _ => .no
def rd (s : Sta) : RV → Res D
  | .sh d => .ok d
  | .fr d => .ok d
  | .sl i => rdSlot s.env[i]? s.cup
/-- a value that is kept elsewhere: what it says is not changed any more -/
def tkSlot (s : Sta) (i : Nat) : Option Slot → Res (D × Sta)
  | some (.sh d) => .ok (d, s)
  | some (.ow d) => .ok (d, { s with env := s.env.set i (.sh d) })
  | _ => .no
def tk (s : Sta) : RV → Res (D × Sta)
  | .sh d => .ok (d, s)
  | .fr d => .ok (d, s)
  | .sl i => tkSlot s i s.env[i]?
def mCst (d : D) : M := fun s => .ok (.sh d, s)
def there : Option Slot → Bool
  | some (.sh _) => true
  | some (.ow _) => true
  | some .cup => true
  | _ => false
def mVar (i : Nat) : M := fun s => if there s.env[i]? then .ok (.sl i, s) else .no
def m1 (f : D → Res RV) (a : M) : M := fun s => do
  let (r, s1) ← a s
  let d ← rd s1 r
  let v ← f d
  .ok (v, s1)
def m2 (f : D → D → Res RV) (a b : M) : M := fun s => do
  let (r1, s1) ← a s
  let (r2, s2) ← b s1
  let d1 ← rd s2 r1
  let d2 ← rd s2 r2
  let v ← f d1 d2
  .ok (v, s2)
/-- several values, from the left -/
def mL : List M → Sta → Res (List RV × Sta)
  | [], s => .ok ([], s)
  | m :: r, s => do
    let (v, s1) ← m s
    let (vs, s2) ← mL r s1
    .ok (v :: vs, s2)
def tks : List RV → Sta → Res (List D × Sta)
  | [], s => .ok ([], s)
  | v :: r, s => do
    let (d, s1) ← tk s v
    let (ds, s2) ← tks r s1
    .ok (d :: ds, s2)
def rds (s : Sta) : List RV → Res (List D)
  | [] => .ok []
  | v :: r => do
    let d ← rd s v
    let ds ← rds s r
    .ok (d :: ds)
def mTup (ms : List M) : M := fun s => do
  let (vs, s1) ← mL ms s
  let (ds, s2) ← tks vs s1
  .ok (.sh (.tuple ds), s2)
def mLst (ms : List M) : M := fun s => do
  let (vs, s1) ← mL ms s
  let (ds, s2) ← tks vs s1
  .ok (.fr (.list ds), s2)
/-- a built-in over values that are read -/
def mB (f : List D → Res RV) (ms : List M) : M := fun s => do
  let (vs, s1) ← mL ms s
  let ds ← rds s1 vs
  let v ← f ds
  .ok (v, s1)
def argSlot (s : Sta) (i : Nat) : Option Slot → Res (Arg × Sta)
  | some .cup => .ok (.cup, s)
  | o => do let (d, s1) ← tkSlot s i o; .ok (.d d, s1)
def arg1 (s : Sta) : RV → Res (Arg × Sta)
  | .sl i => argSlot s i s.env[i]?
  | .sh d => .ok (.d d, s)
  | .fr d => .ok (.d d, s)
def args : List RV → Sta → Res (List Arg × Sta)
  | [], s => .ok ([], s)
  | v :: r, s => do
    let (d, s1) ← arg1 s v
    let (ds, s2) ← args r s1
    .ok (d :: ds, s2)
def rvOf : Bool × D → RV
  | (true, d) => .fr d
  | (false, d) => .sh d
/-- tests -/
abbrev MT := Sta → Res (Bool × Sta)
def tOf (m : M) : MT := fun s => do
  let (r, s1) ← m s
  match rd s1 r with
  | .ok (.bool b) => .ok (b, s1)
  | _ => .no
def tNot (t : MT) : MT := fun s => do
  let (b, s1) ← t s
  .ok (!b, s1)
def tAnd (t u : MT) : MT := fun s => do
  let (b, s1) ← t s
  if b then u s1 else .ok (false, s1)
def tOr (t u : MT) : MT := fun s => do
  let (b, s1) ← t s
  if b then .ok (true, s1) else u s1
/-- and, or as values: all but the last are truth values -/
def mAnd (a b : M) : M := fun s => do
  let (r, s1) ← a s
  match rd s1 r with
  | .ok (.bool true) => b s1
  | .ok (.bool false) => .ok (.sh (.bool false), s1)
  | _ => .no
def mOr (a b : M) : M := fun s => do
  let (r, s1) ← a s
  match rd s1 r with
  | .ok (.bool true) => .ok (.sh (.bool true), s1)
  | .ok (.bool false) => b s1
  | _ => .no
def mNot (a : M) : M := m1 (fun d => match d with | .bool b => .ok (.sh (.bool !b)) | _ => .no) a
def mIf (t : MT) (a b : M) : M := fun s => do
  let (k, s1) ← t s
  if k then a s1 else b s1
/-- a < b < c -/
def mChn (f g : D → D → Res RV) (a b c : M) : M := fun s => do
  let (r1, s1) ← a s
  let (r2, s2) ← b s1
  let d1 ← rd s2 r1
  let d2 ← rd s2 r2
  match f d1 d2 with
  | .ok (.sh (.bool true)) => do
    let (r3, s3) ← c s2
    let d2 ← rd s3 r2
    let d3 ← rd s3 r3
    let v ← g d2 d3
    .ok (v, s3)
  | .ok (.sh (.bool false)) => .ok (.sh (.bool false), s2)
  | _ => .no
/-! statements -/
inductive Fl where
  | nx | rt (r : Bool × D) | bk | ct
abbrev St := Sta → Res (Fl × Sta)
def sSkip : St := fun s => .ok (.nx, s)
def sSeq (a b : St) : St := fun s => do
  let (f, s1) ← a s
  match f with
  | .nx => b s1
  | f => .ok (f, s1)
def putSlot (s : Sta) (i : Nat) (x : Slot) : Sta := { s with env := s.env.set i x }
/-- targets -/
inductive Tg where
  | nm (i : Nat) | tp (ts : List Tg)
mutual
def put : Tg → D → Sta → Res Sta
  | .nm i, d, s => .ok (putSlot s i (.sh d))
  | .tp ts, d, s => match d with
    | .tuple ds => puts ts ds s
    | _ => .no
def puts : List Tg → List D → Sta → Res Sta
  | [], [], s => .ok s
  | t :: ts, d :: ds, s => do
    let s1 ← put t d s
    puts ts ds s1
  | _, _, _ => .no
end
def sSet (t : Tg) (m : M) : St := fun s => do
  let (r, s1) ← m s
  let (d, s2) ← tk s1 r
  let s3 ← put t d s2
  .ok (.nx, s3)
/-- a name whose object is changed later: made new -/
def sOwn (i : Nat) (m : M) : St := fun s => do
  let (r, s1) ← m s
  match r with
  | .fr d => .ok (.nx, putSlot s1 i (.ow d))
  | _ => .no
/-- the cup made -/
def sCup (i : Nat) (m : M) : St := fun s => do
  let (r, s1) ← m s
  match r, s1.cup with
  | .fr (.list ds), none => .ok (.nx, { env := s1.env.set i .cup, cup := some ds })
  | _, _ => .no
/-- a, b = x, y -/
def sPar (i j : Nat) (oi oj : Bool) (a b : M) : St := fun s => do
  let (r1, s1) ← a s
  let (r2, s2) ← b s1
  let (x, s3) ← (match oi, r1 with
    | true, .fr d => .ok (Slot.ow d, s2)
    | true, _ => .no
    | false, r => do let (d, s3) ← tk s2 r; .ok (Slot.sh d, s3))
  let (y, s4) ← (match oj, r2 with
    | true, .fr d => .ok (Slot.ow d, s3)
    | true, _ => .no
    | false, r => do let (d, s4) ← tk s3 r; .ok (Slot.sh d, s4))
  .ok (.nx, putSlot (putSlot s4 i x) j y)
def sExp (m : M) : St := fun s => do
  let (_, s1) ← m s
  .ok (.nx, s1)
def retSlot (s : Sta) (i : Nat) : Option Slot → Res ((Bool × D) × Sta)
  | some (.ow d) => .ok ((true, d), { s with env := s.env.set i .un })
  | some (.sh d) => .ok ((false, d), s)
  | _ => .no
def ret (s : Sta) : RV → Res ((Bool × D) × Sta)
  | .fr d => .ok ((true, d), s)
  | .sh d => .ok ((false, d), s)
  | .sl i => retSlot s i s.env[i]?
def sRet (m : M) : St := fun s => do
  let (r, s1) ← m s
  let (x, s2) ← ret s1 r
  .ok (.rt x, s2)
def sRetN : St := fun s => .ok (.rt (false, .none), s)
def sIf (t : MT) (a b : St) : St := fun s => do
  let (k, s1) ← t s
  if k then a s1 else b s1
def sBrk : St := fun s => .ok (.bk, s)
def sCnt : St := fun s => .ok (.ct, s)
/-- what is walked -/
abbrev MI := Sta → Res (List D × Sta)
def forL (t : Tg) (b : St) : List D → St
  | [], s => .ok (.nx, s)
  | d :: ds, s => do
    let s1 ← put t d s
    let (f, s2) ← b s1
    match f with
    | .nx => forL t b ds s2
    | .ct => forL t b ds s2
    | .bk => .ok (.nx, s2)
    | .rt r => .ok (.rt r, s2)
def sFor (t : Tg) (it : MI) (b : St) : St := fun s => do
  let (ds, s1) ← it s
  forL t b ds s1
def whl (t : MT) (b : St) : Nat → St
  | 0, _ => .no
  | n + 1, s => do
    let (k, s1) ← t s
    if k then
      let (f, s2) ← b s1
      match f with
      | .nx => whl t b n s2
      | .ct => whl t b n s2
      | .bk => .ok (.nx, s2)
      | .rt r => .ok (.rt r, s2)
    else .ok (.nx, s1)
/-- the most turns of a while -/
def turns : Nat := 1000000000000
def sWhl (t : MT) (b : St) : St := whl t b turns
/-! comprehensions -/
def wipes : List Nat → List Slot → List Slot
  | [], e => e
  | i :: is, e => (wipes is e).set i .un
/-- the slots at is as they stand in e -/
def backs (e0 : List Slot) : List Nat → List Slot → List Slot
  | [], e => e
  | i :: is, e => match e0[i]? with
    | some (.ow _) => (backs e0 is e).set i .un
    | some x => (backs e0 is e).set i x
    | none => backs e0 is e
def lcL (vs : List Nat) (t : Tg) (c : MT) (m : M) : List D → List D → Sta → Res (List D × Sta)
  | [], acc, s => .ok (acc, s)
  | d :: ds, acc, s => do
    let s1 ← put t d { s with env := wipes vs s.env }
    let (k, s2) ← c s1
    if k then
      let (r, s3) ← m s2
      let (x, s4) ← tk s3 r
      lcL vs t c m ds (acc ++ [x]) { s4 with env := wipes vs s4.env }
    else lcL vs t c m ds acc { s2 with env := wipes vs s2.env }
def mLc (vs : List Nat) (t : Tg) (it : MI) (c : MT) (m : M) : M := fun s => do
  let (ds, s1) ← it s
  Res.guard (decide (ds.length ≤ lim))
  let (acc, s2) ← lcL vs t c m ds [] s1
  .ok (.fr (.list acc), { s2 with env := backs s1.env vs s2.env })
def cYes : MT := fun s => .ok (true, s)
end Yd

namespace Yd
open PySem PySem.Spec PyProof.Rows L2
abbrev Sub (F F' : Hp) : Prop := ∀ a o, F a = some o → F' a = some o
theorem Sub.refl (F : Hp) : Sub F F := fun _ _ h => h
theorem Sub.trans {F F1 F2 : Hp} (h : Sub F F1) (k : Sub F1 F2) : Sub F F2 := fun a o e => k a o (h a o e)
theorem rd_sub {F F' : Hp} {a : Addr} {u : HO} (e : Sub F F') (h : Rd F a u) : Rd F' a u := by
  rcases h with h | ⟨o, h⟩
  · exact Or.inl (e a _ h)
  · exact Or.inr ⟨o, e a _ h⟩
theorem sql_sub {K : PySem.W.Frag} {F F' : Hp} {a : Addr} {xs : List V} (e : Sub F F') (h : SqL K F a xs) : SqL K F' a xs := by
  rcases h with h | h
  · exact Or.inl (rd_sub e h)
  · exact Or.inr h
theorem sqt_sub {K : PySem.W.Frag} {F F' : Hp} {a : Addr} {xs : List V} (e : Sub F F') (h : SqT K F a xs) : SqT K F' a xs := by
  rcases h with h | h
  · exact Or.inl (rd_sub e h)
  · exact Or.inr h
/-- a list that is read: tracked, or one of the written part -/
def SqX (K : PySem.W.Frag) (H : Hp) (a : Addr) (xs : List V) : Prop :=
  Rd H a (.lst xs) ∨ ∃ (its : List Value) (n : Nat), K.lookup a = some { cls := .type "list", data := .seq its.toArray n } ∧ its.length ≤ sizeLine ∧ Vals xs its
theorem sqx_sub {K : PySem.W.Frag} {F F' : Hp} {a : Addr} {xs : List V} (e : Sub F F') (h : SqX K F a xs) : SqX K F' a xs := h.imp (rd_sub e) fun h => h
theorem sqx_l {K : PySem.W.Frag} {F : Hp} {a : Addr} {xs : List V} (h : SqX K F a xs) : SqL K F a xs := by
  rcases h with h | ⟨its, n, h1, h2, h3⟩
  · exact .inl h
  · exact .inr ⟨_, its.toArray, n, h1, rfl, rfl, rfl, by simpa using h2, by simpa using h3⟩
/-- a key as data -/
def keyD : Key → D
  | .inl i => .int i
  | .inr x => .str x
mutual
/-- the value says d, by objects of F (which never change) -/
def Rep (K : PySem.W.Frag) (F : Hp) : D → V → Prop
  | .none, v => v = .non
  | .bool b, v => v = .bl b
  | .int i, v => v = .int i
  | .str x, v => v = .str x
  | .tuple ds, v => ∃ a vs, v = .ref a ∧ SqT K F a vs ∧ Reps K F ds vs
  | .list ds, v => ∃ a vs, v = .ref a ∧ SqX K F a vs ∧ Reps K F ds vs
  | .dict kvs, v => ∃ a, v = .ref a ∧ ((∃ ps, F a = some (.dK ps) ∧ RepsK K F kvs ps) ∨ ∃ ps, F a = some (.dT ps) ∧ RepsT K F kvs ps)
def Reps (K : PySem.W.Frag) (F : Hp) : List D → List V → Prop
  | [], vs => vs = []
  | d :: ds, vs => ∃ v r, vs = v :: r ∧ Rep K F d v ∧ Reps K F ds r
def RepsK (K : PySem.W.Frag) (F : Hp) : List (D × D) → List (Key × V) → Prop
  | [], ps => ps = []
  | (k, d) :: r, ps => ∃ x v q, ps = (x, v) :: q ∧ k = keyD x ∧ Rep K F d v ∧ RepsK K F r q
def RepsT (K : PySem.W.Frag) (F : Hp) : List (D × D) → List (List Key × V) → Prop
  | [], ps => ps = []
  | (k, d) :: r, ps => ∃ x v q, ps = (x, v) :: q ∧ k = .tuple (x.map keyD) ∧ Rep K F d v ∧ RepsT K F r q
end
mutual
theorem Rep.mono {K : PySem.W.Frag} {F F' : Hp} (e : Sub F F') : ∀ (d : D) (v : V), Rep K F d v → Rep K F' d v
  | .none, _, h => by simpa only [Rep] using h
  | .bool _, _, h => by simpa only [Rep] using h
  | .int _, _, h => by simpa only [Rep] using h
  | .str _, _, h => by simpa only [Rep] using h
  | .tuple ds, v, h => by
    simp only [Rep] at h ⊢
    obtain ⟨a, vs, h1, h2, h3⟩ := h
    exact ⟨a, vs, h1, sqt_sub e h2, Reps.mono e ds vs h3⟩
  | .list ds, v, h => by
    simp only [Rep] at h ⊢
    obtain ⟨a, vs, h1, h2, h3⟩ := h
    exact ⟨a, vs, h1, sqx_sub e h2, Reps.mono e ds vs h3⟩
  | .dict kvs, v, h => by
    simp only [Rep] at h ⊢
    obtain ⟨a, h1, h2⟩ := h
    refine ⟨a, h1, ?_⟩
    rcases h2 with ⟨ps, h2, h3⟩ | ⟨ps, h2, h3⟩
    · exact .inl ⟨ps, e _ _ h2, RepsK.mono e kvs ps h3⟩
    · exact .inr ⟨ps, e _ _ h2, RepsT.mono e kvs ps h3⟩
theorem Reps.mono {K : PySem.W.Frag} {F F' : Hp} (e : Sub F F') : ∀ (ds : List D) (vs : List V), Reps K F ds vs → Reps K F' ds vs
  | [], _, h => by simpa only [Reps] using h
  | d :: ds, vs, h => by
    simp only [Reps] at h ⊢
    obtain ⟨v, r, h1, h2, h3⟩ := h
    exact ⟨v, r, h1, Rep.mono e d v h2, Reps.mono e ds r h3⟩
theorem RepsK.mono {K : PySem.W.Frag} {F F' : Hp} (e : Sub F F') : ∀ (ds : List (D × D)) (vs : List (Key × V)), RepsK K F ds vs → RepsK K F' ds vs
  | [], _, h => by simpa only [RepsK] using h
  | (k, d) :: ds, vs, h => by
    simp only [RepsK] at h ⊢
    obtain ⟨x, v, r, h1, h2, h3, h4⟩ := h
    exact ⟨x, v, r, h1, h2, Rep.mono e d v h3, RepsK.mono e ds r h4⟩
theorem RepsT.mono {K : PySem.W.Frag} {F F' : Hp} (e : Sub F F') : ∀ (ds : List (D × D)) (vs : List (List Key × V)), RepsT K F ds vs → RepsT K F' ds vs
  | [], _, h => by simpa only [RepsT] using h
  | (k, d) :: ds, vs, h => by
    simp only [RepsT] at h ⊢
    obtain ⟨x, v, r, h1, h2, h3, h4⟩ := h
    exact ⟨x, v, r, h1, h2, Rep.mono e d v h3, RepsT.mono e ds r h4⟩
end
/-- an object's content says d -/
def RepO (K : PySem.W.Frag) (F : Hp) : D → HO → Prop
  | .list ds, o => ∃ vs, o = .lst vs ∧ Reps K F ds vs
  | .dict kvs, o => (∃ ps, o = .dK ps ∧ RepsK K F kvs ps) ∨ ∃ ps, o = .dT ps ∧ RepsT K F kvs ps
  | _, _ => False
theorem RepO.mono {K : PySem.W.Frag} {F F' : Hp} (e : Sub F F') {d : D} {o : HO} (h : RepO K F d o) : RepO K F' d o := by
  cases d with
  | list ds => obtain ⟨vs, h1, h2⟩ := h; exact ⟨vs, h1, Reps.mono e _ _ h2⟩
  | dict kvs =>
    rcases h with ⟨ps, h1, h2⟩ | ⟨ps, h1, h2⟩
    · exact .inl ⟨ps, h1, RepsK.mono e _ _ h2⟩
    · exact .inr ⟨ps, h1, RepsT.mono e _ _ h2⟩
  | _ => exact h.elim
/-- the object at p says d once F holds it -/
theorem RepO.rep {K : PySem.W.Frag} {F : Hp} {d : D} {o : HO} {p : Addr} (h : RepO K F d o) (hp : F p = some o) : Rep K F d (.ref p) := by
  cases d with
  | list ds =>
    obtain ⟨vs, h1, h2⟩ := h
    subst h1
    simp only [Rep]
    exact ⟨p, vs, rfl, .inl (.inl hp), h2⟩
  | dict kvs =>
    simp only [Rep]
    rcases h with ⟨ps, h1, h2⟩ | ⟨ps, h1, h2⟩
    · subst h1; exact ⟨p, rfl, .inl ⟨ps, hp, h2⟩⟩
    · subst h1; exact ⟨p, rfl, .inr ⟨ps, hp, h2⟩⟩
  | _ => exact h.elim
/-- the value says d now -/
def Vw (K : PySem.W.Frag) (F H : Hp) : D → V → Prop
  | .none, v => v = .non
  | .bool b, v => v = .bl b
  | .int i, v => v = .int i
  | .str x, v => v = .str x
  | .tuple ds, v => ∃ a vs, v = .ref a ∧ SqT K F a vs ∧ Reps K F ds vs
  | .list ds, v => ∃ a vs, v = .ref a ∧ SqX K H a vs ∧ Reps K F ds vs
  | .dict kvs, v => ∃ a, v = .ref a ∧ ((∃ ps, H a = some (.dK ps) ∧ RepsK K F kvs ps) ∨ ∃ ps, H a = some (.dT ps) ∧ RepsT K F kvs ps)
theorem Rep.vw {K : PySem.W.Frag} {F H : Hp} (e : Sub F H) {d : D} {v : V} (h : Rep K F d v) : Vw K F H d v := by
  cases d with
  | tuple ds => simp only [Rep] at h; exact h
  | list ds => simp only [Rep] at h; obtain ⟨a, vs, h1, h2, h3⟩ := h; exact ⟨a, vs, h1, sqx_sub e h2, h3⟩
  | dict kvs =>
    simp only [Rep] at h
    obtain ⟨a, h1, h2⟩ := h
    refine ⟨a, h1, ?_⟩
    rcases h2 with ⟨ps, h2, h3⟩ | ⟨ps, h2, h3⟩
    · exact .inl ⟨ps, e _ _ h2, h3⟩
    · exact .inr ⟨ps, e _ _ h2, h3⟩
  | none => simp only [Rep] at h; exact h
  | bool _ => simp only [Rep] at h; exact h
  | int _ => simp only [Rep] at h; exact h
  | str _ => simp only [Rep] at h; exact h
theorem RepO.vw {K : PySem.W.Frag} {F H : Hp} {d : D} {o : HO} {p : Addr} (h : RepO K F d o) (hp : H p = some o) : Vw K F H d (.ref p) := by
  cases d with
  | list ds =>
    obtain ⟨vs, h1, h2⟩ := h
    subst h1
    exact ⟨p, vs, rfl, .inl (.inl hp), h2⟩
  | dict kvs =>
    rcases h with ⟨ps, h1, h2⟩ | ⟨ps, h1, h2⟩
    · subst h1; exact ⟨p, rfl, .inl ⟨ps, hp, h2⟩⟩
    · subst h1; exact ⟨p, rfl, .inr ⟨ps, hp, h2⟩⟩
  | _ => exact h.elim
theorem Vw.mono {K : PySem.W.Frag} {F F' H : Hp} (e : Sub F F') {d : D} {v : V} (h : Vw K F H d v) : Vw K F' H d v := by
  cases d with
  | tuple ds => obtain ⟨a, vs, h1, h2, h3⟩ := h; exact ⟨a, vs, h1, sqt_sub e h2, Reps.mono e _ _ h3⟩
  | list ds => obtain ⟨a, vs, h1, h2, h3⟩ := h; exact ⟨a, vs, h1, h2, Reps.mono e _ _ h3⟩
  | dict kvs =>
    obtain ⟨a, h1, h2⟩ := h
    refine ⟨a, h1, ?_⟩
    rcases h2 with ⟨ps, h2, h3⟩ | ⟨ps, h2, h3⟩
    · exact .inl ⟨ps, h2, RepsK.mono e _ _ h3⟩
    · exact .inr ⟨ps, h2, RepsT.mono e _ _ h3⟩
  | _ => exact h
/-- what stands around: objects that must stay as they are though F does not hold them; the cup's place; what never changes -/
structure Gh where
  pr : Hp
  cup : Option Addr
  F : Hp
structure Up (g g' : Gh) : Prop where
  p : g'.pr = g.pr
  c : ∀ a, g.cup = some a → g'.cup = some a
  s : Sub g.F g'.F
theorem Up.refl (g : Gh) : Up g g := ⟨rfl, fun _ h => h, Sub.refl _⟩
theorem Up.trans {g g1 g2 : Gh} (a : Up g g1) (b : Up g1 g2) : Up g g2 := ⟨b.p.trans a.p, fun x h => b.c x (a.c x h), a.s.trans b.s⟩
structure Rel (K : PySem.W.Frag) (g : Gh) (σ : L2.St) (H : Hp) (s : Sta) : Prop where
  sub : Sub g.F H
  pr : ∀ a o, g.pr a = some o → H a = some o ∧ g.F a = none ∧ g.cup ≠ some a
  len : s.env.length = σ.length
  sh : ∀ (i : Nat) (d : D), s.env[i]? = some (Slot.sh d) → ∃ v, σ[i]? = some (some v) ∧ Rep K g.F d v
  ow : ∀ (i : Nat) (d : D), s.env[i]? = some (Slot.ow d) → ∃ p o, σ[i]? = some (some (V.ref p)) ∧ g.F p = none ∧ g.pr p = none ∧ H p = some o ∧ RepO K g.F d o ∧ g.cup ≠ some p
  sep : ∀ (i j : Nat) (d d' : D), s.env[i]? = some (Slot.ow d) → s.env[j]? = some (Slot.ow d') → σ[i]? = σ[j]? → i = j
  cupS : ∀ (i : Nat), s.env[i]? = some Slot.cup → ∃ a, g.cup = some a ∧ σ[i]? = some (some (V.ref a))
  cupN : s.cup = none → g.cup = none
  cupV : ∀ ds, s.cup = some ds → ∃ a vs, g.cup = some a ∧ g.F a = none ∧ H a = some (.lst vs) ∧ Reps K g.F ds vs
/-- what a value is, just made -/
def RVal (K : PySem.W.Frag) (g : Gh) (σ : L2.St) (H : Hp) (s : Sta) : RV → V → Prop
  | .sh d, v => Rep K g.F d v
  | .fr d, v => ∃ p o, v = .ref p ∧ g.F p = none ∧ g.pr p = none ∧ H p = some o ∧ RepO K g.F d o ∧ g.cup ≠ some p ∧ ∀ (i : Nat) (d' : D), s.env[i]? = some (Slot.ow d') → σ[i]? ≠ some (some (V.ref p))
  | .sl i, v => σ[i]? = some (some v)
/-- .. and later -/
def RVz (K : PySem.W.Frag) (F : Hp) (σ : L2.St) : RV → V → Prop
  | .sh d, v => Rep K F d v
  | .fr d, v => Rep K F d v
  | .sl i, v => σ[i]? = some (some v)
theorem RVz.mono {K : PySem.W.Frag} {F F' : Hp} {σ : L2.St} (e : Sub F F') {r : RV} {v : V} (h : RVz K F σ r v) : RVz K F' σ r v := by
  cases r with
  | sh d => exact Rep.mono e d v h
  | fr d => exact Rep.mono e d v h
  | sl i => exact h
section
variable {K : PySem.W.Frag} {g : Gh} {σ : L2.St} {H : Hp} {s : Sta}
/-- an object that only this def holds is never changed any more -/
theorem Rel.frz (R : Rel K g σ H s) {p : Addr} {o : HO} (hF : g.F p = none) (h0 : g.pr p = none) (hp : H p = some o) (hc : g.cup ≠ some p) (hn : ∀ (i : Nat) (d' : D), s.env[i]? = some (Slot.ow d') → σ[i]? ≠ some (some (V.ref p))) :
    Up g { g with F := upd g.F p o } ∧ Rel K { g with F := upd g.F p o } σ H s := by
  have e : Sub g.F (upd g.F p o) := fun a u h => by
    rw [upd_ne (ne_of_none h hF)]
    exact h
  refine ⟨⟨rfl, fun _ h => h, e⟩, fun a u h => ?_, fun a u h => ?_, R.len, fun i d h => ?_, fun i d h => ?_, R.sep, R.cupS, R.cupN, fun ds h => ?_⟩
  · by_cases ha : a = p
    · subst ha
      rw [show ({ g with F := upd g.F a o } : Gh).F = upd g.F a o from rfl, upd_same] at h
      rw [hp, ← h]
    · rw [show ({ g with F := upd g.F p o } : Gh).F = upd g.F p o from rfl, upd_ne ha] at h
      exact R.sub a u h
  · obtain ⟨h1, h2, h3⟩ := R.pr a u h
    refine ⟨h1, ?_, h3⟩
    show upd g.F p o a = none
    rw [upd_ne (fun z => by
      rw [z] at h
      have h : g.pr p = some u := h
      rw [h0] at h; cases h)]
    exact h2
  · obtain ⟨v, h1, h2⟩ := R.sh i d h
    exact ⟨v, h1, Rep.mono e d v h2⟩
  · obtain ⟨q, u, h1, h2, h3, h4, h5, h6⟩ := R.ow i d h
    refine ⟨q, u, h1, ?_, h3, h4, h5.mono e, h6⟩
    show upd g.F p o q = none
    rw [upd_ne (fun z => hn i d h (by rw [h1, z]))]
    exact h2
  · obtain ⟨a, vs, h0, h1, h2, h3⟩ := R.cupV ds h
    refine ⟨a, vs, h0, ?_, h2, Reps.mono e _ _ h3⟩
    show upd g.F p o a = none
    rw [upd_ne (fun z => hc (by rw [h0, z]))]
    exact h1
/-- a value just made, kept -/
theorem Rel.z (R : Rel K g σ H s) {r : RV} {v : V} (h : RVal K g σ H s r v) : ∃ g', Up g g' ∧ Rel K g' σ H s ∧ RVz K g'.F σ r v := by
  cases r with
  | sh d => exact ⟨g, .refl g, R, h⟩
  | sl i => exact ⟨g, .refl g, R, h⟩
  | fr d =>
    obtain ⟨p, o, e, h1, h2, h3, h4, h5, h6⟩ := h
    subst e
    obtain ⟨u, R'⟩ := R.frz h1 h2 h3 h5 h6
    exact ⟨_, u, R', (h4.mono u.s).rep (by show upd g.F p o p = some o; exact upd_same)⟩
/-- what is read -/
theorem Rel.rd (R : Rel K g σ H s) {r : RV} {v : V} {d : D} (h : RVz K g.F σ r v) (e : Yd.rd s r = .ok d) : Vw K g.F H d v := by
  cases r with
  | sh d' => cases e; exact Rep.vw R.sub h
  | fr d' => cases e; exact Rep.vw R.sub h
  | sl i =>
    have h : σ[i]? = some (some v) := h
    have e : rdSlot s.env[i]? s.cup = .ok d := e
    cases he : s.env[i]? with
    | none => rw [he] at e; cases e
    | some x =>
      rw [he] at e
      cases x with
      | un => cases e
      | sh d' =>
        cases e
        obtain ⟨v', h1, h2⟩ := R.sh i d he
        rw [h] at h1
        cases h1
        exact Rep.vw R.sub h2
      | ow d' =>
        cases e
        obtain ⟨p, o, h1, h2, h3, h4, h5, h6⟩ := R.ow i d he
        rw [h] at h1
        cases h1
        exact h5.vw h4
      | cup =>
        cases hc : s.cup with
        | none => rw [hc] at e; cases e
        | some ds =>
          rw [hc] at e
          cases e
          obtain ⟨a, h0, h1⟩ := R.cupS i he
          rw [h] at h1
          cases h1
          obtain ⟨b, vs, h2, h3, h4, h5⟩ := R.cupV ds hc
          rw [h0] at h2
          cases h2
          exact ⟨a, vs, rfl, .inl (.inl h4), h5⟩
theorem set_get {α : Type} {l : List α} {i j : Nat} {x y : α} (h : (l.set i x)[j]? = some y) : (i = j ∧ y = x ∧ i < l.length) ∨ (i ≠ j ∧ l[j]? = some y) := by
  by_cases e : i = j
  · subst e
    by_cases hl : i < l.length
    · rw [List.getElem?_set_self hl] at h
      cases h
      exact .inl ⟨rfl, rfl, hl⟩
    · rw [List.getElem?_eq_none (by simpa using hl)] at h
      cases h
  · rw [List.getElem?_set_ne e] at h
    exact .inr ⟨e, h⟩
/-- what is kept elsewhere -/
theorem Rel.tk (R : Rel K g σ H s) {r : RV} {v : V} {d : D} {s' : Sta} (h : RVz K g.F σ r v) (e : Yd.tk s r = .ok (d, s')) : ∃ g', Up g g' ∧ Rel K g' σ H s' ∧ Rep K g'.F d v := by
  cases r with
  | sh d' => cases e; exact ⟨g, .refl g, R, h⟩
  | fr d' => cases e; exact ⟨g, .refl g, R, h⟩
  | sl i =>
    have h : σ[i]? = some (some v) := h
    have e : tkSlot s i s.env[i]? = .ok (d, s') := e
    cases he : s.env[i]? with
    | none => rw [he] at e; cases e
    | some x =>
    rw [he] at e
    cases x with
    | un => cases e
    | cup => cases e
    | sh d' =>
      cases e
      obtain ⟨v', h1, h2⟩ := R.sh i d he
      rw [h] at h1
      cases h1
      exact ⟨g, .refl g, R, h2⟩
    | ow d' =>
      cases e
      obtain ⟨p, o, h1, h2, h3, h4, h5, h6⟩ := R.ow i d he
      rw [h] at h1
      cases h1
      -- the slot holds what never changes
      have R2 : Rel K g σ H { s with env := s.env.set i .un } := by
        refine ⟨R.sub, R.pr, by simpa using R.len, fun j d' hj => ?_, fun j d' hj => ?_, fun j k d1 d2 hj hk => ?_, fun j hj => ?_, R.cupN, R.cupV⟩
        · rcases set_get hj with ⟨_, z, _⟩ | ⟨_, z⟩
          · cases z
          · exact R.sh j d' z
        · rcases set_get hj with ⟨_, z, _⟩ | ⟨_, z⟩
          · cases z
          · exact R.ow j d' z
        · rcases set_get hj with ⟨_, z, _⟩ | ⟨_, z⟩
          · cases z
          · rcases set_get hk with ⟨_, z', _⟩ | ⟨_, z'⟩
            · cases z'
            · exact R.sep j k d1 d2 z z'
        · rcases set_get hj with ⟨_, z, _⟩ | ⟨_, z⟩
          · cases z
          · exact R.cupS j z
      obtain ⟨u, R3⟩ := R2.frz h2 h3 h4 h6 (fun j d' hj z => by
        rcases set_get hj with ⟨_, z', _⟩ | ⟨ne, z'⟩
        · cases z'
        · exact ne (R.sep i j d d' he z' (h.trans z.symm)))
      have hv : Rep K (upd g.F p o) d (.ref p) := (h5.mono u.s).rep upd_same
      refine ⟨_, u, ⟨R3.sub, R3.pr, by simpa using R.len, fun j d' hj => ?_, fun j d' hj => ?_, fun j k d1 d2 hj hk => ?_, fun j hj => ?_, R3.cupN, R3.cupV⟩, hv⟩
      · rcases set_get hj with ⟨ej, z, _⟩ | ⟨ne, z⟩
        · subst ej
          cases z
          exact ⟨_, h, hv⟩
        · exact R3.sh j d' (by show (s.env.set i .un)[j]? = _; rw [List.getElem?_set_ne ne]; exact z)
      · rcases set_get hj with ⟨_, z, _⟩ | ⟨ne, z⟩
        · cases z
        · exact R3.ow j d' (by show (s.env.set i .un)[j]? = _; rw [List.getElem?_set_ne ne]; exact z)
      · rcases set_get hj with ⟨_, z, _⟩ | ⟨_, z⟩
        · cases z
        · rcases set_get hk with ⟨_, z', _⟩ | ⟨_, z'⟩
          · cases z'
          · exact R.sep j k d1 d2 z z'
      · rcases set_get hj with ⟨_, z, _⟩ | ⟨ne, z⟩
        · cases z
        · exact R3.cupS j (by show (s.env.set i .un)[j]? = _; rw [List.getElem?_set_ne ne]; exact z)
end
end Yd

namespace Yd
open PySem PySem.Spec PyProof.Rows L2
theorem bind_ok {α β : Type} {r : Res α} {f : α → Res β} {b : β} (h : (r >>= f) = .ok b) : ∃ a, r = .ok a ∧ f a = .ok b := by
  cases r with
  | ok a => exact ⟨a, rfl, h⟩
  | err x => cases h
  | no => cases h
theorem guard_ok {b : Bool} {u : Unit} (h : Res.guard b = .ok u) : b = true := by
  cases b with
  | true => rfl
  | false => cases h
/-! readings -/
def T (K : PySem.W.Frag) (m : M) : TE := fun σ H Q => ∃ g s r s', Rel K g σ H s ∧ m s = .ok (r, s') ∧ ∀ g' v H', Up g g' → Rel K g' σ H' s' → RVal K g' σ H' s' r v → Q v H'
def Tt (K : PySem.W.Frag) (t : MT) : TT := fun σ H Q => ∃ g s b s', Rel K g σ H s ∧ t s = .ok (b, s') ∧ ∀ g' H', Up g g' → Rel K g' σ H' s' → Q b H'
def RVzs (K : PySem.W.Frag) (F : Hp) (σ : L2.St) : List RV → List V → Prop
  | [], vs => vs = []
  | r :: rs, vs => ∃ v q, vs = v :: q ∧ RVz K F σ r v ∧ RVzs K F σ rs q
def Ta (K : PySem.W.Frag) (ms : List M) : TA := fun σ H Q => ∃ g s rs s', Rel K g σ H s ∧ mL ms s = .ok (rs, s') ∧ ∀ g' vs H', Up g g' → Rel K g' σ H' s' → RVzs K g'.F σ rs vs → Q vs H'
theorem RVzs.mono {K : PySem.W.Frag} {F F' : Hp} {σ : L2.St} (e : Sub F F') : ∀ {rs : List RV} {vs : List V}, RVzs K F σ rs vs → RVzs K F' σ rs vs
  | [], _, h => h
  | _ :: _, _, ⟨v, q, h1, h2, h3⟩ => ⟨v, q, h1, h2.mono e, RVzs.mono e h3⟩
theorem _root_.L2.PE.pre {X : Cx} {e : Expr} {t t' : TE} (h : PE X e t) (i : ∀ σ H Q, t' σ H Q → t σ H Q) : PE X e t' := ⟨fun pins s σ H Q I q => h.run pins s σ H Q I (i σ H Q q)⟩
theorem _root_.L2.PT.pre {X : Cx} {e : Expr} {t t' : TT} (h : PT X e t) (i : ∀ σ H Q, t' σ H Q → t σ H Q) : PT X e t' := ⟨fun pins s σ H Q I q => h.run pins s σ H Q I (i σ H Q q)⟩
theorem _root_.L2.PA.pre {X : Cx} {e : List Expr} {t t' : TA} (h : PA X e t) (i : ∀ σ H Q, t' σ H Q → t σ H Q) : PA X e t' := ⟨fun pos pins s σ H Q I q => h.run pos pins s σ H Q I (i σ H Q q)⟩
theorem _root_.L2.PS.pre {X : Cx} {e : Stmt} {t t' : TS} (h : PS X e t) (i : ∀ D σ H, t' D σ H → t D σ H) : PS X e t' := ⟨fun pins s σ H D I q => h.run pins s σ H D I (i D σ H q)⟩
theorem _root_.L2.PSs.pre {X : Cx} {e : List Stmt} {t t' : TS} (h : PSs X e t) (i : ∀ D σ H, t' D σ H → t D σ H) : PSs X e t' := ⟨fun pins s σ H D I q => h.run pins s σ H D I (i D σ H q)⟩
/-- where one stands: the def's names, its scope, the calls' level -/
structure Cn where
  P : Program
  w : World
  K : PySem.W.Frag
  mg : Str → Option Value
  base : Heap
  N : List Str
  sc : Scope
  lvl : Nat
structure Cn.Ok (c : Cn) (X : Cx) : Prop where
  P : X.prog = c.P
  w : X.w = c.w
  K : X.K = c.K
  mg : X.mg = c.mg
  base : X.base = c.base
  N : X.N = c.N
  sc : X.env.scope = c.sc
  nd : c.N.Nodup
  calm : X.calm = true
  room : Room c.lvl X.A
  own : PassesOwn (model X.prog X.w) X.A X.env X.xe
  gd : X.A.guards = some []
def SE (c : Cn) (e : Expr) (m : M) : Prop := ∀ X, c.Ok X → PE X e (T X.K m)
def STs (c : Cn) (e : Expr) (t : MT) : Prop := ∀ X, c.Ok X → PT X e (Tt X.K t)
def SA (c : Cn) (es : List Expr) (ms : List M) : Prop := ∀ X, c.Ok X → PA X es (Ta X.K ms)
section
variable {K : PySem.W.Frag} {g : Gh} {σ : L2.St} {H : Hp} {s : Sta}
/-! what is made -/
theorem Rel.fresh (R : Rel K g σ H s) {p : Addr} (hp : H p = none) : g.F p = none ∧ g.pr p = none ∧ g.cup ≠ some p := by
  refine ⟨?_, ?_, fun z => ?_⟩
  · cases e : g.F p with
    | none => rfl
    | some o => rw [R.sub p o e] at hp; cases hp
  · cases e : g.pr p with
    | none => rfl
    | some o => rw [(R.pr p o e).1] at hp; cases hp
  · cases e : s.cup with
    | none => rw [R.cupN e] at z; cases z
    | some ds =>
      obtain ⟨a, vs, h0, _, h2, _⟩ := R.cupV ds e
      rw [h0] at z
      cases z
      rw [hp] at h2
      cases h2
theorem Rel.more (R : Rel K g σ H s) {p : Addr} {o : HO} (hp : H p = none) : Rel K g σ (upd H p o) s := by
  have e : Sub H (upd H p o) := fun a u h => by
    rw [upd_ne (ne_of_none h hp)]
    exact h
  refine ⟨R.sub.trans e, fun a u h => ?_, R.len, R.sh, fun i d h => ?_, R.sep, R.cupS, R.cupN, fun ds h => ?_⟩
  · obtain ⟨h1, h2, h3⟩ := R.pr a u h
    exact ⟨e a u h1, h2, h3⟩
  · obtain ⟨q, u, h1, h2, h3, h4, h5, h6⟩ := R.ow i d h
    exact ⟨q, u, h1, h2, h3, e _ _ h4, h5, h6⟩
  · obtain ⟨a, vs, h0, h1, h2, h3⟩ := R.cupV ds h
    exact ⟨a, vs, h0, h1, e _ _ h2, h3⟩
/-- a new list, a new dict -/
theorem Rel.made (R : Rel K g σ H s) {p : Addr} {o : HO} {d : D} (hp : H p = none) (h : RepO K g.F d o) : Rel K g σ (upd H p o) s ∧ RVal K g σ (upd H p o) s (.fr d) (.ref p) := by
  obtain ⟨h1, h2, h3⟩ := R.fresh hp
  refine ⟨R.more hp, p, o, rfl, h1, h2, upd_same, h, h3, fun i d' hi z => ?_⟩
  obtain ⟨q, u, e1, e2, e3, e4, e5, e6⟩ := R.ow i d' hi
  rw [z] at e1
  cases e1
  rw [hp] at e4
  cases e4
/-- a new tuple -/
theorem Rel.madeT (R : Rel K g σ H s) {p : Addr} {vs : List V} {ds : List D} (hp : H p = none) (h : Reps K g.F ds vs) : ∃ g', Up g g' ∧ Rel K g' σ (upd H p (.tup vs)) s ∧ Rep K g'.F (.tuple ds) (.ref p) := by
  obtain ⟨h1, h2, h3⟩ := R.fresh hp
  obtain ⟨u, R'⟩ := (R.more hp (o := .tup vs)).frz h1 h2 upd_same h3 fun i d' hi z => by
    obtain ⟨q, u, e1, e2, e3, e4, e5, e6⟩ := R.ow i d' hi
    rw [z] at e1
    cases e1
    rw [hp] at e4
    cases e4
  refine ⟨_, u, R', ?_⟩
  simp only [Rep]
  exact ⟨p, vs, rfl, .inl (.inl (by show upd g.F p (.tup vs) p = _; exact upd_same)), Reps.mono u.s _ _ h⟩
end
/-! operations on values that are read -/
def Sem2 (K : PySem.W.Frag) (r : R2) (f : D → D → Res RV) : Prop := ∀ (g : Gh) (σ : L2.St) (H : Hp) (s : Sta) (x y : V) (d1 d2 : D) (rv : RV) (Q : VK), Rel K g σ H s → Vw K g.F H d1 x → Vw K g.F H d2 y → f d1 d2 = .ok rv →
  (∀ g' v H', Up g g' → Rel K g' σ H' s → RVal K g' σ H' s rv v → Q v H') → r x y H Q
def Sem1 (K : PySem.W.Frag) (r : V → Hp → VK → Prop) (f : D → Res RV) : Prop := ∀ (g : Gh) (σ : L2.St) (H : Hp) (s : Sta) (x : V) (d : D) (rv : RV) (Q : VK), Rel K g σ H s → Vw K g.F H d x → f d = .ok rv →
  (∀ g' v H', Up g g' → Rel K g' σ H' s → RVal K g' σ H' s rv v → Q v H') → r x H Q
def Vws (K : PySem.W.Frag) (F H : Hp) : List D → List V → Prop
  | [], vs => vs = []
  | d :: ds, vs => ∃ v q, vs = v :: q ∧ Vw K F H d v ∧ Vws K F H ds q
def SemN (K : PySem.W.Frag) (r : List V → Hp → VK → Prop) (f : List D → Res RV) : Prop := ∀ (g : Gh) (σ : L2.St) (H : Hp) (s : Sta) (xs : List V) (ds : List D) (rv : RV) (Q : VK), Rel K g σ H s → Vws K g.F H ds xs → f ds = .ok rv →
  (∀ g' v H', Up g g' → Rel K g' σ H' s → RVal K g' σ H' s rv v → Q v H') → r xs H Q
theorem Rel.rds {K : PySem.W.Frag} {g : Gh} {σ : L2.St} {H : Hp} {s : Sta} (R : Rel K g σ H s) : ∀ {rs : List RV} {vs : List V} {ds : List D}, RVzs K g.F σ rs vs → Yd.rds s rs = .ok ds → Vws K g.F H ds vs
  | [], vs, ds, h, e => by cases e; exact h
  | r :: rs, vs, ds, h, e => by
    obtain ⟨v, q, rfl, h2, h3⟩ := h
    obtain ⟨d, e1, e⟩ := bind_ok e
    obtain ⟨dr, e2, e⟩ := bind_ok e
    cases e
    exact ⟨v, q, rfl, R.rd h2 e1, R.rds h3 e2⟩
theorem Rel.tks {K : PySem.W.Frag} {σ : L2.St} {H : Hp} : ∀ {g : Gh} {s : Sta} {rs : List RV} {vs : List V} {ds : List D} {s' : Sta}, Rel K g σ H s → RVzs K g.F σ rs vs → Yd.tks rs s = .ok (ds, s') → ∃ g', Up g g' ∧ Rel K g' σ H s' ∧ Reps K g'.F ds vs
  | g, s, [], vs, ds, s', R, h, e => by cases e; exact ⟨g, .refl g, R, by have h : vs = [] := h; simpa only [Reps] using h⟩
  | g, s, r :: rs, vs, ds, s', R, h, e => by
    obtain ⟨v, q, rfl, h2, h3⟩ := h
    obtain ⟨⟨d, s1⟩, e1, e⟩ := bind_ok e
    obtain ⟨⟨dr, s2⟩, e2, e⟩ := bind_ok e
    cases e
    obtain ⟨g1, u1, R1, z1⟩ := R.tk h2 e1
    obtain ⟨g2, u2, R2, z2⟩ := Rel.tks R1 (h3.mono u1.s) e2
    refine ⟨g2, u1.trans u2, R2, ?_⟩
    simp only [Reps]
    exact ⟨v, q, rfl, Rep.mono u2.s _ _ z1, z2⟩
section
variable {K : PySem.W.Frag}
theorem t_m2 {r : R2} {f : D → D → Res RV} (hf : Sem2 K r f) {ma mb : M} {σ : L2.St} {H : Hp} {Q : VK} (h : T K (m2 f ma mb) σ H Q) : tOp r (T K ma) (T K mb) σ H Q := by
  obtain ⟨g, s, r0, s', R, hm, hq⟩ := h
  obtain ⟨⟨r1, s1⟩, e1, hm⟩ := bind_ok hm
  obtain ⟨⟨r2, s2⟩, e2, hm⟩ := bind_ok hm
  obtain ⟨d1, e3, hm⟩ := bind_ok hm
  obtain ⟨d2, e4, hm⟩ := bind_ok hm
  obtain ⟨v, e5, hm⟩ := bind_ok hm
  cases hm
  refine ⟨g, s, r1, s1, R, e1, fun g1 x H1 u1 R1 hx => ?_⟩
  obtain ⟨g1', u1', R1', z1⟩ := R1.z hx
  refine ⟨g1', s1, r2, s', R1', e2, fun g2 y H2 u2 R2 hy => ?_⟩
  obtain ⟨g2', u2', R2', z2⟩ := R2.z hy
  have z1' := z1.mono (u2.s.trans u2'.s)
  exact hf g2' σ H2 s' x y d1 d2 r0 Q R2' (R2'.rd z1' e3) (R2'.rd z2 e4) e5 fun g' v H' u R hv => hq g' v H' (u1.trans (u1'.trans (u2.trans (u2'.trans u)))) R hv
theorem t_m1 {r : V → Hp → VK → Prop} {f : D → Res RV} (hf : Sem1 K r f) {ma : M} {σ : L2.St} {H : Hp} {Q : VK} (h : T K (m1 f ma) σ H Q) : tUn r (T K ma) σ H Q := by
  obtain ⟨g, s, r0, s', R, hm, hq⟩ := h
  obtain ⟨⟨r1, s1⟩, e1, hm⟩ := bind_ok hm
  obtain ⟨d1, e3, hm⟩ := bind_ok hm
  obtain ⟨v, e5, hm⟩ := bind_ok hm
  cases hm
  refine ⟨g, s, r1, s', R, e1, fun g1 x H1 u1 R1 hx => ?_⟩
  obtain ⟨g1', u1', R1', z1⟩ := R1.z hx
  exact hf g1' σ H1 s' x d1 r0 Q R1' (R1'.rd z1 e3) e5 fun g' v H' u R hv => hq g' v H' (u1.trans (u1'.trans u)) R hv
theorem t_nil {σ : L2.St} {H : Hp} {Q : List V → Hp → Prop} (h : Ta K [] σ H Q) : tNil σ H Q := by
  obtain ⟨g, s, r0, s', R, hm, hq⟩ := h
  cases hm
  exact hq g [] H (.refl g) R rfl
theorem t_cons {m : M} {ms : List M} {σ : L2.St} {H : Hp} {Q : List V → Hp → Prop} (h : Ta K (m :: ms) σ H Q) : tCons (T K m) (Ta K ms) σ H Q := by
  obtain ⟨g, s, r0, s', R, hm, hq⟩ := h
  obtain ⟨⟨r1, s1⟩, e1, hm⟩ := bind_ok hm
  obtain ⟨⟨rs, s2⟩, e2, hm⟩ := bind_ok hm
  cases hm
  refine ⟨g, s, r1, s1, R, e1, fun g1 x H1 u1 R1 hx => ?_⟩
  obtain ⟨g1', u1', R1', z1⟩ := R1.z hx
  refine ⟨g1', s1, rs, s', R1', e2, fun g2 vs H2 u2 R2 hv => ?_⟩
  exact hq g2 (x :: vs) H2 (u1.trans (u1'.trans u2)) R2 ⟨x, vs, rfl, z1.mono u2.s, hv⟩
end
section
variable {c : Cn}
theorem sa_nil : SA c [] [] := fun X _ => pa_nil.pre fun _ _ _ => t_nil
theorem sa_cons {e : Expr} {es : List Expr} {m : M} {ms : List M} (h : SE c e m) (hr : SA c es ms) (hs : ∀ env : Env, starEach (e :: es) env = (false, eval e env) :: starEach es env := by intro _; rfl) : SA c (e :: es) (m :: ms) :=
  fun X ok => (pa_cons (h X ok) (hr X ok) (hs _)).pre fun _ _ _ => t_cons
theorem se_cst {e : Expr} {d : D} {v : V} (h : ∀ X : Cx, PE X e (tC v)) (hd : ∀ K F, Rep K F d v) : SE c e (mCst d) := fun X ok => (h X).pre fun σ H Q q => by
  obtain ⟨g, s, r0, s', R, hm, hq⟩ := q
  cases hm
  exact hq g v H (.refl g) R (hd _ _)
theorem se_int {i : Int} {j : Nat} {pos : Pos} : SE c (.Constant (.int i) j pos) (mCst (.int i)) := se_cst (v := .int i) (fun _ => pe_int) fun _ _ => by simp only [Rep]
theorem se_bl {b : Bool} {j : Nat} {pos : Pos} : SE c (.Constant (.bool b) j pos) (mCst (.bool b)) := se_cst (v := .bl b) (fun _ => pe_bl) fun _ _ => by simp only [Rep]
theorem se_non {j : Nat} {pos : Pos} : SE c (.Constant .none j pos) (mCst .none) := se_cst (v := .non) (fun _ => pe_non) fun _ _ => by simp only [Rep]
theorem se_str {x : Str} {j : Nat} {pos : Pos} : SE c (.Constant (.str x) j pos) (mCst (.str x)) := se_cst (v := .str x) (fun _ => pe_str) fun _ _ => by simp only [Rep]
/-- a name of the def, in slot i -/
theorem se_var {i : Nat} {x : Str} {pos : Pos} (hN : c.N[i]? = some x) (hv : Vis c.sc x) (hd : (x == ("__debug__" : Str)) = false := by decide) (hcd : (x == ("__classdict__" : Str)) = false := by decide) : SE c (.Name x pos) (mVar i) := fun X ok =>
  (pe_var (X := X) (i := i) (by rw [ok.N]; exact hN) (by rw [ok.sc]; exact hv) hd hcd).pre fun σ H Q q => by
    obtain ⟨g, s, r0, s', R, hm, hq⟩ := q
    unfold mVar at hm
    split at hm
    · rename_i ht
      cases hm
      have hx : ∃ v, σ[i]? = some (some v) := by
        cases he : s.env[i]? with
        | none => rw [he] at ht; cases ht
        | some x =>
          rw [he] at ht
          cases x with
          | un => cases ht
          | sh d => obtain ⟨v, h1, _⟩ := R.sh i d he; exact ⟨v, h1⟩
          | ow d => obtain ⟨p, o, h1, _⟩ := R.ow i d he; exact ⟨_, h1⟩
          | cup => obtain ⟨a, _, h1⟩ := R.cupS i he; exact ⟨_, h1⟩
      obtain ⟨v, hv⟩ := hx
      exact ⟨v, hv, hq g v H (.refl g) R hv⟩
    · cases hm
theorem se_op {op : Operator} {f : D → D → Res RV} {a b : Expr} {ma mb : M} {pos : Pos} (hf : ∀ X, c.Ok X → ∃ r, OpR X (binaryOp op) r ∧ Sem2 X.K r f) (ha : SE c a ma) (hb : SE c b mb) : SE c (.BinOp a op b pos) (m2 f ma mb) := fun X ok => by
  obtain ⟨r, ho, hs⟩ := hf X ok
  exact (pe_op ho (ha X ok) (hb X ok)).pre fun _ _ _ => t_m2 hs
theorem se_un {op : UnaryOp} {f : D → Res RV} {a : Expr} {ma : M} {pos : Pos} (hf : ∀ X, c.Ok X → ∃ r, UnR X (unaryOp op) r ∧ Sem1 X.K r f) (ha : SE c a ma) : SE c (.UnaryOp op a pos) (m1 f ma) := fun X ok => by
  obtain ⟨r, ho, hs⟩ := hf X ok
  exact (pe_un ho (ha X ok)).pre fun _ _ _ => t_m1 hs
/-- comparisons -/
def CmpOk (c : Cn) (op : CmpOp) (f : D → D → Res RV) : Prop := ∀ X, c.Ok X → ∃ r, OpR X (compareOp op) r ∧ Sem2 X.K r f
theorem se_cmp {op : CmpOp} {f : D → D → Res RV} {a b : Expr} {ma mb : M} {pos : Pos} (hf : CmpOk c op f) (ha : SE c a ma) (hb : SE c b mb) (hm : behindInMarks op b = false) : SE c (.Compare a [op] [b] pos) (m2 f ma mb) := fun X ok => by
  obtain ⟨r, ho, hs⟩ := hf X ok
  exact (pe_cmpR ho (ha X ok) (hb X ok) hm).pre fun _ _ _ => t_m2 hs
/-- a test of any expression whose value is a truth value -/
theorem t_of {K : PySem.W.Frag} {m : M} {σ : L2.St} {H : Hp} {Q : Bool → Hp → Prop} (h : Tt K (tOf m) σ H Q) : T K m σ H fun x H' => ∃ k, x = .bl k ∧ Q k H' := by
  obtain ⟨g, s, b, s', R, hm, hq⟩ := h
  obtain ⟨⟨r1, s1⟩, e1, hm⟩ := bind_ok hm
  refine ⟨g, s, r1, s1, R, e1, fun g1 x H1 u1 R1 hx => ?_⟩
  have hm : (match rd s1 r1 with | .ok (.bool b) => Res.ok (b, s1) | _ => .no) = .ok (b, s') := hm
  cases hr : rd s1 r1 with
  | no => rw [hr] at hm; cases hm
  | err _ => rw [hr] at hm; cases hm
  | ok d =>
    rw [hr] at hm
    cases d with
    | bool k =>
      cases hm
      obtain ⟨g1', u1', R1', z1⟩ := R1.z hx
      have hv : x = .bl b := R1'.rd z1 hr
      exact ⟨b, hv, hq g1' H1 (u1.trans u1') R1'⟩
    | _ => cases hm
theorem st_val {e : Expr} {m : M} (h : SE c e m) (he : ∀ (env : Env) (whole : Sem Value), isTrue e env whole = (do let v ← whole; standAt e.pos; holding [v] (truthy v)) := by intro _ _; rfl) : STs c e (tOf m) := fun X ok =>
  (pt_val (h X ok) (he _)).pre fun _ _ _ => t_of
theorem st_cmp {op : CmpOp} {f : D → D → Res RV} {a b : Expr} {ma mb : M} {pos : Pos} (hf : CmpOk c op f) (ha : SE c a ma) (hb : SE c b mb) (hm : behindInMarks op b = false) : STs c (.Compare a [op] [b] pos) (tOf (m2 f ma mb)) := fun X ok => by
  obtain ⟨r, ho, hs⟩ := hf X ok
  exact (pt_cmpR ho (ha X ok) (hb X ok) hm).pre fun _ _ _ q => t_m2 hs (t_of q)
theorem st_not {a : Expr} {t : MT} {pos : Pos} (h : STs c a t) : STs c (.UnaryOp .Not a pos) (Yd.tNot t) := fun X ok => (pt_not (h X ok)).pre fun σ H Q q => by
  obtain ⟨g, s, b, s', R, hm, hq⟩ := q
  obtain ⟨⟨k, s1⟩, e1, hm⟩ := bind_ok hm
  cases hm
  exact ⟨g, s, k, _, R, e1, fun g' H' u R' => hq g' H' u R'⟩
/-- and, or as tests -/
def SW (c : Cn) (e : Expr) (t : MT) : Prop := ∀ X, c.Ok X → PW X e (Tt X.K t)
theorem st_w {e : Expr} {t : MT} (h : SW c e t) : STs c e t := fun X ok => (h X ok).pt
theorem _root_.L2.PW.pre {X : Cx} {e : Expr} {t t' : TT} (h : PW X e t) (i : ∀ σ H Q, t' σ H Q → t σ H Q) : PW X e t' := ⟨fun wh pins s σ H Q I q => h.run wh pins s σ H Q I (i σ H Q q)⟩
theorem sw_and1 {a : Expr} {t : MT} {pos : Pos} (h : STs c a t) : SW c (.BoolOp .And [a] pos) t := fun X ok => pw_and1 (h X ok)
theorem sw_or1 {a : Expr} {t : MT} {pos : Pos} (h : STs c a t) : SW c (.BoolOp .Or [a] pos) t := fun X ok => pw_or1 (h X ok)
theorem t_and {K : PySem.W.Frag} {t u : MT} {σ : L2.St} {H : Hp} {Q : Bool → Hp → Prop} (h : Tt K (Yd.tAnd t u) σ H Q) : L2.tAnd (Tt K t) (Tt K u) σ H Q := by
  obtain ⟨g, s, b, s', R, hm, hq⟩ := h
  obtain ⟨⟨k, s1⟩, e1, hm⟩ := bind_ok hm
  refine ⟨g, s, k, s1, R, e1, fun g' H' u' R' => ?_⟩
  cases k with
  | true => exact ⟨g', s1, b, s', R', hm, fun g2 H2 u2 R2 => hq g2 H2 (u'.trans u2) R2⟩
  | false => cases hm; exact hq g' H' u' R'
theorem t_or {K : PySem.W.Frag} {t u : MT} {σ : L2.St} {H : Hp} {Q : Bool → Hp → Prop} (h : Tt K (Yd.tOr t u) σ H Q) : L2.tOr (Tt K t) (Tt K u) σ H Q := by
  obtain ⟨g, s, b, s', R, hm, hq⟩ := h
  obtain ⟨⟨k, s1⟩, e1, hm⟩ := bind_ok hm
  refine ⟨g, s, k, s1, R, e1, fun g' H' u' R' => ?_⟩
  cases k with
  | true => cases hm; exact hq g' H' u' R'
  | false => exact ⟨g', s1, b, s', R', hm, fun g2 H2 u2 R2 => hq g2 H2 (u'.trans u2) R2⟩
theorem sw_and {a b : Expr} {rest : List Expr} {t u : MT} {pos : Pos} (h : STs c a t) (hb : SW c (.BoolOp .And (b :: rest) pos) u) : SW c (.BoolOp .And (a :: b :: rest) pos) (Yd.tAnd t u) := fun X ok => PW.pre (pw_and (h X ok) (hb X ok)) fun _ _ _ => t_and
theorem sw_or {a b : Expr} {rest : List Expr} {t u : MT} {pos : Pos} (h : STs c a t) (hb : SW c (.BoolOp .Or (b :: rest) pos) u) : SW c (.BoolOp .Or (a :: b :: rest) pos) (Yd.tOr t u) := fun X ok => PW.pre (pw_or (h X ok) (hb X ok)) fun _ _ _ => t_or
/-- .. as values -/
theorem se_one {op : BoolOp} {a : Expr} {m : M} {pos : Pos} (h : SE c a m) : SE c (.BoolOp op [a] pos) m := fun X ok => pe_one (h X ok)
theorem t_vand {K : PySem.W.Frag} {ma mb : M} {σ : L2.St} {H : Hp} {Q : VK} (h : T K (mAnd ma mb) σ H Q) : tAndV (T K ma) (T K mb) σ H Q := by
  obtain ⟨g, s, r0, s', R, hm, hq⟩ := h
  obtain ⟨⟨r1, s1⟩, e1, hm⟩ := bind_ok hm
  refine ⟨g, s, r1, s1, R, e1, fun g1 x H1 u1 R1 hx => ?_⟩
  have hm : (match rd s1 r1 with | .ok (.bool true) => mb s1 | .ok (.bool false) => Res.ok (RV.sh (.bool false), s1) | _ => .no) = .ok (r0, s') := hm
  obtain ⟨g1', u1', R1', z1⟩ := R1.z hx
  cases hr : rd s1 r1 with
  | no => rw [hr] at hm; cases hm
  | err _ => rw [hr] at hm; cases hm
  | ok d =>
    rw [hr] at hm
    cases d with
    | bool k =>
      have hv : x = .bl k := R1'.rd z1 hr
      refine ⟨k, hv, ?_⟩
      cases k with
      | true => exact ⟨g1', s1, r0, s', R1', hm, fun g2 v2 H2 u2 R2 hv2 => hq g2 v2 H2 (u1.trans (u1'.trans u2)) R2 hv2⟩
      | false => cases hm; exact hq g1' _ H1 (u1.trans u1') R1' (by show Rep _ _ _ _; simp only [Rep])
    | _ => cases hm
theorem t_vor {K : PySem.W.Frag} {ma mb : M} {σ : L2.St} {H : Hp} {Q : VK} (h : T K (mOr ma mb) σ H Q) : tOrV (T K ma) (T K mb) σ H Q := by
  obtain ⟨g, s, r0, s', R, hm, hq⟩ := h
  obtain ⟨⟨r1, s1⟩, e1, hm⟩ := bind_ok hm
  refine ⟨g, s, r1, s1, R, e1, fun g1 x H1 u1 R1 hx => ?_⟩
  have hm : (match rd s1 r1 with | .ok (.bool true) => Res.ok (RV.sh (.bool true), s1) | .ok (.bool false) => mb s1 | _ => .no) = .ok (r0, s') := hm
  obtain ⟨g1', u1', R1', z1⟩ := R1.z hx
  cases hr : rd s1 r1 with
  | no => rw [hr] at hm; cases hm
  | err _ => rw [hr] at hm; cases hm
  | ok d =>
    rw [hr] at hm
    cases d with
    | bool k =>
      have hv : x = .bl k := R1'.rd z1 hr
      refine ⟨k, hv, ?_⟩
      cases k with
      | true => cases hm; exact hq g1' _ H1 (u1.trans u1') R1' (by show Rep _ _ _ _; simp only [Rep])
      | false => exact ⟨g1', s1, r0, s', R1', hm, fun g2 v2 H2 u2 R2 hv2 => hq g2 v2 H2 (u1.trans (u1'.trans u2)) R2 hv2⟩
    | _ => cases hm
theorem se_and {a b : Expr} {rest : List Expr} {ma mb : M} {pos : Pos} (h : SE c a ma) (hb : SE c (.BoolOp .And (b :: rest) pos) mb) : SE c (.BoolOp .And (a :: b :: rest) pos) (mAnd ma mb) := fun X ok => (pe_and (h X ok) (hb X ok)).pre fun _ _ _ => t_vand
theorem se_or {a b : Expr} {rest : List Expr} {ma mb : M} {pos : Pos} (h : SE c a ma) (hb : SE c (.BoolOp .Or (b :: rest) pos) mb) : SE c (.BoolOp .Or (a :: b :: rest) pos) (mOr ma mb) := fun X ok => (pe_or (h X ok) (hb X ok)).pre fun _ _ _ => t_vor
theorem se_not {a : Expr} {ma : M} {pos : Pos} (h : SE c a ma) : SE c (.UnaryOp .Not a pos) (mNot ma) := fun X ok => (pe_not (h X ok)).pre fun σ H Q q => by
  obtain ⟨g, s, r0, s', R, hm, hq⟩ := q
  obtain ⟨⟨r1, s1⟩, e1, hm⟩ := bind_ok hm
  obtain ⟨d1, e3, hm⟩ := bind_ok hm
  obtain ⟨v, e5, hm⟩ := bind_ok hm
  cases hm
  refine ⟨g, s, r1, s', R, e1, fun g1 x H1 u1 R1 hx => ?_⟩
  obtain ⟨g1', u1', R1', z1⟩ := R1.z hx
  cases d1 with
  | bool k =>
    cases e5
    have hv : x = .bl k := R1'.rd z1 e3
    exact ⟨k, hv, hq g1' _ H1 (u1.trans u1') R1' (by show Rep _ _ _ _; simp only [Rep])⟩
  | _ => cases e5
theorem se_if {e a b : Expr} {t : MT} {ma mb : M} {pos : Pos} (h : STs c e t) (ha : SE c a ma) (hb : SE c b mb) : SE c (.IfExp e a b pos) (mIf t ma mb) := fun X ok => (pe_ifExp (h X ok) (ha X ok) (hb X ok)).pre fun σ H Q q => by
  obtain ⟨g, s, r0, s', R, hm, hq⟩ := q
  obtain ⟨⟨k, s1⟩, e1, hm⟩ := bind_ok hm
  refine ⟨g, s, k, s1, R, e1, fun g' H' u' R' => ?_⟩
  cases k with
  | true => exact ⟨g', s1, r0, s', R', hm, fun g2 v2 H2 u2 R2 hv2 => hq g2 v2 H2 (u'.trans u2) R2 hv2⟩
  | false => exact ⟨g', s1, r0, s', R', hm, fun g2 v2 H2 u2 R2 hv2 => hq g2 v2 H2 (u'.trans u2) R2 hv2⟩
/-! displays -/
theorem Reps.length {K : PySem.W.Frag} {F : Hp} : ∀ {ds : List D} {vs : List V}, Reps K F ds vs → vs.length = ds.length
  | [], vs, h => by simp only [Reps] at h; subst h; rfl
  | d :: ds, vs, h => by
    simp only [Reps] at h
    obtain ⟨v, r, rfl, _, h3⟩ := h
    simp only [List.length_cons, Reps.length h3]
theorem mL_len : ∀ {ms : List M} {s s' : Sta} {rs : List RV}, mL ms s = .ok (rs, s') → rs.length = ms.length
  | [], s, s', rs, h => by cases h; rfl
  | m :: ms, s, s', rs, h => by
    obtain ⟨⟨r1, s1⟩, e1, h⟩ := bind_ok h
    obtain ⟨⟨q, s2⟩, e2, h⟩ := bind_ok h
    cases h
    simp only [List.length_cons, mL_len e2]
theorem tks_len : ∀ {rs : List RV} {s s' : Sta} {ds : List D}, tks rs s = .ok (ds, s') → ds.length = rs.length
  | [], s, s', rs, h => by cases h; rfl
  | m :: ms, s, s', rs, h => by
    obtain ⟨⟨r1, s1⟩, e1, h⟩ := bind_ok h
    obtain ⟨⟨q, s2⟩, e2, h⟩ := bind_ok h
    cases h
    simp only [List.length_cons, tks_len e2]
theorem se_tup {es : List Expr} {ms : List M} {x1 : Nat} {pos : Pos} (h : SA c es ms) (hl : ms.length ≤ 1000 := by decide) : SE c (.Tuple es x1 pos) (mTup ms) := fun X ok => (pe_tup (h X ok)).pre fun σ H Q q => by
  obtain ⟨g, s, r0, s', R, hm, hq⟩ := q
  obtain ⟨⟨rs, s1⟩, e1, hm⟩ := bind_ok hm
  obtain ⟨⟨ds, s2⟩, e2, hm⟩ := bind_ok hm
  cases hm
  refine ⟨g, s, rs, s1, R, e1, fun g1 vs H1 u1 R1 hv => ?_⟩
  obtain ⟨g2, u2, R2, z2⟩ := Rel.tks R1 hv e2
  have l1 : vs.length = ms.length := by rw [Reps.length z2, tks_len e2, mL_len e1]
  refine ⟨by rw [l1, sizeLine_eq]; omega, fun p hp => ?_⟩
  obtain ⟨g3, u3, R3, z3⟩ := R2.madeT hp z2
  exact hq g3 _ _ (u1.trans (u2.trans u3)) R3 z3
theorem se_lst {es : List Expr} {ms : List M} {pos : Pos} (h : SA c es ms) (hl : ms.length ≤ 1000 := by decide) : SE c (.List es pos) (mLst ms) := fun X ok => (pe_lst (h X ok)).pre fun σ H Q q => by
  obtain ⟨g, s, r0, s', R, hm, hq⟩ := q
  obtain ⟨⟨rs, s1⟩, e1, hm⟩ := bind_ok hm
  obtain ⟨⟨ds, s2⟩, e2, hm⟩ := bind_ok hm
  cases hm
  refine ⟨g, s, rs, s1, R, e1, fun g1 vs H1 u1 R1 hv => ?_⟩
  obtain ⟨g2, u2, R2, z2⟩ := Rel.tks R1 hv e2
  have l1 : vs.length = ms.length := by rw [Reps.length z2, tks_len e2, mL_len e1]
  refine ⟨by rw [l1, sizeLine_eq]; omega, fun p hp => ?_⟩
  obtain ⟨R3, z3⟩ := R2.made (d := .list ds) hp ⟨vs, rfl, z2⟩
  exact hq g2 _ _ (u1.trans u2) R3 z3
/-! a built-in, called by its name -/
theorem t_mB {K : PySem.W.Frag} {r : List V → Hp → VK → Prop} {f : List D → Res RV} (hf : SemN K r f) {ms : List M} {σ : L2.St} {H : Hp} {Q : VK} (h : T K (mB f ms) σ H Q) : Ta K ms σ H fun vs H1 => r vs H1 Q := by
  obtain ⟨g, s, r0, s', R, hm, hq⟩ := h
  obtain ⟨⟨rs, s1⟩, e1, hm⟩ := bind_ok hm
  obtain ⟨ds, e2, hm⟩ := bind_ok hm
  obtain ⟨v, e3, hm⟩ := bind_ok hm
  cases hm
  refine ⟨g, s, rs, s', R, e1, fun g1 vs H1 u1 R1 hv => ?_⟩
  exact hf g1 σ H1 s' vs ds r0 Q R1 (R1.rds hv e2) e3 fun g' v H' u R hv => hq g' v H' (u1.trans u) R hv
end
end Yd

namespace Yd
open PySem PySem.Spec PyProof.Rows L2
section
variable {K : PySem.W.Frag} {g : Gh} {σ : L2.St} {H : Hp} {s : Sta}
theorem getσ {α : Type} {l : List α} {i : Nat} {x : α} (h : i < l.length) : (l.set i x)[i]? = some x := List.getElem?_set_self h
/-- a slot is given what never changes -/
theorem Rel.setSh (R : Rel K g σ H s) {i : Nat} {d : D} {v : V} (h : Rep K g.F d v) : Rel K g (σ.set i (some v)) H (putSlot s i (.sh d)) := by
  have hl := R.len
  refine ⟨R.sub, R.pr, by simpa [putSlot] using R.len, fun j d' hj => ?_, fun j d' hj => ?_, fun j k d1 d2 hj hk e => ?_, fun j hj => ?_, R.cupN, R.cupV⟩
  · rcases set_get hj with ⟨rfl, z, lt⟩ | ⟨ne, z⟩
    · cases z
      exact ⟨v, getσ (by omega), h⟩
    · rw [List.getElem?_set_ne ne]
      exact R.sh j d' z
  · rcases set_get hj with ⟨rfl, z, lt⟩ | ⟨ne, z⟩
    · cases z
    · rw [List.getElem?_set_ne ne]
      exact R.ow j d' z
  · rcases set_get hj with ⟨rfl, z, lt⟩ | ⟨ne, z⟩
    · cases z
    · rcases set_get hk with ⟨rfl, z', lt'⟩ | ⟨ne', z'⟩
      · cases z'
      · rw [List.getElem?_set_ne ne, List.getElem?_set_ne ne'] at e
        exact R.sep j k d1 d2 z z' e
  · rcases set_get hj with ⟨rfl, z, lt⟩ | ⟨ne, z⟩
    · cases z
    · rw [List.getElem?_set_ne ne]
      exact R.cupS j z
/-- a slot is given a new object -/
theorem Rel.setOw (R : Rel K g σ H s) {i : Nat} {d : D} {v : V} (h : RVal K g σ H s (.fr d) v) : Rel K g (σ.set i (some v)) H (putSlot s i (.ow d)) := by
  obtain ⟨p, o, rfl, h1, h2, h3, h4, h5, h6⟩ := h
  have hl := R.len
  refine ⟨R.sub, R.pr, by simpa [putSlot] using R.len, fun j d' hj => ?_, fun j d' hj => ?_, fun j k d1 d2 hj hk e => ?_, fun j hj => ?_, R.cupN, R.cupV⟩
  · rcases set_get hj with ⟨rfl, z, lt⟩ | ⟨ne, z⟩
    · cases z
    · rw [List.getElem?_set_ne ne]
      exact R.sh j d' z
  · rcases set_get hj with ⟨rfl, z, lt⟩ | ⟨ne, z⟩
    · cases z
      exact ⟨p, o, getσ (by omega), h1, h2, h3, h4, h5⟩
    · rw [List.getElem?_set_ne ne]
      exact R.ow j d' z
  · rcases set_get hj with ⟨rfl, z, lt⟩ | ⟨ne, z⟩
    · rcases set_get hk with ⟨rfl, z', lt'⟩ | ⟨ne', z'⟩
      · rfl
      · rw [getσ (by omega), List.getElem?_set_ne ne'] at e
        exact absurd e.symm (h6 k d2 z')
    · rcases set_get hk with ⟨rfl, z', lt'⟩ | ⟨ne', z'⟩
      · rw [getσ (by omega), List.getElem?_set_ne ne] at e
        exact absurd e (h6 j d1 z)
      · rw [List.getElem?_set_ne ne, List.getElem?_set_ne ne'] at e
        exact R.sep j k d1 d2 z z' e
  · rcases set_get hj with ⟨rfl, z, lt⟩ | ⟨ne, z⟩
    · cases z
    · rw [List.getElem?_set_ne ne]
      exact R.cupS j z
/-- a slot is emptied -/
theorem Rel.setUn (R : Rel K g σ H s) (i : Nat) : Rel K g σ H (putSlot s i .un) := by
  refine ⟨R.sub, R.pr, by simpa [putSlot] using R.len, fun j d' hj => ?_, fun j d' hj => ?_, fun j k d1 d2 hj hk e => ?_, fun j hj => ?_, R.cupN, R.cupV⟩
  · rcases set_get hj with ⟨rfl, z, lt⟩ | ⟨ne, z⟩
    · cases z
    · exact R.sh j d' z
  · rcases set_get hj with ⟨rfl, z, lt⟩ | ⟨ne, z⟩
    · cases z
    · exact R.ow j d' z
  · rcases set_get hj with ⟨rfl, z, lt⟩ | ⟨ne, z⟩
    · cases z
    · rcases set_get hk with ⟨rfl, z', lt'⟩ | ⟨ne', z'⟩
      · cases z'
      · exact R.sep j k d1 d2 z z' e
  · rcases set_get hj with ⟨rfl, z, lt⟩ | ⟨ne, z⟩
    · cases z
    · exact R.cupS j z
/-- what is handed back -/
theorem Rel.ret (R : Rel K g σ H s) {r : RV} {v : V} {x : Bool × D} {s' : Sta} (h : RVal K g σ H s r v) (e : Yd.ret s r = .ok (x, s')) : Rel K g σ H s' ∧ RVal K g σ H s' (rvOf x) v := by
  cases r with
  | sh d => cases e; exact ⟨R, h⟩
  | fr d => cases e; exact ⟨R, h⟩
  | sl i =>
    have h : σ[i]? = some (some v) := h
    have e : retSlot s i s.env[i]? = .ok (x, s') := e
    cases he : s.env[i]? with
    | none => rw [he] at e; cases e
    | some y =>
      rw [he] at e
      cases y with
      | un => cases e
      | cup => cases e
      | sh d =>
        cases e
        obtain ⟨v', h1, h2⟩ := R.sh i d he
        rw [h] at h1
        cases h1
        exact ⟨R, h2⟩
      | ow d =>
        cases e
        obtain ⟨p, o, h1, h2, h3, h4, h5, h6⟩ := R.ow i d he
        rw [h] at h1
        cases h1
        refine ⟨R.setUn i, p, o, rfl, h2, h3, h4, h5, h6, fun j d' hj z => ?_⟩
        rcases set_get hj with ⟨rfl, z', lt⟩ | ⟨ne, z'⟩
        · cases z'
        · exact ne (R.sep i j d d' he z' (h.trans z.symm))
end
/-! targets -/
def Tg1 (K : PySem.W.Frag) (t : Tg) : TG := fun v σ H Q => ∃ g s d s', Rel K g σ H s ∧ Rep K g.F d v ∧ put t d s = .ok s' ∧ ∀ g' σ' H', Up g g' → Rel K g' σ' H' s' → Q σ' H'
def Tgn (K : PySem.W.Frag) (ts : List Tg) : TGs := fun vs σ H Q => ∃ g s ds s', Rel K g σ H s ∧ Reps K g.F ds vs ∧ puts ts ds s = .ok s' ∧ ∀ g' σ' H', Up g g' → Rel K g' σ' H' s' → Q σ' H'
theorem _root_.L2.PG.pre {X : Cx} {e : Expr} {t t' : TG} (h : PG X e t) (i : ∀ v σ H Q, t' v σ H Q → t v σ H Q) : PG X e t' := ⟨fun pins s σ H v u Q I r q => h.run pins s σ H v u Q I r (i v σ H Q q)⟩
theorem _root_.L2.PGs.pre {X : Cx} {e : List Expr} {t t' : TGs} (h : PGs X e t) (i : ∀ v σ H Q, t' v σ H Q → t v σ H Q) : PGs X e t' := ⟨fun pins s σ H v u Q I r q => h.run pins s σ H v u Q I r (i v σ H Q q)⟩
def SG (c : Cn) (e : Expr) (t : Tg) : Prop := ∀ X, c.Ok X → (∀ x, c.sc.names.lookup x = some .cell → X.fn x = true) → PG X e (Tg1 X.K t)
def SGn (c : Cn) (es : List Expr) (ts : List Tg) : Prop := ∀ X, c.Ok X → (∀ x, c.sc.names.lookup x = some .cell → X.fn x = true) → PGs X es (Tgn X.K ts)
section
variable {c : Cn}
theorem sg_nm {i : Nat} {x : Str} {pos : Pos} (hN : c.N[i]? = some x) (hx : Loc c.sc x) : SG c (.Name x pos) (.nm i) := fun X ok hf =>
  (pg_name (X := X) (i := i) (by rw [ok.N]; exact ok.nd) (by rw [ok.N]; exact hN) (by rw [ok.sc]; exact hx) (by
    rcases hx with h | h
    · exact .inr (by rw [ok.sc]; exact h)
    · exact .inl (hf x h))).pre fun v σ H Q q => by
    obtain ⟨g, s, d, s', R, hv, hp, hq⟩ := q
    simp only [put] at hp
    cases hp
    exact hq g _ H (.refl g) (R.setSh hv)
theorem sgn_nil : SGn c [] [] := fun X ok hf => pgs_nil.pre fun vs σ H Q q => by
  obtain ⟨g, s, ds, s', R, hv, hp, hq⟩ := q
  cases ds with
  | nil =>
    simp only [puts] at hp
    cases hp
    simp only [Reps] at hv
    exact ⟨hv, hq g _ H (.refl g) R⟩
  | cons d ds => simp only [puts] at hp; cases hp
theorem sgn_cons {e : Expr} {es : List Expr} {t : Tg} {ts : List Tg} (h1 : SG c e t) (h2 : SGn c es ts)
    (hs : ∀ env : Env, (assignEach (e :: es) env).map (·.2) = assign e env :: (assignEach es env).map (·.2) := by intro _; rfl) : SGn c (e :: es) (t :: ts) := fun X ok hf => (pgs_cons (h1 X ok hf) (h2 X ok hf) (hs _)).pre fun vs σ H Q q => by
  obtain ⟨g, s, ds, s', R, hv, hp, hq⟩ := q
  cases ds with
  | nil => simp only [puts] at hp; cases hp
  | cons d ds =>
    simp only [puts] at hp
    obtain ⟨s1, e1, hp⟩ := bind_ok hp
    simp only [Reps] at hv
    obtain ⟨v, r, rfl, hv1, hv2⟩ := hv
    refine ⟨v, r, rfl, g, s, d, s1, R, hv1, e1, fun g1 σ1 H1 u1 R1 => ?_⟩
    exact ⟨g1, s1, ds, s', R1, Reps.mono u1.s _ _ hv2, hp, fun g2 σ2 H2 u2 R2 => hq g2 σ2 H2 (u1.trans u2) R2⟩
theorem sg_tp {es : List Expr} {ts : List Tg} {k : Nat} {pos : Pos} (h : SGn c es ts) (hn : ∀ env : Env, (assignEach es env).length = ts.length := by intro _; rfl) (hst : ∀ env : Env, (assignEach es env).findIdx? (·.1) = none := by intro _; rfl) : SG c (.Tuple es k pos) (.tp ts) := fun X ok hf =>
  (pg_tup ok.calm (h X ok hf) (hn _) (hst _)).pre fun v σ H Q q => by
    obtain ⟨g, s, d, s', R, hv, hp, hq⟩ := q
    cases d with
    | tuple ds =>
      simp only [put] at hp
      simp only [Rep] at hv
      obtain ⟨a, vs, rfl, hT, hr⟩ := hv
      refine ⟨a, vs, rfl, sqt_sub R.sub hT, ?_, g, s, ds, s', R, hr, hp, hq⟩
      rw [Reps.length hr]
      have : ∀ (ts : List Tg) (ds : List D) (s s' : Sta), puts ts ds s = .ok s' → ds.length = ts.length := by
        intro ts
        induction ts with
        | nil => intro ds s s' h; cases ds with
          | nil => rfl
          | cons d ds => simp only [puts] at h; cases h
        | cons t ts ih => intro ds s s' h; cases ds with
          | nil => simp only [puts] at h; cases h
          | cons d ds =>
            simp only [puts] at h
            obtain ⟨s1, e1, h⟩ := bind_ok h
            simp only [List.length_cons, ih ds s1 s' h]
      exact this ts ds s s' hp
    | _ => simp only [put] at hp; cases hp
end
/-! statements -/
def RetOk (K : PySem.W.Frag) (D : Ends) (g : Gh) (σ : L2.St) (H : Hp) (s : Sta) : Fl → Prop
  | .nx => D.nx σ H
  | .bk => D.bk σ H
  | .ct => D.ct σ H
  | .rt x => ∀ v, RVal K g σ H s (rvOf x) v → D.rt v H
def Ts (K : PySem.W.Frag) (m : Yd.St) : TS := fun D σ H => ∃ g s f s', Rel K g σ H s ∧ m s = .ok (f, s') ∧ ∀ g' σ' H', Up g g' → Rel K g' σ' H' s' → RetOk K D g' σ' H' s' f
def SS (c : Cn) (st : Stmt) (m : Yd.St) : Prop := ∀ X, c.Ok X → (∀ x, c.sc.names.lookup x = some .cell → X.fn x = true) → PS X st (Ts X.K m)
def SSs (c : Cn) (st : List Stmt) (m : Yd.St) : Prop := ∀ X, c.Ok X → (∀ x, c.sc.names.lookup x = some .cell → X.fn x = true) → PSs X st (Ts X.K m)
section
variable {c : Cn}
theorem ss_nil : SSs c [] sSkip := fun X ok hf => pss_nil.pre fun D σ H q => by
  obtain ⟨g, s, f, s', R, hm, hq⟩ := q
  cases hm
  exact hq g σ H (.refl g) R
theorem ss_cons {st : Stmt} {rest : List Stmt} {m n : Yd.St} (h1 : SS c st m) (h2 : SSs c rest n) : SSs c (st :: rest) (sSeq m n) := fun X ok hf => (pss_cons (h1 X ok hf) (h2 X ok hf)).pre fun D σ H q => by
  obtain ⟨g, s, f, s', R, hm, hq⟩ := q
  obtain ⟨⟨f1, s1⟩, e1, hm⟩ := bind_ok hm
  refine ⟨g, s, f1, s1, R, e1, fun g1 σ1 H1 u1 R1 => ?_⟩
  cases f1 with
  | nx => exact ⟨g1, s1, f, s', R1, hm, fun g2 σ2 H2 u2 R2 => hq g2 σ2 H2 (u1.trans u2) R2⟩
  | bk => cases hm; exact hq g1 σ1 H1 u1 R1
  | ct => cases hm; exact hq g1 σ1 H1 u1 R1
  | rt x => cases hm; exact hq g1 σ1 H1 u1 R1
theorem ss_one {st : Stmt} {m : Yd.St} (h1 : SS c st m) : SSs c [st] m := fun X ok hf => pss_one (h1 X ok hf)
theorem ss_set {tg e : Expr} {t : Tg} {m : M} {pos : Pos} (he : SE c e m) (hg : SG c tg t) (hs : ∀ env : Env, swapsWithSole [tg] e pos.line env = pure false := by intro _; rfl) (hw : ∀ env : Env, swappedStores [tg] e env = pure none := by intro _; rfl)
    (h1 : ∀ env : Env, (assignEach [tg] env).map (·.2) = [assign tg env] := by intro _; rfl) : SS c (.Assign [tg] e pos) (sSet t m) := fun X ok hf => (ps_asg (he X ok) (hg X ok hf) (hs _) (hw _) (h1 _)).pre fun D σ H q => by
  obtain ⟨g, s, f, s', R, hm, hq⟩ := q
  obtain ⟨⟨r1, s1⟩, e1, hm⟩ := bind_ok hm
  obtain ⟨⟨d, s2⟩, e2, hm⟩ := bind_ok hm
  obtain ⟨s3, e3, hm⟩ := bind_ok hm
  cases hm
  refine ⟨g, s, r1, s1, R, e1, fun g1 x H1 u1 R1 hx => ?_⟩
  obtain ⟨g2, u2, R2, z2⟩ := R1.z hx
  obtain ⟨g3, u3, R3, z3⟩ := R2.tk z2 e2
  exact ⟨g3, s2, d, s', R3, z3, e3, fun g4 σ4 H4 u4 R4 => hq g4 σ4 H4 (u1.trans (u2.trans (u3.trans u4))) R4⟩
theorem t_own {K : PySem.W.Frag} {i : Nat} {m : M} {D : Ends} {σ : L2.St} {H : Hp} (h : Ts K (sOwn i m) D σ H) : tAsg (T K m) (gName i) D σ H := by
  obtain ⟨g, s, f, s', R, hm, hq⟩ := h
  obtain ⟨⟨r1, s1⟩, e1, hm⟩ := bind_ok hm
  refine ⟨g, s, r1, s1, R, e1, fun g1 x H1 u1 R1 hx => ?_⟩
  cases r1 with
  | fr d => cases hm; exact hq g1 _ H1 u1 (R1.setOw hx)
  | sh d => cases hm
  | sl i => cases hm
theorem loc_fn {c : Cn} {X : Cx} (ok : c.Ok X) (hf : ∀ x, c.sc.names.lookup x = some .cell → X.fn x = true) {x : Str} (hx : Loc c.sc x) : X.fn x = true ∨ X.env.scope.names.lookup x = some .local := by
  rcases hx with h | h
  · exact .inr (by rw [ok.sc]; exact h)
  · exact .inl (hf x h)
theorem ss_own {i : Nat} {x : Str} {e : Expr} {m : M} {pos pos' : Pos} (hN : c.N[i]? = some x) (hx : Loc c.sc x) (he : SE c e m) (hs : ∀ env : Env, swapsWith e (some (.Name x pos')) pos.line env = pure false := by intro _; rfl) : SS c (.Assign [.Name x pos'] e pos) (sOwn i m) := fun X ok hf =>
  (ps_set (X := X) (i := i) (by rw [ok.N]; exact ok.nd) (by rw [ok.N]; exact hN) (by rw [ok.sc]; exact hx) (he X ok) (hs _) (loc_fn ok hf hx)).pre fun D σ H => t_own
theorem t_set {K : PySem.W.Frag} {i : Nat} {m : M} {D : Ends} {σ : L2.St} {H : Hp} (h : Ts K (sSet (.nm i) m) D σ H) : tAsg (T K m) (gName i) D σ H := by
  obtain ⟨g, s, f, s', R, hm, hq⟩ := h
  obtain ⟨⟨r1, s1⟩, e1, hm⟩ := bind_ok hm
  obtain ⟨⟨d, s2⟩, e2, hm⟩ := bind_ok hm
  obtain ⟨s3, e3, hm⟩ := bind_ok hm
  cases hm
  refine ⟨g, s, r1, s1, R, e1, fun g1 x H1 u1 R1 hx => ?_⟩
  obtain ⟨g2, u2, R2, z2⟩ := R1.z hx
  obtain ⟨g3, u3, R3, z3⟩ := R2.tk z2 e2
  simp only [put] at e3
  cases e3
  exact hq g3 _ H1 (u1.trans (u2.trans u3)) (R3.setSh z3)
/-- the cup is made -/
theorem ss_cup {i : Nat} {x : Str} {e : Expr} {m : M} {pos pos' : Pos} (hN : c.N[i]? = some x) (hx : Loc c.sc x) (he : SE c e m) (hs : ∀ env : Env, swapsWith e (some (.Name x pos')) pos.line env = pure false := by intro _; rfl) : SS c (.Assign [.Name x pos'] e pos) (sCup i m) := fun X ok hf =>
  (ps_set (X := X) (i := i) (by rw [ok.N]; exact ok.nd) (by rw [ok.N]; exact hN) (by rw [ok.sc]; exact hx) (he X ok) (hs _) (loc_fn ok hf hx)).pre fun D σ H h => by
    obtain ⟨g, s, f, s', R, hm, hq⟩ := h
    obtain ⟨⟨r1, s1⟩, e1, hm⟩ := bind_ok hm
    refine ⟨g, s, r1, s1, R, e1, fun g1 v H1 u1 R1 hv => ?_⟩
    have hm : (match r1, s1.cup with | .fr (.list ds), none => Res.ok (Fl.nx, ({ env := s1.env.set i .cup, cup := some ds } : Sta)) | _, _ => .no) = .ok (f, s') := hm
    cases r1 with
    | sh d => cases hm
    | sl i => cases hm
    | fr d =>
      cases d with
      | list ds =>
        cases hc : s1.cup with
        | some z => rw [hc] at hm; cases hm
        | none =>
          rw [hc] at hm
          cases hm
          obtain ⟨p, o, rfl, h1, h2, h3, ⟨vs, rfl, h4⟩, h5, h6⟩ := hv
          have hl := R1.len
          have gn := R1.cupN hc
          refine hq { g1 with cup := some p } _ H1 ⟨u1.p, fun a ha => ?_, u1.s⟩ ⟨R1.sub, fun a u h => ?_, by simpa using R1.len, fun j d' hj => ?_, fun j d' hj => ?_, fun j k d1 d2 hj hk e => ?_, fun j hj => ?_, (fun z => by
            have z : some ds = none := z
            cases z), fun ds' z => ?_⟩
          · have := u1.c a ha
            rw [gn] at this; cases this
          · obtain ⟨q1, q2, q3⟩ := R1.pr a u h
            refine ⟨q1, q2, fun z => ?_⟩
            cases z
            have h : g1.pr p = some u := h
            rw [h2] at h; cases h
          · rcases set_get hj with ⟨rfl, z, lt⟩ | ⟨ne, z⟩
            · cases z
            · rw [List.getElem?_set_ne ne]
              exact R1.sh j d' z
          · rcases set_get hj with ⟨rfl, z, lt⟩ | ⟨ne, z⟩
            · cases z
            · rw [List.getElem?_set_ne ne]
              obtain ⟨q, o, k1, k2, k3, k4, k5, k6⟩ := R1.ow j d' z
              refine ⟨q, o, k1, k2, k3, k4, k5, fun e => ?_⟩
              cases e
              exact h6 j d' z k1
          · rcases set_get hj with ⟨rfl, z, lt⟩ | ⟨ne, z⟩
            · cases z
            · rcases set_get hk with ⟨rfl, z', lt'⟩ | ⟨ne', z'⟩
              · cases z'
              · rw [List.getElem?_set_ne ne, List.getElem?_set_ne ne'] at e
                exact R1.sep j k d1 d2 z z' e
          · rcases set_get hj with ⟨rfl, z, lt⟩ | ⟨ne, z⟩
            · exact ⟨p, rfl, getσ (by omega)⟩
            · obtain ⟨a, q, _⟩ := R1.cupS j z
              rw [gn] at q; cases q
          · have z : some ds = some ds' := z
            cases z
            exact ⟨p, vs, rfl, h1, h3, h4⟩
      | _ => cases hm
theorem ss_exp {e : Expr} {m : M} {pos : Pos} (he : SE c e m) (hs : ∀ env : Env, swapsWith e none pos.line env = pure false := by intro _; rfl) : SS c (.Expr e pos) (sExp m) := fun X ok hf => (ps_expr (he X ok) (hs _)).pre fun D σ H h => by
  obtain ⟨g, s, f, s', R, hm, hq⟩ := h
  obtain ⟨⟨r1, s1⟩, e1, hm⟩ := bind_ok hm
  cases hm
  exact ⟨g, s, r1, s', R, e1, fun g1 v H1 u1 R1 hv => hq g1 σ H1 u1 R1⟩
theorem ss_ret {e : Expr} {m : M} {pos : Pos} (he : SE c e m) : SS c (.Return (some e) pos) (sRet m) := fun X ok hf => (ps_ret (he X ok)).pre fun D σ H h => by
  obtain ⟨g, s, f, s', R, hm, hq⟩ := h
  obtain ⟨⟨r1, s1⟩, e1, hm⟩ := bind_ok hm
  obtain ⟨⟨x, s2⟩, e2, hm⟩ := bind_ok hm
  cases hm
  refine ⟨g, s, r1, s1, R, e1, fun g1 v H1 u1 R1 hv => ?_⟩
  obtain ⟨R2, z⟩ := R1.ret hv e2
  exact hq g1 σ H1 u1 R2 v z
theorem ss_retN {pos : Pos} : SS c (.Return none pos) sRetN := fun X ok hf => ps_retN.pre fun D σ H h => by
  obtain ⟨g, s, f, s', R, hm, hq⟩ := h
  cases hm
  exact hq g σ H (.refl g) R .non (by show Rep _ _ _ _; simp only [Rep])
theorem ss_if {e : Expr} {a b : List Stmt} {t : MT} {m n : Yd.St} {pos : Pos} (h : STs c e t) (ha : SSs c a m) (hb : SSs c b n) : SS c (.If e a b pos) (sIf t m n) := fun X ok hf => (ps_if (h X ok) (ha X ok hf) (hb X ok hf)).pre fun D σ H h => by
  obtain ⟨g, s, f, s', R, hm, hq⟩ := h
  obtain ⟨⟨k, s1⟩, e1, hm⟩ := bind_ok hm
  refine ⟨g, s, k, s1, R, e1, fun g1 H1 u1 R1 => ?_⟩
  cases k with
  | true => exact ⟨g1, s1, f, s', R1, hm, fun g2 σ2 H2 u2 R2 => hq g2 σ2 H2 (u1.trans u2) R2⟩
  | false => exact ⟨g1, s1, f, s', R1, hm, fun g2 σ2 H2 u2 R2 => hq g2 σ2 H2 (u1.trans u2) R2⟩
theorem ss_brk {pos : Pos} : SS c (.Break pos) sBrk := fun X ok hf => ps_break.pre fun D σ H h => by
  obtain ⟨g, s, f, s', R, hm, hq⟩ := h
  cases hm
  exact hq g σ H (.refl g) R
theorem ss_cnt {pos : Pos} : SS c (.Continue pos) sCnt := fun X ok hf => ps_continue.pre fun D σ H h => by
  obtain ⟨g, s, f, s', R, hm, hq⟩ := h
  cases hm
  exact hq g σ H (.refl g) R
/-- a raise that is never reached -/
def sNo : Yd.St := fun _ => .no
theorem ss_no {st : Stmt} : SS c st sNo := fun X ok hf => ps_never.pre fun D σ H h => by
  obtain ⟨g, s, f, s', R, hm, hq⟩ := h
  cases hm
theorem ss_whl {e : Expr} {body : List Stmt} {t : MT} {m : Yd.St} {pos : Pos} (h : STs c e t) (hb : SSs c body m) : SS c (.While e body [] pos) (sWhl t m) := fun X ok hf => (ps_while ok.own (h X ok) (hb X ok hf)).pre fun D σ H q => by
  obtain ⟨g, s, f, s', R, hm, hq⟩ := q
  refine ⟨fun n σ1 H1 => ∃ g1 s1, Up g g1 ∧ Rel X.K g1 σ1 H1 s1 ∧ whl t m n s1 = .ok (f, s'), ⟨turns, g, s, .refl g, R, hm⟩, fun n σ1 H1 w => ?_⟩
  obtain ⟨g1, s1, u1, R1, e⟩ := w
  cases n with
  | zero => cases e
  | succ n =>
    obtain ⟨⟨k, s2⟩, e2, e⟩ := bind_ok e
    refine ⟨g1, s1, k, s2, R1, e2, fun g2 H2 u2 R2 => ?_⟩
    cases k with
    | false => cases e; exact hq g2 σ1 H2 (u1.trans u2) R2
    | true =>
      obtain ⟨⟨f3, s3⟩, e3, e⟩ := bind_ok e
      refine ⟨fun σ4 H4 => ∃ g4 s4, Up g g4 ∧ Rel X.K g4 σ4 H4 s4 ∧ whl t m n s4 = .ok (f, s'), fun σ4 H4 z => ⟨n, Nat.lt_succ_self n, z⟩, g2, s2, f3, s3, R2, e3, fun g3 σ3 H3 u3 R3 => ?_⟩
      cases f3 with
      | nx => exact ⟨g3, s3, u1.trans (u2.trans u3), R3, e⟩
      | ct => exact ⟨g3, s3, u1.trans (u2.trans u3), R3, e⟩
      | bk => cases e; exact hq g3 σ3 H3 (u1.trans (u2.trans u3)) R3
      | rt x => cases e; exact hq g3 σ3 H3 (u1.trans (u2.trans u3)) R3
end
end Yd

namespace Yd
open PySem PySem.Spec PyProof.Rows L2
/-! data that may be compared -/
def okD (d : D) : Bool := d.plain && decide (d.depth ≤ 40)
mutual
theorem Rep.dp {K : PySem.W.Frag} {F H : Hp} (e : Sub F H) : ∀ (d : D) (v : V), d.plain = true → Rep K F d v → Dp K H v d
  | .none, v, _, h => by simp only [Rep] at h; subst h; exact .non
  | .bool b, v, _, h => by simp only [Rep] at h; subst h; exact .bl b
  | .int i, v, _, h => by simp only [Rep] at h; subst h; exact .int i
  | .str x, v, _, h => by simp only [Rep] at h; subst h; exact .str x
  | .list ds, v, hp, h => by
    simp only [Rep] at h
    obtain ⟨a, vs, rfl, h2, h3⟩ := h
    exact .lst (sqx_l (sqx_sub e h2)) (Reps.dp e ds vs (by simpa only [PyData.plain] using hp) h3)
  | .tuple ds, v, hp, h => by
    simp only [Rep] at h
    obtain ⟨a, vs, rfl, h2, h3⟩ := h
    exact .tup (sqt_sub e h2) (Reps.dp e ds vs (by simpa only [PyData.plain] using hp) h3)
  | .dict _, _, hp, _ => by simp only [PyData.plain] at hp; cases hp
theorem Reps.dp {K : PySem.W.Frag} {F H : Hp} (e : Sub F H) : ∀ (ds : List D) (vs : List V), PyData.plainAll ds = true → Reps K F ds vs → DpAll K H vs ds
  | [], vs, _, h => by simp only [Reps] at h; subst h; exact .nil
  | d :: ds, vs, hp, h => by
    simp only [Reps] at h
    obtain ⟨v, r, rfl, h2, h3⟩ := h
    simp only [PyData.plainAll, Bool.and_eq_true] at hp
    exact .cons (Rep.dp e d v hp.1 h2) (Reps.dp e ds r hp.2 h3)
end
theorem Vw.dp {K : PySem.W.Frag} {F H : Hp} (e : Sub F H) {d : D} {v : V} (hp : d.plain = true) (h : Vw K F H d v) : Dp K H v d := by
  cases d with
  | none => cases (show v = .non from h); exact .non
  | bool b => cases (show v = .bl b from h); exact .bl b
  | int i => cases (show v = .int i from h); exact .int i
  | str x => cases (show v = .str x from h); exact .str x
  | list ds =>
    obtain ⟨a, vs, rfl, h2, h3⟩ := h
    exact .lst (sqx_l h2) (Reps.dp e ds vs (by simpa only [PyData.plain] using hp) h3)
  | tuple ds =>
    obtain ⟨a, vs, rfl, h2, h3⟩ := h
    exact .tup (sqt_sub e h2) (Reps.dp e ds vs (by simpa only [PyData.plain] using hp) h3)
  | dict _ => simp only [PyData.plain] at hp; cases hp
theorem okD_plain {d : D} (h : okD d = true) : d.plain = true := (Bool.and_eq_true_iff.mp h).1
theorem okD_depth {d : D} (h : okD d = true) : d.depth ≤ 40 := of_decide_eq_true (Bool.and_eq_true_iff.mp h).2
section
variable {K : PySem.W.Frag} {g : Gh} {σ : L2.St} {H : Hp} {s : Sta}
theorem rI {F : Hp} {i : Int} : Rep K F (.int i) (.int i) := by simp only [Rep]
theorem rB {F : Hp} {b : Bool} : Rep K F (.bool b) (.bl b) := by simp only [Rep]
theorem rN {F : Hp} : Rep K F .none .non := by simp only [Rep]
theorem rS {F : Hp} {x : Str} : Rep K F (.str x) (.str x) := by simp only [Rep]
theorem vI {i : Int} : RVal K g σ H s (.sh (.int i)) (.int i) := by simp only [RVal, Rep]
theorem vB {b : Bool} : RVal K g σ H s (.sh (.bool b)) (.bl b) := by simp only [RVal, Rep]
theorem vN : RVal K g σ H s (.sh .none) .non := by simp only [RVal, Rep]
theorem vS {x : Str} : RVal K g σ H s (.sh (.str x)) (.str x) := by simp only [RVal, Rep]
end
/-! == and != -/
def rEqP (K : PySem.W.Frag) (neg : Bool) : R2 := fun x y H Q => ∃ d e, Dp K H x d ∧ Dp K H y e ∧ okD d = true ∧ okD e = true ∧ Q (.bl (if neg then !PyData.eqv d e else PyData.eqv d e)) H
theorem op_eqP {X : Cx} (hu : X.A.units + 64 < cLine) : OpR X (compareOp .Eq) (rEqP X.K false) := by
  intro pins s σ H x y v u Q I rx ry h
  obtain ⟨d, e, hd, he, o1, o2, q⟩ := h
  obtain ⟨as, ra⟩ := Dp.reads I d x v hd rx
  obtain ⟨bs, rb⟩ := Dp.reads I e y u he ry
  exact PySem.SeqAt.eq_plain ra rb (okD_plain o1) (okD_plain o2) (by have := okD_depth o1; omega) ⟨.bl _, H, I, rfl, q⟩
theorem op_neP {X : Cx} (hu : X.A.units + 64 < cLine) : OpR X (compareOp .NotEq) (rEqP X.K true) := by
  intro pins s σ H x y v u Q I rx ry h
  obtain ⟨d, e, hd, he, o1, o2, q⟩ := h
  obtain ⟨as, ra⟩ := Dp.reads I d x v hd rx
  obtain ⟨bs, rb⟩ := Dp.reads I e y u he ry
  exact PySem.SeqAt.ne_plain ra rb (okD_plain o1) (okD_plain o2) (by have := okD_depth o1; omega) ⟨.bl _, H, I, rfl, q⟩
def fEq (d e : D) : Res RV := if okD d && okD e then .ok (.sh (.bool (PyData.eqv d e))) else .no
def fNe (d e : D) : Res RV := if okD d && okD e then .ok (.sh (.bool (!PyData.eqv d e))) else .no
section
variable {c : Cn}
theorem ck_eq : CmpOk c .Eq fEq := fun X ok => ⟨_, op_eqP ok.room.units, fun g σ H s x y d1 d2 rv Q R h1 h2 hf hq => by
  unfold fEq at hf
  split at hf
  · rename_i o
    rw [Bool.and_eq_true] at o
    cases hf
    exact ⟨d1, d2, Vw.dp R.sub (okD_plain o.1) h1, Vw.dp R.sub (okD_plain o.2) h2, o.1, o.2, hq g _ H (.refl g) R vB⟩
  · cases hf⟩
theorem ck_ne : CmpOk c .NotEq fNe := fun X ok => ⟨_, op_neP ok.room.units, fun g σ H s x y d1 d2 rv Q R h1 h2 hf hq => by
  unfold fNe at hf
  split at hf
  · rename_i o
    rw [Bool.and_eq_true] at o
    cases hf
    exact ⟨d1, d2, Vw.dp R.sub (okD_plain o.1) h1, Vw.dp R.sub (okD_plain o.2) h2, o.1, o.2, hq g _ H (.refl g) R vB⟩
  · cases hf⟩
/-! <, <=, >, >= -/
def rCmpP (K : PySem.W.Frag) (f : D → D → Bool) : R2 := fun x y H Q => ∃ d e, Dp K H x d ∧ Dp K H y e ∧ okD d = true ∧ PySem.W.alike d e = true ∧ d ≠ .none ∧ Q (.bl (f d e)) H
theorem op_ltP {X : Cx} (hu : X.A.units + 64 < cLine) : OpR X (compareOp .Lt) (rCmpP X.K fun d e => PySem.W.dataLt d e) := by
  intro pins s σ H x y v u Q I rx ry h
  obtain ⟨d, e, hd, he, o1, o2, o3, q⟩ := h
  obtain ⟨as, ra⟩ := Dp.reads I d x v hd rx
  obtain ⟨bs, rb⟩ := Dp.reads I e y u he ry
  exact PySem.W.lt_data ra rb o2 o3 (by have := okD_depth o1; omega) ⟨.bl _, H, I, rfl, q⟩
theorem op_gtP {X : Cx} (hu : X.A.units + 64 < cLine) : OpR X (compareOp .Gt) (rCmpP X.K fun d e => PySem.W.dataLt e d) := by
  intro pins s σ H x y v u Q I rx ry h
  obtain ⟨d, e, hd, he, o1, o2, o3, q⟩ := h
  obtain ⟨as, ra⟩ := Dp.reads I d x v hd rx
  obtain ⟨bs, rb⟩ := Dp.reads I e y u he ry
  exact PySem.W.gt_data ra rb o2 o3 (by have := okD_depth o1; omega) ⟨.bl _, H, I, rfl, q⟩
theorem op_leP {X : Cx} (hu : X.A.units + 64 < cLine) : OpR X (compareOp .LtE) (rCmpP X.K fun d e => !PySem.W.dataLt e d) := by
  intro pins s σ H x y v u Q I rx ry h
  obtain ⟨d, e, hd, he, o1, o2, o3, q⟩ := h
  obtain ⟨as, ra⟩ := Dp.reads I d x v hd rx
  obtain ⟨bs, rb⟩ := Dp.reads I e y u he ry
  exact PySem.W.le_data ra rb o2 o3 (by have := okD_depth o1; omega) ⟨.bl _, H, I, rfl, q⟩
theorem op_geP {X : Cx} (hu : X.A.units + 64 < cLine) : OpR X (compareOp .GtE) (rCmpP X.K fun d e => !PySem.W.dataLt d e) := by
  intro pins s σ H x y v u Q I rx ry h
  obtain ⟨d, e, hd, he, o1, o2, o3, q⟩ := h
  obtain ⟨as, ra⟩ := Dp.reads I d x v hd rx
  obtain ⟨bs, rb⟩ := Dp.reads I e y u he ry
  exact PySem.W.ge_data ra rb o2 o3 (by have := okD_depth o1; omega) ⟨.bl _, H, I, rfl, q⟩
/-- ints by their order; other data that are alike -/
def cmpI (p : Int → Int → Bool) (f : D → D → Bool) (d e : D) : Res RV :=
  match d, e with
  | .int i, .int j => .ok (.sh (.bool (p i j)))
  | d, e => if okD d && okD e && PySem.W.alike d e && !(PyData.eqv d .none) then .ok (.sh (.bool (f d e))) else .no
def fLt : D → D → Res RV := cmpI (fun i j => decide (i < j)) fun d e => PySem.W.dataLt d e
def fGt : D → D → Res RV := cmpI (fun i j => decide (j < i)) fun d e => PySem.W.dataLt e d
def fLe : D → D → Res RV := cmpI (fun i j => decide (i ≤ j)) fun d e => !PySem.W.dataLt e d
def fGe : D → D → Res RV := cmpI (fun i j => decide (j ≤ i)) fun d e => !PySem.W.dataLt d e
theorem cmp_sem {K : PySem.W.Frag} {p : Int → Int → Bool} {f : D → D → Bool} : Sem2 K (fun x y H Q => rI0 (fun i j => .bl (p i j)) x y H Q ∨ rCmpP K f x y H Q) (cmpI p f) := fun g σ H s x y d1 d2 rv Q R h1 h2 hf hq => by
  have gen : (if okD d1 && okD d2 && PySem.W.alike d1 d2 && !(PyData.eqv d1 .none) then Res.ok (RV.sh (.bool (f d1 d2))) else .no) = .ok rv → rCmpP K f x y H Q := fun hf => by
    split at hf
    · rename_i o
      simp only [Bool.and_eq_true, Bool.not_eq_true'] at o
      cases hf
      refine ⟨d1, d2, Vw.dp R.sub (okD_plain o.1.1.1) h1, Vw.dp R.sub (okD_plain o.1.1.2) h2, o.1.1.1, o.1.2, fun z => ?_, hq g _ H (.refl g) R vB⟩
      have := o.2
      rw [z] at this
      simp [PyData.eqv] at this
    · cases hf
  unfold cmpI at hf
  split at hf
  · cases hf
    exact .inl ⟨_, _, h1, h2, hq g _ H (.refl g) R vB⟩
  · exact .inr (gen hf)
theorem ck_lt : CmpOk c .Lt fLt := fun X ok => ⟨_, op_lt.or (op_ltP ok.room.units), cmp_sem⟩
theorem ck_gt : CmpOk c .Gt fGt := fun X ok => ⟨_, op_gt.or (op_gtP ok.room.units), cmp_sem⟩
theorem ck_le : CmpOk c .LtE fLe := fun X ok => ⟨_, op_le.or (op_leP ok.room.units), cmp_sem⟩
theorem ck_ge : CmpOk c .GtE fGe := fun X ok => ⟨_, op_ge.or (op_geP ok.room.units), cmp_sem⟩
/-! is None, is True -/
def rIsP (K : PySem.W.Frag) (neg : Bool) : R2 := fun x y H Q => ∃ d, Dp K H x d ∧ ((y = .non ∧ Q (.bl (if neg then !(PyData.eqv d .none) else PyData.eqv d .none)) H) ∨ ∃ a b, d = .bool a ∧ y = .bl b ∧ Q (.bl (if neg then !(a == b) else a == b)) H)
theorem dp_none {K : PySem.W.Frag} {H : Hp} {x : V} {d : D} (h : Dp K H x d) : decide (x = .non) = PyData.eqv d .none := by
  cases h <;> simp [PyData.eqv]
theorem op_isP {X : Cx} : OpR X (compareOp .Is) (rIsP X.K false) := by
  intro pins s σ H x y v u Q I rx ry h
  obtain ⟨d, hd, ⟨rfl, q⟩ | ⟨a, b, rfl, rfl, q⟩⟩ := h
  · exact op_isN pins s σ H x .non v u Q I rx ry ⟨rfl, by rw [dp_none hd]; exact q⟩
  · cases hd
    exact op_is_bl pins s σ H _ _ v u Q I rx ry ⟨a, b, rfl, rfl, by
      rw [show decide (a = b) = (a == b) from by cases a <;> cases b <;> rfl]; exact q⟩
theorem op_isnotP {X : Cx} : OpR X (compareOp .IsNot) (rIsP X.K true) := by
  intro pins s σ H x y v u Q I rx ry h
  obtain ⟨d, hd, ⟨rfl, q⟩ | ⟨a, b, rfl, rfl, q⟩⟩ := h
  · exact op_notN pins s σ H x .non v u Q I rx ry ⟨rfl, by rw [dp_none hd]; exact q⟩
  · cases hd
    exact op_isnot_bl pins s σ H _ _ v u Q I rx ry ⟨a, b, rfl, rfl, by
      rw [show decide (a = b) = (a == b) from by cases a <;> cases b <;> rfl]; exact q⟩
def isI (neg : Bool) (d e : D) : Res RV := match d, e with
  | d, .none => if d.plain then .ok (.sh (.bool (if neg then !(PyData.eqv d .none) else PyData.eqv d .none))) else .no
  | .bool a, .bool b => .ok (.sh (.bool (if neg then !(a == b) else a == b)))
  | _, _ => .no
theorem is_sem {K : PySem.W.Frag} {neg : Bool} : Sem2 K (rIsP K neg) (isI neg) := fun g σ H s x y d1 d2 rv Q R h1 h2 hf hq => by
  unfold isI at hf
  split at hf
  · split at hf
    · rename_i o
      cases hf
      exact ⟨_, Vw.dp R.sub o h1, .inl ⟨h2, hq g _ H (.refl g) R vB⟩⟩
    · cases hf
  · cases hf
    exact ⟨_, Vw.dp R.sub rfl h1, .inr ⟨_, _, rfl, h2, hq g _ H (.refl g) R vB⟩⟩
  · cases hf
theorem ck_is : CmpOk c .Is (isI false) := fun X ok => ⟨_, op_isP, is_sem⟩
theorem ck_isnot : CmpOk c .IsNot (isI true) := fun X ok => ⟨_, op_isnotP, is_sem⟩
/-! in, not in: lists, tuples -/
def rInP (K : PySem.W.Frag) (neg : Bool) : R2 := fun x y H Q => ∃ d xs, Dp K H x d ∧ (Dp K H y (.list xs) ∨ Dp K H y (.tuple xs)) ∧ okD d = true ∧ PyData.plainAll xs = true ∧ Q (.bl (if neg then !(xs.any fun z => PyData.eqv z d) else xs.any fun z => PyData.eqv z d)) H
theorem op_inP {X : Cx} (hu : X.A.units + 64 < cLine) : OpR X (compareOp .In) (rInP X.K false) := by
  intro pins s σ H x y v u Q I rx ry h
  obtain ⟨d, xs, hd, he, o1, o2, q⟩ := h
  obtain ⟨as, ra⟩ := Dp.reads I d x v hd rx
  have hd := okD_depth o1
  rcases he with he | he
  · obtain ⟨bs, rb⟩ := Dp.reads I _ y u he ry
    exact PySem.SeqAt.in_list_data rb ra o2 (okD_plain o1) (by omega) ⟨.bl _, H, I, rfl, q⟩
  · obtain ⟨bs, rb⟩ := Dp.reads I _ y u he ry
    exact PySem.SeqAt.in_tuple_data rb ra o2 (okD_plain o1) (by omega) ⟨.bl _, H, I, rfl, q⟩
theorem op_notInP {X : Cx} (hu : X.A.units + 64 < cLine) : OpR X (compareOp .NotIn) (rInP X.K true) := by
  intro pins s σ H x y v u Q I rx ry h
  obtain ⟨d, xs, hd, he, o1, o2, q⟩ := h
  obtain ⟨as, ra⟩ := Dp.reads I d x v hd rx
  have hd := okD_depth o1
  rcases he with he | he
  · obtain ⟨bs, rb⟩ := Dp.reads I _ y u he ry
    exact PySem.SeqAt.notIn_list_data rb ra o2 (okD_plain o1) (by omega) ⟨.bl _, H, I, rfl, q⟩
  · obtain ⟨bs, rb⟩ := Dp.reads I _ y u he ry
    exact PySem.SeqAt.notIn_tuple_data rb ra o2 (okD_plain o1) (by omega) ⟨.bl _, H, I, rfl, q⟩
end
end Yd

namespace Yd
open PySem PySem.Spec PyProof.Rows L2
/-! lists of data by place -/
theorem Reps.get {K : PySem.W.Frag} {F : Hp} : ∀ {ds : List D} {vs : List V} {i : Nat} {d : D}, Reps K F ds vs → ds[i]? = some d → ∃ v, vs[i]? = some v ∧ Rep K F d v
  | [], vs, i, d, h, e => by simp at e
  | x :: ds, vs, 0, d, h, e => by
    simp only [Reps] at h
    obtain ⟨v, r, rfl, h2, h3⟩ := h
    simp at e
    subst e
    exact ⟨v, rfl, h2⟩
  | x :: ds, vs, i + 1, d, h, e => by
    simp only [Reps] at h
    obtain ⟨v, r, rfl, h2, h3⟩ := h
    simpa using Reps.get h3 (by simpa using e)
theorem Reps.append {K : PySem.W.Frag} {F : Hp} : ∀ {ds es : List D} {vs us : List V}, Reps K F ds vs → Reps K F es us → Reps K F (ds ++ es) (vs ++ us)
  | [], es, vs, us, h, k => by simp only [Reps] at h; subst h; exact k
  | x :: ds, es, vs, us, h, k => by
    simp only [Reps] at h
    obtain ⟨v, r, rfl, h2, h3⟩ := h
    simp only [List.cons_append, Reps]
    exact ⟨v, r ++ us, rfl, h2, Reps.append h3 k⟩
theorem Reps.take {K : PySem.W.Frag} {F : Hp} : ∀ {ds : List D} {vs : List V} (n : Nat), Reps K F ds vs → Reps K F (ds.take n) (vs.take n)
  | [], vs, n, h => by simp only [Reps] at h; subst h; simp [Reps]
  | x :: ds, vs, 0, h => by simp [Reps]
  | x :: ds, vs, n + 1, h => by
    simp only [Reps] at h
    obtain ⟨v, r, rfl, h2, h3⟩ := h
    simp only [List.take_succ_cons, Reps]
    exact ⟨v, _, rfl, h2, Reps.take n h3⟩
theorem Reps.drop {K : PySem.W.Frag} {F : Hp} : ∀ {ds : List D} {vs : List V} (n : Nat), Reps K F ds vs → Reps K F (ds.drop n) (vs.drop n)
  | [], vs, n, h => by simp only [Reps] at h; subst h; simp [Reps]
  | x :: ds, vs, 0, h => by simpa using h
  | x :: ds, vs, n + 1, h => by
    simp only [Reps] at h
    obtain ⟨v, r, rfl, h2, h3⟩ := h
    simpa using Reps.drop n h3
theorem Reps.set {K : PySem.W.Frag} {F : Hp} {d : D} {v : V} (hv : Rep K F d v) : ∀ {ds : List D} {vs : List V} (n : Nat), Reps K F ds vs → Reps K F (ds.set n d) (vs.set n v)
  | [], vs, n, h => by simp only [Reps] at h; subst h; simp [Reps]
  | x :: ds, vs, 0, h => by
    simp only [Reps] at h
    obtain ⟨u, r, rfl, h2, h3⟩ := h
    simp only [List.set_cons_zero, Reps]
    exact ⟨v, r, rfl, hv, h3⟩
  | x :: ds, vs, n + 1, h => by
    simp only [Reps] at h
    obtain ⟨u, r, rfl, h2, h3⟩ := h
    simp only [List.set_cons_succ, Reps]
    exact ⟨u, _, rfl, h2, Reps.set hv n h3⟩
theorem Reps.erase {K : PySem.W.Frag} {F : Hp} : ∀ {ds : List D} {vs : List V} (n : Nat), Reps K F ds vs → Reps K F (ds.eraseIdx n) (vs.eraseIdx n)
  | [], vs, n, h => by simp only [Reps] at h; subst h; simp [Reps]
  | x :: ds, vs, 0, h => by
    simp only [Reps] at h
    obtain ⟨u, r, rfl, h2, h3⟩ := h
    exact h3
  | x :: ds, vs, n + 1, h => by
    simp only [Reps] at h
    obtain ⟨u, r, rfl, h2, h3⟩ := h
    simp only [List.eraseIdx_cons_succ, Reps]
    exact ⟨u, _, rfl, h2, Reps.erase n h3⟩
theorem Reps.snoc {K : PySem.W.Frag} {F : Hp} {ds : List D} {vs : List V} {d : D} {v : V} (h : Reps K F ds vs) (hv : Rep K F d v) : Reps K F (ds ++ [d]) (vs ++ [v]) :=
  h.append (by simp only [Reps]; exact ⟨v, [], rfl, hv, rfl⟩)
theorem Reps.nil {K : PySem.W.Frag} {F : Hp} : Reps K F [] [] := by simp only [Reps]
theorem Reps.rep {K : PySem.W.Frag} {F : Hp} {ds : List D} {vs : List V} (h : Reps K F ds vs) : ∀ n : Nat, Reps K F (List.replicate n ds).flatten (List.replicate n vs).flatten
  | 0 => by simp [Reps]
  | n + 1 => by
    simp only [List.replicate_succ, List.flatten_cons]
    exact h.append (Reps.rep h n)
theorem Reps.at {K : PySem.W.Frag} {F : Hp} {ds : List D} {vs : List V} {i : Int} {d : D} (h : Reps K F ds vs) (e : atI ds i = some d) : ∃ v, atI vs i = some v ∧ Rep K F d v := by
  unfold atI at e ⊢
  rw [Reps.length h]
  cases q : ixN ds.length i with
  | none => rw [q] at e; cases e
  | some j => rw [q] at e; exact Reps.get h e
/-! arithmetic -/
def fAdd : D → D → Res RV
  | .int i, .int j => .ok (.sh (.int (i + j)))
  | .tuple a, .tuple b => if a.length + b.length ≤ lim then .ok (.sh (.tuple (a ++ b))) else .no
  | .list a, .list b => if a.length + b.length ≤ lim then .ok (.fr (.list (a ++ b))) else .no
  | .str a, .str b => if a.length + b.length ≤ lim then .ok (.sh (.str (a ++ b))) else .no
  | _, _ => .no
def rCatR (K : PySem.W.Frag) : R2 := fun x y H Q => ∃ l b xs zs, x = .ref l ∧ y = .ref b ∧ SqX K H l xs ∧ SqX K H b zs ∧ xs.length + zs.length ≤ sizeLine ∧ ∀ p, H p = none → Q (.ref p) (upd H p (.lst (xs ++ zs)))
theorem Inv.lstR {X : Cx} {pins : List (Addr × Obj)} {σ : L2.St} {H : Hp} {s : Shared} {l : Addr} {xs : List V} (I : Inv X pins σ H s) (hH : SqX X.K H l xs) : xs.length ≤ sizeLine ∧ ∃ (its : List Value) (n : Nat), Vals xs its ∧ xs.length = its.length ∧ s.heap.get? l = some { cls := .type "list", data := .seq its.toArray n } := by
  rcases hH with hH | ⟨its, n, h1, h2, h3⟩
  · obtain ⟨z, its, n, r, e⟩ := rd_of I.hok hH
    exact ⟨z, its, n, r, r.length, e⟩
  · exact ⟨by rw [h3.length]; exact h2, its, n, h3, h3.length, I.kIn l _ h1⟩
theorem op_catR {X : Cx} : OpR X (binaryOp .Add) (rCatR X.K) := by
  intro pins s σ H x y v u Q I rx ry h
  obtain ⟨l, b, xs, zs, rfl, rfl, hH, hB, hz, q⟩ := h
  cases rx
  cases ry
  obtain ⟨z, its, n, r, hl, e⟩ := Inv.lstR I hH
  obtain ⟨z2, its2, n2, r2, hl2, e2⟩ := Inv.lstR I hB
  refine PySem.P.add_list e e2 ?_ (by rw [List.size_toArray, List.size_toArray]; omega)
  have ea : its.toArray ++ its2.toArray = (its ++ its2).toArray := by simp
  rw [ea]
  exact ⟨.ref _, _, L2.Inv.lnew (t' := s.toks) I (r.append r2) (by rw [List.length_append]; omega), rfl, q _ (L2.Inv.fresh I)⟩
theorem lim_le {n : Nat} (h : n ≤ lim) : n ≤ sizeLine := Nat.le_trans h (Nat.le_of_lt lim_line)
section
variable {c : Cn}
def OpOk (c : Cn) (op : Operator) (f : D → D → Res RV) : Prop := ∀ X, c.Ok X → ∃ r, OpR X (binaryOp op) r ∧ Sem2 X.K r f
theorem ok_add : OpOk c .Add fAdd := fun X ok => ⟨_, (op_add.or op_catA).or (op_catR.or op_add_str), fun g σ H s x y d1 d2 rv Q R h1 h2 hf hq => by
  unfold fAdd at hf
  split at hf
  · cases hf
    exact .inl (.inl ⟨_, _, h1, h2, hq g _ H (.refl g) R vI⟩)
  · split at hf
    · rename_i a b hl
      cases hf
      have h1' := h1
      have h2' := h2
      obtain ⟨p, vs, rfl, k1, k2⟩ := h1
      obtain ⟨q, us, rfl, k3, k4⟩ := h2
      refine .inl (.inr ⟨p, q, vs, us, rfl, rfl, sqt_sub R.sub k1, sqt_sub R.sub k3, ?_, fun e => ?_, fun e1 e2 => ?_, fun e1 e2 z hz => ?_⟩)
      · rw [Reps.length k2, Reps.length k4]
        exact lim_le hl
      · subst e
        have : a = [] := List.eq_nil_of_length_eq_zero (by rw [← Reps.length k2]; rfl)
        subst this
        exact hq g _ H (.refl g) R (by
          show Rep _ _ (.tuple ([] ++ b)) _
          simp only [List.nil_append, Rep]
          exact ⟨q, us, rfl, k3, k4⟩)
      · subst e2
        have : b = [] := List.eq_nil_of_length_eq_zero (by rw [← Reps.length k4]; rfl)
        subst this
        exact hq g _ H (.refl g) R (by
          show Rep _ _ (.tuple (a ++ [])) _
          simp only [List.append_nil, Rep]
          exact ⟨p, vs, rfl, k1, k2⟩)
      · obtain ⟨g3, u3, R3, z3⟩ := R.madeT hz (k2.append k4)
        exact hq g3 _ _ u3 R3 z3
    · cases hf
  · split at hf
    · rename_i a b hl
      cases hf
      obtain ⟨p, vs, rfl, k1, k2⟩ := h1
      obtain ⟨q, us, rfl, k3, k4⟩ := h2
      refine .inr (.inl ⟨p, q, vs, us, rfl, rfl, k1, k3, ?_, fun z hz => ?_⟩)
      · rw [Reps.length k2, Reps.length k4]
        exact lim_le hl
      · obtain ⟨R3, z3⟩ := R.made (d := .list (a ++ b)) hz ⟨_, rfl, k2.append k4⟩
        exact hq g _ _ (.refl g) R3 z3
    · cases hf
  · split at hf
    · rename_i a b hl
      cases hf
      exact .inr (.inr ⟨_, _, h1, h2, lim_le hl, hq g _ H (.refl g) R vS⟩)
    · cases hf
  · cases hf⟩
def fSub : D → D → Res RV
  | .int i, .int j => .ok (.sh (.int (i - j)))
  | _, _ => .no
theorem ok_sub : OpOk c .Sub fSub := fun X ok => ⟨_, op_sub, fun g σ H s x y d1 d2 rv Q R h1 h2 hf hq => by
  unfold fSub at hf
  split at hf
  · cases hf
    exact ⟨_, _, h1, h2, hq g _ H (.refl g) R vI⟩
  · cases hf⟩
/-- small enough to be multiplied with anything -/
def smallI (i : Int) : Bool := decide (-(2 ^ 64) < i) && decide (i < 2 ^ 64)
theorem smallI_of {i : Int} (h : smallI i = true) : -(2 ^ 64) < i ∧ i < 2 ^ 64 := by
  unfold smallI at h
  rw [Bool.and_eq_true] at h
  exact ⟨of_decide_eq_true h.1, of_decide_eq_true h.2⟩
def fMul : D → D → Res RV
  | .int i, .int j => if smallI i || smallI j then .ok (.sh (.int (i * j))) else .no
  | .list a, .int k => if 0 ≤ k ∧ k ≤ 1000000 ∧ a.length * k.toNat ≤ lim then .ok (.fr (.list (List.replicate k.toNat a).flatten)) else .no
  | .tuple a, .int k => if a ≠ [] ∧ 2 ≤ k ∧ k ≤ 1000 ∧ a.length ≤ 1000 then .ok (.sh (.tuple (List.replicate k.toNat a).flatten)) else .no
  | _, _ => .no
def rRepR (K : PySem.W.Frag) : R2 := fun x y H Q => ∃ l k xs, x = .ref l ∧ y = .int k ∧ SqX K H l xs ∧ -(2 ^ 63) ≤ k ∧ k < 2 ^ 63 ∧ xs.length * k.toNat ≤ sizeLine ∧
  ∀ p, H p = none → Q (.ref p) (upd H p (.lst (List.replicate k.toNat xs).flatten))
theorem op_repR {X : Cx} : OpR X (binaryOp .Mult) (rRepR X.K) := by
  intro pins s σ H x y v u Q I rx ry h
  obtain ⟨l, k, xs, rfl, rfl, hH, h1, h2, hz, q⟩ := h
  cases rx
  obtain ⟨t, rfl⟩ := ry
  obtain ⟨z, its, n, r, hl, e⟩ := Inv.lstR I hH
  have hlen : its.toArray.size * k.toNat ≤ sizeLine := by rw [List.size_toArray, ← hl]; exact hz
  have hcap : ¬ its.toArray.size * k.toNat > (2 ^ 63 - 1) / 8 := by
    have : (sizeLine : Nat) ≤ (2 ^ 63 - 1) / 8 := by decide
    omega
  have hfit : ¬ (!Builtin.List.listFitsIndex k) = true := by
    rw [fitsIndex_both h1 h2]
    exact Bool.false_ne_true
  have hlong : ¬ Builtin.List.listTooLong (its.toArray.size * k.toNat) = true := by
    rw [notLongL hlen]
    exact Bool.false_ne_true
  have hnew : List.foldl (fun x1 x2 => x1 ++ x2) #[] (List.replicate (if its.toArray.isEmpty = true then 0 else k.toNat) its.toArray) = (List.replicate k.toNat its).flatten.toArray := by
    have f0 : ∀ m : Nat, List.foldl (fun x1 x2 => x1 ++ x2) #[] (List.replicate m its.toArray) = (List.replicate m its).flatten.toArray := fun m => by
      have := foldl_rep its m []
      rw [List.nil_append] at this
      exact this
    rw [f0]
    cases its with
    | nil => simp
    | cons a r' => rw [if_neg (by simp)]
  refine wpAny_binaryOp_repeat_ref (T := "list") (U := "int") (by decide) ⟨_, e, rfl⟩ (fun s' => typeIs_int s' k t) noFill_list_mul F.fills_int_mul F.slot_int_rmul repeat_list F.slot_int_index.lookup
    (call_meets F.slot_int_rmul (typeIs_int s k t) F.entry_int_rmul (F.args_int_rmul_2 _ _) (int___rmul___int_list k t l its.toArray n)
      ⟨e, rfl, ⟨_, e, rfl⟩, call_meets F.slot_list_mul ⟨_, e, rfl⟩ F.entry_list_mul (F.args_list_mul_2 _ _) (AutoListH.list___mul___list_int_3 l its.toArray n k t hfit hcap hlong) ⟨e, ?_⟩⟩)
  rw [hnew]
  exact ⟨.ref _, _, L2.Inv.lnew (t' := s.toks) I (r.rep k.toNat) (by rw [PyProof.Rows.lm_len_rep_flat, Nat.mul_comm]; exact hz), rfl, q _ (L2.Inv.fresh I)⟩
theorem ok_mul : OpOk c .Mult fMul := fun X ok => ⟨_, (op_mul.or op_repR).or op_repT, fun g σ H s x y d1 d2 rv Q R h1 h2 hf hq => by
  unfold fMul at hf
  split at hf
  · split at hf
    · rename_i o
      cases hf
      rw [Bool.or_eq_true] at o
      exact .inl (.inl ⟨_, _, h1, h2, o.imp smallI_of smallI_of, hq g _ H (.refl g) R vI⟩)
    · cases hf
  · split at hf
    · rename_i a k o
      cases hf
      obtain ⟨p, vs, rfl, k1, k2⟩ := h1
      refine .inl (.inr ⟨p, k, vs, rfl, h2, k1, by omega, by omega, ?_, fun z hz => ?_⟩)
      · rw [Reps.length k2]
        exact lim_le o.2.2
      · obtain ⟨R3, z3⟩ := R.made (d := .list (List.replicate k.toNat a).flatten) hz ⟨_, rfl, Reps.rep k2 _⟩
        exact hq g _ _ (.refl g) R3 z3
    · cases hf
  · split at hf
    · rename_i a k o
      cases hf
      obtain ⟨p, vs, rfl, k1, k2⟩ := h1
      refine .inr ⟨p, k, vs, rfl, h2, sqt_sub R.sub k1, fun z => ?_, o.2.1, o.2.2.1, by rw [Reps.length k2]; exact o.2.2.2, fun z hz => ?_⟩
      · subst z
        exact o.1 (List.eq_nil_of_length_eq_zero (by rw [← Reps.length k2]; rfl))
      · obtain ⟨g3, u3, R3, z3⟩ := R.madeT hz (Reps.rep k2 k.toNat)
        exact hq g3 _ _ u3 R3 z3
    · cases hf
  · cases hf⟩
def fDiv : D → D → Res RV
  | .int i, .int j => if 0 < j ∧ j < 1073741824 then .ok (.sh (.int (i / j))) else .no
  | _, _ => .no
theorem ok_div : OpOk c .FloorDiv fDiv := fun X ok => ⟨_, op_fdiv, fun g σ H s x y d1 d2 rv Q R h1 h2 hf hq => by
  unfold fDiv at hf
  split at hf
  · split at hf
    · rename_i o
      cases hf
      exact ⟨_, _, h1, h2, o, hq g _ H (.refl g) R vI⟩
    · cases hf
  · cases hf⟩
def fMod : D → D → Res RV
  | .int i, .int j => if 0 < j then .ok (.sh (.int (i % j))) else .no
  | _, _ => .no
theorem ok_mod : OpOk c .Mod fMod := fun X ok => ⟨_, op_mod, fun g σ H s x y d1 d2 rv Q R h1 h2 hf hq => by
  unfold fMod at hf
  split at hf
  · split at hf
    · rename_i o
      cases hf
      exact ⟨_, _, h1, h2, o, hq g _ H (.refl g) R vI⟩
    · cases hf
  · cases hf⟩
def fPow : D → D → Res RV
  | .int i, .int j => if 0 ≤ j ∧ j ≤ 1000 ∧ i.natAbs < 2 ^ 64 then .ok (.sh (.int (i ^ j.toNat))) else .no
  | _, _ => .no
theorem ok_pow : OpOk c .Pow fPow := fun X ok => ⟨_, op_pow, fun g σ H s x y d1 d2 rv Q R h1 h2 hf hq => by
  unfold fPow at hf
  split at hf
  · split at hf
    · rename_i o
      cases hf
      exact ⟨_, _, h1, h2, ⟨o.1, by omega, o.2.2⟩, hq g _ H (.refl g) R vI⟩
    · cases hf
  · cases hf⟩
def fNeg : D → Res RV
  | .int i => .ok (.sh (.int (-i)))
  | _ => .no
theorem se_neg {a : Expr} {ma : M} {pos : Pos} (ha : SE c a ma) : SE c (.UnaryOp .USub a pos) (m1 fNeg ma) := se_un (fun X ok => ⟨_, un_neg, fun g σ H s x d rv Q R h1 hf hq => by
  unfold fNeg at hf
  split at hf
  · cases hf
    exact ⟨_, h1, hq g _ H (.refl g) R vI⟩
  · cases hf⟩) ha
/-! in, not in -/
def inI (neg : Bool) (d e : D) : Res RV := match e with
  | .list xs => if okD d && PyData.plainAll xs then .ok (.sh (.bool (if neg then !(xs.any fun z => PyData.eqv z d) else xs.any fun z => PyData.eqv z d))) else .no
  | .tuple xs => if okD d && PyData.plainAll xs then .ok (.sh (.bool (if neg then !(xs.any fun z => PyData.eqv z d) else xs.any fun z => PyData.eqv z d))) else .no
  | _ => .no
theorem in_sem {K : PySem.W.Frag} {neg : Bool} : Sem2 K (rInP K neg) (inI neg) := fun g σ H s x y d1 d2 rv Q R h1 h2 hf hq => by
  unfold inI at hf
  split at hf
  · split at hf
    · rename_i xs o
      rw [Bool.and_eq_true] at o
      cases hf
      exact ⟨d1, xs, Vw.dp R.sub (okD_plain o.1) h1, .inl (Vw.dp R.sub (by simpa only [PyData.plain] using o.2) h2), o.1, o.2, hq g _ H (.refl g) R vB⟩
    · cases hf
  · split at hf
    · rename_i xs o
      rw [Bool.and_eq_true] at o
      cases hf
      exact ⟨d1, xs, Vw.dp R.sub (okD_plain o.1) h1, .inr (Vw.dp R.sub (by simpa only [PyData.plain] using o.2) h2), o.1, o.2, hq g _ H (.refl g) R vB⟩
    · cases hf
  · cases hf
theorem ck_in : CmpOk c .In (inI false) := fun X ok => ⟨_, op_inP ok.room.units, in_sem⟩
theorem ck_notin : CmpOk c .NotIn (inI true) := fun X ok => ⟨_, op_notInP ok.room.units, in_sem⟩
/-! chains -/
theorem t_chn {K : PySem.W.Frag} {r r' : R2} {f f' : D → D → Res RV} (hf : Sem2 K r f) (hf' : Sem2 K r' f') {ma mb mc : M} {σ : L2.St} {H : Hp} {Q : VK} (h : T K (mChn f f' ma mb mc) σ H Q) : tChain r r' (T K ma) (T K mb) (T K mc) σ H Q := by
  obtain ⟨g, s, r0, s', R, hm, hq⟩ := h
  obtain ⟨⟨r1, s1⟩, e1, hm⟩ := bind_ok hm
  obtain ⟨⟨r2, s2⟩, e2, hm⟩ := bind_ok hm
  obtain ⟨d1, e3, hm⟩ := bind_ok hm
  obtain ⟨d2, e4, hm⟩ := bind_ok hm
  refine ⟨g, s, r1, s1, R, e1, fun g1 x H1 u1 R1 hx => ?_⟩
  obtain ⟨g1', u1', R1', z1⟩ := R1.z hx
  refine ⟨g1', s1, r2, s2, R1', e2, fun g2 y H2 u2 R2 hy => ?_⟩
  obtain ⟨g2', u2', R2', z2⟩ := R2.z hy
  have z1' := z1.mono (u2.s.trans u2'.s)
  have up := u1.trans (u1'.trans (u2.trans u2'))
  cases hr : f d1 d2 with
  | no => rw [hr] at hm; cases hm
  | err _ => rw [hr] at hm; cases hm
  | ok rv =>
    rw [hr] at hm
    cases rv with
    | fr _ => cases hm
    | sl _ => cases hm
    | sh d =>
      cases d with
      | bool k =>
        refine hf g2' σ H2 s2 x y d1 d2 _ _ R2' (R2'.rd z1' e3) (R2'.rd z2 e4) hr fun g3 v H3 u3 R3 hv => ?_
        have hv : Rep K g3.F (.bool k) v := hv
        simp only [Rep] at hv
        refine ⟨k, hv, ?_⟩
        cases k with
        | false =>
          cases hm
          exact hq g3 _ H3 (up.trans u3) R3 vB
        | true =>
          obtain ⟨⟨r3, s3⟩, e5, hm⟩ := bind_ok hm
          obtain ⟨d2', e6, hm⟩ := bind_ok hm
          obtain ⟨d3, e7, hm⟩ := bind_ok hm
          obtain ⟨v', e8, hm⟩ := bind_ok hm
          cases hm
          refine ⟨g3, s2, r3, s', R3, e5, fun g4 w' H4 u4 R4 hw => ?_⟩
          obtain ⟨g4', u4', R4', z4⟩ := R4.z hw
          exact hf' g4' σ H4 s' y w' d2' d3 _ Q R4' (R4'.rd (z2.mono (u3.s.trans (u4.s.trans u4'.s))) e6) (R4'.rd z4 e7) e8 fun g' v H' u R hv => hq g' v H' (up.trans (u3.trans (u4.trans (u4'.trans u)))) R hv
      | _ => cases hm
theorem se_chn {op op' : CmpOp} {f f' : D → D → Res RV} {a b e : Expr} {ma mb mc : M} {pos : Pos} (hf : CmpOk c op f) (hf' : CmpOk c op' f') (ha : SE c a ma) (hb : SE c b mb) (hc : SE c e mc) (hm : lastMarks [op, op'] [b, e] = false := by with_unfolding_all rfl) : SE c (.Compare a [op, op'] [b, e] pos) (mChn f f' ma mb mc) := fun X ok => by
  obtain ⟨r, ho, hs⟩ := hf X ok
  obtain ⟨r', ho', hs'⟩ := hf' X ok
  exact (pe_chain ho ho' (ha X ok) (hb X ok) (hc X ok) hm).pre fun _ _ _ => t_chn hs hs'
theorem st_chn {op op' : CmpOp} {f f' : D → D → Res RV} {a b e : Expr} {ma mb mc : M} {pos : Pos} (hf : CmpOk c op f) (hf' : CmpOk c op' f') (ha : SE c a ma) (hb : SE c b mb) (hc : SE c e mc) (hm : lastMarks [op, op'] [b, e] = false := by with_unfolding_all rfl) : STs c (.Compare a [op, op'] [b, e] pos) (tOf (mChn f f' ma mb mc)) := fun X ok => by
  obtain ⟨r, ho, hs⟩ := hf X ok
  obtain ⟨r', ho', hs'⟩ := hf' X ok
  exact (pt_chain ho ho' (ha X ok) (hb X ok) (hc X ok) hm).pre fun _ _ _ q => t_chn hs hs' (t_of q)
/-! a subscript -/
def fIx : D → D → Res RV
  | .list xs, .int i => match atI xs i with
    | some d => .ok (.sh d)
    | none => .no
  | .tuple xs, .int i => match atI xs i with
    | some d => .ok (.sh d)
    | none => .no
  | _, _ => .no
theorem ix_sem {K : PySem.W.Frag} : Sem2 K (fun x y H Q => rIxL K x y H Q ∨ rIxT K x y H Q) fIx := fun g σ H s x y d1 d2 rv Q R h1 h2 hf hq => by
  unfold fIx at hf
  split at hf
  · split at hf
    · rename_i d e
      cases hf
      obtain ⟨p, vs, rfl, k1, k2⟩ := h1
      obtain ⟨v, e1, e2⟩ := Reps.at k2 e
      exact .inl ⟨p, vs, _, v, rfl, h2, sqx_l k1, e1, hq g _ H (.refl g) R e2⟩
    · cases hf
  · split at hf
    · rename_i d e
      cases hf
      obtain ⟨p, vs, rfl, k1, k2⟩ := h1
      obtain ⟨v, e1, e2⟩ := Reps.at k2 e
      exact .inr ⟨p, vs, _, v, rfl, h2, sqt_sub R.sub k1, e1, hq g _ H (.refl g) R e2⟩
    · cases hf
  · cases hf
theorem se_ix {a b : Expr} {ma mb : M} {pos : Pos} (ha : SE c a ma) (hb : SE c b mb) (hs : PlainIx b := by intro _ _; rfl) : SE c (.Subscript a b pos) (m2 fIx ma mb) := fun X ok =>
  (pe_ix (ix_list.or ix_tup) (ha X ok) (hb X ok) hs).pre fun _ _ _ => t_m2 ix_sem
/-! slices -/
abbrev MO := Sta → Res (Option RV × Sta)
def oNo : MO := fun s => .ok (none, s)
def oYes (m : M) : MO := fun s => do
  let (r, s1) ← m s
  .ok (some r, s1)
def rdO (s : Sta) : Option RV → Res (Option Int)
  | none => .ok none
  | some r => match rd s r with
    | .ok (.int i) => .ok (some i)
    | _ => .no
def mSl (a : M) (lo hi : MO) : M := fun s => do
  let (r, s1) ← a s
  let (l, s2) ← lo s1
  let l ← rdO s2 l
  let (h, s3) ← hi s2
  let h ← rdO s3 h
  let d ← rd s3 r
  match d with
  | .list xs => .ok (.fr (.list ((xs.drop (HT.sIx xs.length 0 l)).take (HT.sIx xs.length xs.length h - HT.sIx xs.length 0 l))), s3)
  | .tuple xs => .ok (.sh (.tuple ((xs.drop (HT.sIx xs.length 0 l)).take (HT.sIx xs.length xs.length h - HT.sIx xs.length 0 l))), s3)
  | _ => .no
def To (K : PySem.W.Frag) (m : MO) : TO := fun σ H Q => ∃ g s r i s', Rel K g σ H s ∧ m s = .ok (r, s') ∧ rdO s' r = .ok i ∧ ∀ g' H', Up g g' → Rel K g' σ H' s' → Q i H'
def SO (c : Cn) (e : Option Expr) (m : MO) : Prop := ∀ X, c.Ok X → PO X e (To X.K m)
theorem _root_.L2.PO.pre {X : Cx} {e : Option Expr} {t t' : TO} (h : PO X e t) (i : ∀ σ H Q, t' σ H Q → t σ H Q) : PO X e t' := ⟨fun pins s σ H Q I q => h.run pins s σ H Q I (i σ H Q q)⟩
theorem so_no : SO c none oNo := fun X ok => po_none.pre fun σ H Q q => by
  obtain ⟨g, s, r, i, s', R, hm, hr, hq⟩ := q
  cases hm
  cases hr
  exact hq g H (.refl g) R
theorem so_yes {e : Expr} {m : M} (h : SE c e m) : SO c (some e) (oYes m) := fun X ok => (po_some (h X ok)).pre fun σ H Q q => by
  obtain ⟨g, s, r, i, s', R, hm, hr, hq⟩ := q
  obtain ⟨⟨r1, s1⟩, e1, hm⟩ := bind_ok hm
  cases hm
  refine ⟨g, s, r1, s', R, e1, fun g1 x H1 u1 R1 hx => ?_⟩
  obtain ⟨g1', u1', R1', z1⟩ := R1.z hx
  have hr : (match rd s' r1 with | .ok (.int i) => Res.ok (some i) | _ => .no) = .ok i := hr
  cases e2 : rd s' r1 with
  | no => rw [e2] at hr; cases hr
  | err _ => rw [e2] at hr; cases hr
  | ok d =>
    rw [e2] at hr
    cases d with
    | int k =>
      cases hr
      exact ⟨k, R1'.rd z1 e2, hq g1' H1 (u1.trans u1') R1'⟩
    | _ => cases hr
theorem se_sl {a : Expr} {lo hi : Option Expr} {ma : M} {ml mh : MO} {p2 pos : Pos} (ha : SE c a ma) (hl : SO c lo ml) (hh : SO c hi mh) : SE c (.Subscript a (.Slice lo hi none p2) pos) (mSl ma ml mh) := fun X ok =>
  (pe_slice (sl_list.or sl_tupA) (ha X ok) (hl X ok) (hh X ok)).pre fun σ H Q q => by
    obtain ⟨g, s, r0, s', R, hm, hq⟩ := q
    obtain ⟨⟨r1, s1⟩, e1, hm⟩ := bind_ok hm
    obtain ⟨⟨r2, s2⟩, e2, hm⟩ := bind_ok hm
    obtain ⟨l, e3, hm⟩ := bind_ok hm
    obtain ⟨⟨r3, s3⟩, e4, hm⟩ := bind_ok hm
    obtain ⟨h, e5, hm⟩ := bind_ok hm
    obtain ⟨d, e6, hm⟩ := bind_ok hm
    refine ⟨g, s, r1, s1, R, e1, fun g1 x H1 u1 R1 hx => ?_⟩
    obtain ⟨g1', u1', R1', z1⟩ := R1.z hx
    refine ⟨g1', s1, r2, l, s2, R1', e2, e3, fun g2 H2 u2 R2 => ?_⟩
    refine ⟨g2, s2, r3, h, s3, R2, e4, e5, fun g3 H3 u3 R3 => ?_⟩
    have up := u1.trans (u1'.trans (u2.trans u3))
    have hv := R3.rd (z1.mono (u2.s.trans u3.s)) e6
    cases d with
    | list xs =>
      cases hm
      obtain ⟨p, vs, rfl, k1, k2⟩ := hv
      refine .inl ⟨p, vs, rfl, sqx_l k1, fun z hz => ?_⟩
      unfold cutV
      rw [Reps.length k2]
      obtain ⟨R4, z4⟩ := R3.made (d := .list ((xs.drop (HT.sIx xs.length 0 l)).take (HT.sIx xs.length xs.length h - HT.sIx xs.length 0 l))) hz ⟨_, rfl, Reps.take _ (Reps.drop _ k2)⟩
      exact hq g3 _ _ up R4 z4
    | tuple xs =>
      cases hm
      obtain ⟨p, vs, rfl, k1, k2⟩ := hv
      refine .inr ⟨p, vs, rfl, sqt_sub R3.sub k1, fun e => ?_, fun _ z hz => ?_⟩
      · rw [Reps.length k2] at e
        refine hq g3 _ _ up R3 ?_
        show Rep _ _ (.tuple _) _
        rw [e.1, e.2, List.drop_zero, Nat.sub_zero, List.take_length]
        simp only [Rep]
        exact ⟨p, vs, rfl, k1, k2⟩
      · unfold cutV at hz ⊢
        rw [Reps.length k2]
        obtain ⟨g4, u4, R4, z4⟩ := R3.madeT hz (Reps.take (HT.sIx xs.length xs.length h - HT.sIx xs.length 0 l) (Reps.drop (HT.sIx xs.length 0 l) k2))
        exact hq g4 _ _ (up.trans u4) R4 z4
    | _ => cases hm
end
end Yd

namespace Yd
open PySem PySem.Spec PyProof.Rows L2
mutual
theorem plain_noDict : ∀ d : D, d.plain = true → d.hasDict = false
  | .none, _ => by simp only [PyData.hasDict]
  | .bool _, _ => by simp only [PyData.hasDict]
  | .int _, _ => by simp only [PyData.hasDict]
  | .str _, _ => by simp only [PyData.hasDict]
  | .list xs, h => by
    simp only [PyData.hasDict]
    exact plain_noDicts xs (by simpa only [PyData.plain] using h)
  | .tuple xs, h => by
    simp only [PyData.hasDict]
    exact plain_noDicts xs (by simpa only [PyData.plain] using h)
  | .dict _, h => by simp only [PyData.plain] at h; cases h
theorem plain_noDicts : ∀ ds : List D, PyData.plainAll ds = true → PyData.hasDictAll ds = false
  | [], _ => by simp only [PyData.hasDictAll]
  | d :: ds, h => by
    simp only [PyData.plainAll, Bool.and_eq_true] at h
    simp only [PyData.hasDictAll, plain_noDict d h.1, plain_noDicts ds h.2, Bool.or_self]
end
section
variable {c : Cn}
/-- a global name -/
theorem gl_of {c : Cn} {X : Cx} (ok : c.Ok X) {x : Str} (h : c.sc.names.lookup x = some .globalImplicit) : Gl X x := by
  show X.env.scope.names.lookup x = _
  rw [ok.sc]
  exact h
def BltOk (c : Cn) (v : Value) (f : List D → Res RV) : Prop := ∀ X, c.Ok X → ∃ r, CallR X v r ∧ SemN X.K r f
theorem se_bf {x : Str} {id : String} {f : List D → Res RV} {e : Expr} {es : List Expr} {ms : List M} {p pos : Pos} (hf : BltOk c (.builtin id) f) (hg : c.sc.names.lookup x = some .globalImplicit) (hm : c.mg x = none) (hv : bootBuiltins x = some (.builtin id)) (ha : SA c (e :: es) ms)
    (hn : x ≠ "__name__" := by decide) (hdb : (x == ("__debug__" : Str)) = false := by decide) (he : ∀ env : Env, starEach (e :: es) env = (false, eval e env) :: starEach es env := by intro _; rfl) (hpl : ∀ env : Env, (backTo pos (starEach es env)).any (·.1) = false := by intro _; rfl) :
    SE c (.Call (.Name x p) (e :: es) [] pos) (mB f ms) := fun X ok => by
  obtain ⟨r, hr, hs⟩ := hf X ok
  exact (pe_callB hr (gl_of ok hg) (by rw [ok.mg]; exact hm) hv (ha X ok) hn hdb (he _) (hpl _)).pre fun _ _ _ => t_mB hs
theorem se_bt {x : Str} {T : String} {f : List D → Res RV} {e : Expr} {es : List Expr} {ms : List M} {p pos : Pos} (hf : BltOk c (.type T) f) (hg : c.sc.names.lookup x = some .globalImplicit) (hm : c.mg x = none) (hv : bootBuiltins x = some (.type T)) (ha : SA c (e :: es) ms)
    (hn : x ≠ "__name__" := by decide) (hdb : (x == ("__debug__" : Str)) = false := by decide) (he : ∀ env : Env, starEach (e :: es) env = (false, eval e env) :: starEach es env := by intro _; rfl) (hpl : ∀ env : Env, (backTo pos (starEach es env)).any (·.1) = false := by intro _; rfl) :
    SE c (.Call (.Name x p) (e :: es) [] pos) (mB f ms) := fun X ok => by
  obtain ⟨r, hr, hs⟩ := hf X ok
  exact (pe_callTy hr (gl_of ok hg) (by rw [ok.mg]; exact hm) hv (ha X ok) hn hdb (he _) (hpl _)).pre fun _ _ _ => t_mB hs
theorem vws1 {K : PySem.W.Frag} {F H : Hp} {d : D} {vs : List V} (h : Vws K F H [d] vs) : ∃ v, vs = [v] ∧ Vw K F H d v := by
  obtain ⟨v, q, rfl, h1, h2⟩ := h
  cases (show q = [] from h2)
  exact ⟨v, rfl, h1⟩
theorem vws2 {K : PySem.W.Frag} {F H : Hp} {d e : D} {vs : List V} (h : Vws K F H [d, e] vs) : ∃ v u, vs = [v, u] ∧ Vw K F H d v ∧ Vw K F H e u := by
  obtain ⟨v, q, rfl, h1, h2⟩ := h
  obtain ⟨u, rfl, h3⟩ := vws1 h2
  exact ⟨v, u, rfl, h1, h3⟩
/-- len -/
def fLen : List D → Res RV
  | [.list xs] => .ok (.sh (.int xs.length))
  | [.tuple xs] => .ok (.sh (.int xs.length))
  | _ => .no
theorem ok_len : BltOk c (.builtin "len") fLen := fun X ok => ⟨_, call_len_seq, fun g σ H s xs ds rv Q R h hf hq => by
  unfold fLen at hf
  split at hf
  · cases hf
    obtain ⟨v, rfl, h1⟩ := vws1 h
    obtain ⟨p, vs, rfl, k1, k2⟩ := h1
    refine ⟨p, vs, rfl, .inl (sqx_l k1), ?_⟩
    rw [Reps.length k2]
    exact hq g _ H (.refl g) R vI
  · cases hf
    obtain ⟨v, rfl, h1⟩ := vws1 h
    obtain ⟨p, vs, rfl, k1, k2⟩ := h1
    refine ⟨p, vs, rfl, .inr (sqt_sub R.sub k1), ?_⟩
    rw [Reps.length k2]
    exact hq g _ H (.refl g) R vI
  · cases hf⟩
/-- abs -/
def fAbs : List D → Res RV
  | [.int i] => .ok (.sh (.int (if i < 0 then -i else i)))
  | _ => .no
theorem ok_abs : BltOk c (.builtin "abs") fAbs := fun X ok => ⟨_, call_abs, fun g σ H s xs ds rv Q R h hf hq => by
  unfold fAbs at hf
  split at hf
  · cases hf
    obtain ⟨v, rfl, h1⟩ := vws1 h
    cases h1
    exact ⟨_, rfl, hq g _ H (.refl g) R vI⟩
  · cases hf⟩
/-- int -/
def fInt : List D → Res RV
  | [.int i] => .ok (.sh (.int i))
  | [.bool b] => .ok (.sh (.int (if b then 1 else 0)))
  | _ => .no
theorem ok_int : BltOk c (.type "int") fInt := fun X ok => ⟨_, call_int1, fun g σ H s xs ds rv Q R h hf hq => by
  unfold fInt at hf
  split at hf
  · cases hf
    obtain ⟨v, rfl, h1⟩ := vws1 h
    cases h1
    exact .inl ⟨_, rfl, hq g _ H (.refl g) R vI⟩
  · cases hf
    obtain ⟨v, rfl, h1⟩ := vws1 h
    cases h1
    exact .inr ⟨_, rfl, hq g _ H (.refl g) R vI⟩
  · cases hf⟩
/-- tuple, list -/
def fTuple : List D → Res RV
  | [.list xs] => .ok (.sh (.tuple xs))
  | [.tuple xs] => .ok (.sh (.tuple xs))
  | _ => .no
theorem ok_tuple : BltOk c (.type "tuple") fTuple := fun X ok => ⟨_, call_tuple_of, fun g σ H s xs ds rv Q R h hf hq => by
  unfold fTuple at hf
  split at hf
  · cases hf
    obtain ⟨v, rfl, h1⟩ := vws1 h
    obtain ⟨p, vs, rfl, k1, k2⟩ := h1
    refine ⟨p, vs, rfl, .inl ⟨sqx_l k1, fun l hl => ?_⟩⟩
    obtain ⟨g3, u3, R3, z3⟩ := R.madeT hl k2
    exact hq g3 _ _ u3 R3 z3
  · cases hf
    obtain ⟨v, rfl, h1⟩ := vws1 h
    obtain ⟨p, vs, rfl, k1, k2⟩ := h1
    refine ⟨p, vs, rfl, .inr ⟨sqt_sub R.sub k1, hq g _ H (.refl g) R ?_⟩⟩
    show Rep _ _ (.tuple _) _
    simp only [Rep]
    exact ⟨p, vs, rfl, k1, k2⟩
  · cases hf⟩
def fList : List D → Res RV
  | [.list xs] => .ok (.fr (.list xs))
  | [.tuple xs] => .ok (.fr (.list xs))
  | _ => .no
theorem ok_list : BltOk c (.type "list") fList := fun X ok => ⟨_, call_list_of, fun g σ H s xs ds rv Q R h hf hq => by
  unfold fList at hf
  split at hf
  · cases hf
    obtain ⟨v, rfl, h1⟩ := vws1 h
    obtain ⟨p, vs, rfl, k1, k2⟩ := h1
    refine ⟨p, vs, rfl, .inl (sqx_l k1), fun l hl => ?_⟩
    obtain ⟨R3, z3⟩ := R.made (d := .list _) hl ⟨_, rfl, k2⟩
    exact hq g _ _ (.refl g) R3 z3
  · cases hf
    obtain ⟨v, rfl, h1⟩ := vws1 h
    obtain ⟨p, vs, rfl, k1, k2⟩ := h1
    refine ⟨p, vs, rfl, .inr (sqt_sub R.sub k1), fun l hl => ?_⟩
    obtain ⟨R3, z3⟩ := R.made (d := .list _) hl ⟨_, rfl, k2⟩
    exact hq g _ _ (.refl g) R3 z3
  · cases hf⟩
/-- all, any of truth values -/
def boolsOf : List D → Option (List Bool)
  | [] => some []
  | .bool b :: r => (boolsOf r).map (b :: ·)
  | _ => none
theorem bools_rep {K : PySem.W.Frag} {F : Hp} : ∀ {ds : List D} {bs : List Bool} {vs : List V}, boolsOf ds = some bs → Reps K F ds vs → vs = bs.map V.bl
  | [], bs, vs, e, h => by cases e; simp only [Reps] at h; exact h
  | d :: ds, bs, vs, e, h => by
    simp only [Reps] at h
    obtain ⟨v, r, rfl, h1, h2⟩ := h
    cases d with
    | bool b =>
      have e : (boolsOf ds).map (b :: ·) = some bs := e
      cases q : boolsOf ds with
      | none => rw [q] at e; cases e
      | some cs =>
        rw [q] at e
        cases e
        simp only [Rep] at h1
        subst h1
        rw [bools_rep q h2] <;> rfl
    | _ => cases e
def fAll : List D → Res RV
  | [.list xs] => match boolsOf xs with
    | some bs => .ok (.sh (.bool (bs.all id)))
    | none => .no
  | _ => .no
def fAny : List D → Res RV
  | [.list xs] => match boolsOf xs with
    | some bs => .ok (.sh (.bool (bs.any id)))
    | none => .no
  | _ => .no
theorem ok_all : BltOk c (.builtin "all") fAll := fun X ok => ⟨_, cr_all ok.calm, fun g σ H s xs ds rv Q R h hf hq => by
  unfold fAll at hf
  split at hf
  · split at hf
    · rename_i e
      cases hf
      obtain ⟨v, rfl, h1⟩ := vws1 h
      obtain ⟨p, vs, rfl, k1, k2⟩ := h1
      have := bools_rep e k2
      subst this
      exact ⟨p, _, rfl, sqx_l k1, hq g _ H (.refl g) R vB⟩
    · cases hf
  · cases hf⟩
theorem ok_any : BltOk c (.builtin "any") fAny := fun X ok => ⟨_, cr_any ok.calm, fun g σ H s xs ds rv Q R h hf hq => by
  unfold fAny at hf
  split at hf
  · split at hf
    · rename_i e
      cases hf
      obtain ⟨v, rfl, h1⟩ := vws1 h
      obtain ⟨p, vs, rfl, k1, k2⟩ := h1
      have := bools_rep e k2
      subst this
      exact ⟨p, _, rfl, sqx_l k1, hq g _ H (.refl g) R vB⟩
    · cases hf
  · cases hf⟩
/-- repr of data without dicts -/
def fRepr : List D → Res RV
  | [d] => if okD d && d.showable && decide (d.shown.length ≤ lim) then .ok (.sh (.str d.shown)) else .no
  | _ => .no
def rReprP (K : PySem.W.Frag) : List V → Hp → VK → Prop := fun vs H Q => ∃ x d, vs = [x] ∧ Dp K H x d ∧ okD d = true ∧ d.showable = true ∧ d.shown.length ≤ sizeLine ∧ Q (.str d.shown) H
theorem call_reprP {X : Cx} (hu : X.A.units + 64 < cLine) (hg : X.A.guards = some []) : CallR X (.builtin "repr") (rReprP X.K) := by
  intro pins s σ H xs us Q I r h
  obtain ⟨x, d, rfl, hd, o, hs, hz, q⟩ := h
  obtain ⟨u, rfl, rx⟩ := vals1 r
  obtain ⟨as, ra⟩ := Dp.reads I d x u hd rx
  have hp := okD_plain o
  have hk := okD_depth o
  cases ra with
  | none =>
    refine PySem.P.repr_of_none ⟨.str _, H, I.tok _, ⟨s.toks, ?_⟩, q⟩
    simp only [PyData.shown]
  | bool b =>
    refine PySem.P.repr_of_bool ⟨.str _, H, I.tok _, ⟨s.toks, ?_⟩, q⟩
    simp only [PyData.shown]
  | int i t =>
    refine PySem.P.repr_of_int (by simpa [PyData.showable] using hs) ⟨.str _, H, I.tok _, ⟨s.toks, ?_⟩, q⟩
    simp only [PyData.shown]
  | str x t =>
    refine PySem.P.repr_of_str ⟨.str _, H, I.tok _, ⟨s.toks, ?_⟩, q⟩ (by simpa only [PyData.shown] using hz)
    simp only [PyData.shown]
  | list h1 h2 h3 h4 =>
    exact repr_of_reads' (.list h1 h2 h3 h4) hs (PyData.noDict_hsm (plain_noDict _ hp)) hg (by omega) (fun _ _ e => e) (fun h' u tk hk => ⟨.str _, H, I.kept hk, ⟨u, rfl⟩, q⟩) hz
  | tuple h1 h2 h3 h4 =>
    exact repr_of_reads' (.tuple h1 h2 h3 h4) hs (PyData.noDict_hsm (plain_noDict _ hp)) hg (by omega) (fun _ _ e => e) (fun h' u tk hk => ⟨.str _, H, I.kept hk, ⟨u, rfl⟩, q⟩) hz
  | dict _ _ _ _ _ => simp only [PyData.plain] at hp; cases hp
theorem ok_repr : BltOk c (.builtin "repr") fRepr := fun X ok => ⟨_, call_reprP ok.room.units ok.gd, fun g σ H s xs ds rv Q R h hf hq => by
  unfold fRepr at hf
  split at hf
  · split at hf
    · rename_i o
      simp only [Bool.and_eq_true, decide_eq_true_eq] at o
      cases hf
      obtain ⟨v, rfl, h1⟩ := vws1 h
      exact ⟨v, _, rfl, Vw.dp R.sub (okD_plain o.1.1) h1, o.1.1, o.1.2, lim_le o.2, hq g _ H (.refl g) R vS⟩
    · cases hf
  · cases hf⟩
/-- isinstance, of data -/
def isaD (T : String) (d : D) : Bool := match T, d with
  | "int", .int _ => true
  | "int", .bool _ => true
  | "bool", .bool _ => true
  | "tuple", .tuple _ => true
  | "list", .list _ => true
  | "str", .str _ => true
  | _, _ => false
def isTy (T : String) : Bool := T == "int" || T == "bool" || T == "tuple" || T == "list" || T == "str"
def rIsaP (K : PySem.W.Frag) (T : String) : List V → Hp → VK → Prop := fun vs H Q => ∃ x d, vs = [x, .ty T] ∧ Dp K H x d ∧ Q (.bl (isaD T d)) H
theorem call_isaP {X : Cx} {T : String} (hT : isTy T = true) : CallR X (.builtin "isinstance") (rIsaP X.K T) := by
  intro pins s σ H xs us Q I r h
  obtain ⟨x, d, rfl, hd, q⟩ := h
  obtain ⟨u, w', rfl, rx, rt⟩ := vals2 r
  cases rt
  obtain ⟨as, ra⟩ := Dp.reads I d x u hd rx
  simp only [isTy, Bool.or_eq_true, beq_iff_eq] at hT
  have fin : ∀ b : Bool, isaD T d = b → ∀ tk, EP X pins σ Q (.bool b) { s with toks := tk } := fun b e tk => ⟨.bl b, H, I.tok _, rfl, by rw [← e]; exact q⟩
  rcases hT with (((rfl | rfl) | rfl) | rfl) | rfl
  · exact PySem.W.isinstance_int_data ra fun tk _ => fin _ (by cases d <;> rfl) tk
  · exact PySem.W.isinstance_bool_data ra fun tk _ => fin _ (by cases d <;> rfl) tk
  · exact PySem.W.isinstance_tuple_data ra fun tk _ => fin _ (by cases d <;> rfl) tk
  · exact PySem.W.isinstance_list_data ra fun tk _ => fin _ (by cases d <;> rfl) tk
  · exact PySem.W.isinstance_str_data ra fun tk _ => fin _ (by cases d <;> rfl) tk
def fIsa (T : String) (d : D) : Res RV := if d.plain then .ok (.sh (.bool (isaD T d))) else .no
theorem se_isa {e : Expr} {m : M} {T : String} {x : Str} {p p2 pos : Pos} (he : SE c e m) (hT : isTy T = true) (hx : bootBuiltins x = some (.type T)) (hgx : c.sc.names.lookup x = some .globalImplicit) (hmx : c.mg x = none) (hg : c.sc.names.lookup ("isinstance" : Str) = some .globalImplicit) (hm : c.mg "isinstance" = none)
    (hn : x ≠ "__name__" := by decide) (hdb : (x == ("__debug__" : Str)) = false := by decide)
    (hs : ∀ env : Env, starEach [e, .Name x p2] env = (false, eval e env) :: starEach [.Name x p2] env := by intro _; rfl) :
    SE c (.Call (.Name "isinstance" p) [e, .Name x p2] [] pos) (m1 (fIsa T) m) := fun X ok =>
  (pe_callB (call_isaP hT) (gl_of ok hg) (by rw [ok.mg]; exact hm) PyProof.Rows.boot_isinstance (pa_cons (he X ok) (pa_cons (pe_bltn (v := .ty T) (gl_of ok hgx) (by rw [ok.mg]; exact hmx) hx rfl hn hdb) pa_nil) (hs _)) (by decide) (by decide) (hs _)).pre fun σ H Q q => by
    obtain ⟨g, s, r0, s', R, hm, hq⟩ := q
    obtain ⟨⟨r1, s1⟩, e1, hm⟩ := bind_ok hm
    obtain ⟨d1, e3, hm⟩ := bind_ok hm
    obtain ⟨v, e5, hm⟩ := bind_ok hm
    cases hm
    refine ⟨g, s, r1, s', R, e1, fun g1 x H1 u1 R1 hx => ?_⟩
    obtain ⟨g1', u1', R1', z1⟩ := R1.z hx
    unfold fIsa at e5
    split at e5
    · rename_i o
      cases e5
      exact ⟨x, d1, rfl, Vw.dp R1'.sub o (R1'.rd z1 e3), hq g1' _ H1 (u1.trans u1') R1' vB⟩
    · cases e5
end
end Yd

namespace Yd
open PySem PySem.Spec PyProof.Rows L2
section
variable {K : PySem.W.Frag} {g : Gh} {σ : L2.St} {H : Hp} {s : Sta}
theorem Rel.there (R : Rel K g σ H s) {i : Nat} (ht : Yd.there s.env[i]? = true) : ∃ v, σ[i]? = some (some v) := by
  cases he : s.env[i]? with
  | none => rw [he] at ht; cases ht
  | some x =>
    rw [he] at ht
    cases x with
    | un => cases ht
    | sh d => obtain ⟨v, h1, _⟩ := R.sh i d he; exact ⟨v, h1⟩
    | ow d => obtain ⟨p, o, h1, _⟩ := R.ow i d he; exact ⟨_, h1⟩
    | cup => obtain ⟨a, _, h1⟩ := R.cupS i he; exact ⟨_, h1⟩
/-- an owned object is changed -/
theorem Rel.mut (R : Rel K g σ H s) {i : Nat} {d d' : D} {p : Addr} {o' : HO} (he : s.env[i]? = some (Slot.ow d)) (hp : σ[i]? = some (some (V.ref p))) (h : RepO K g.F d' o') : Rel K g σ (upd H p o') (putSlot s i (.ow d')) := by
  obtain ⟨q, o, h1, h2, h3, h4, h5, h6⟩ := R.ow i d he
  rw [hp] at h1
  cases h1
  have hl := R.len
  refine ⟨fun a u z => ?_, fun a u z => ?_, by simpa [putSlot] using R.len, fun j d1 hj => ?_, fun j d1 hj => ?_, fun j k d1 d2 hj hk e => ?_, fun j hj => ?_, R.cupN, fun ds z => ?_⟩
  · rw [upd_ne (ne_of_none z h2)]
    exact R.sub a u z
  · obtain ⟨k1, k2, k3⟩ := R.pr a u z
    refine ⟨?_, k2, k3⟩
    rw [upd_ne (ne_of_none z h3)]
    exact k1
  · rcases set_get hj with ⟨rfl, z, lt⟩ | ⟨ne, z⟩
    · cases z
    · exact R.sh j d1 z
  · rcases set_get hj with ⟨rfl, z, lt⟩ | ⟨ne, z⟩
    · cases z
      exact ⟨p, o', hp, h2, h3, upd_same, h, h6⟩
    · obtain ⟨q, u, k1, k2, k3, k4, k5, k6⟩ := R.ow j d1 z
      refine ⟨q, u, k1, k2, k3, ?_, k5, k6⟩
      rw [upd_ne (fun e => ?_)]
      · exact k4
      · rw [e] at k1
        exact ne (R.sep i j d d1 he z (hp.trans k1.symm))
  · have f : ∀ (j : Nat) (d1 : D), (s.env.set i (.ow d'))[j]? = some (Slot.ow d1) → ∃ d2, s.env[j]? = some (Slot.ow d2) := fun j d1 hj => by
      rcases set_get hj with ⟨rfl, z, lt⟩ | ⟨ne, z⟩
      · exact ⟨d, he⟩
      · exact ⟨d1, z⟩
    obtain ⟨d3, e3⟩ := f j d1 hj
    obtain ⟨d4, e4⟩ := f k d2 hk
    exact R.sep j k d3 d4 e3 e4 e
  · rcases set_get hj with ⟨rfl, z, lt⟩ | ⟨ne, z⟩
    · cases z
    · exact R.cupS j z
  · obtain ⟨a, vs, k0, k1, k2, k3⟩ := R.cupV ds z
    refine ⟨a, vs, k0, k1, ?_, k3⟩
    rw [upd_ne (fun e => h6 (by rw [k0, e]))]
    exact k2
/-- the cup is changed -/
theorem Rel.mutCup (R : Rel K g σ H s) {a : Addr} {ds : List D} {vs : List V} (hc : g.cup = some a) (h : Reps K g.F ds vs) : Rel K g σ (upd H a (.lst vs)) { s with cup := some ds } := by
  have hF : g.F a = none := by
    cases e : s.cup with
    | none => rw [R.cupN e] at hc; cases hc
    | some ds' =>
      obtain ⟨b, us, k0, k1, k2, k3⟩ := R.cupV ds' e
      rw [hc] at k0
      cases k0
      exact k1
  refine ⟨fun b u z => ?_, fun b u z => ?_, R.len, R.sh, fun j d1 hj => ?_, R.sep, R.cupS, fun z => by (have z : some ds = none := z; cases z), fun ds' z => ?_⟩
  · rw [upd_ne (ne_of_none z hF)]
    exact R.sub b u z
  · obtain ⟨k1, k2, k3⟩ := R.pr b u z
    refine ⟨?_, k2, k3⟩
    rw [upd_ne (fun e => k3 (by rw [hc, e]))]
    exact k1
  · obtain ⟨q, u, k1, k2, k3, k4, k5, k6⟩ := R.ow j d1 hj
    refine ⟨q, u, k1, k2, k3, ?_, k5, k6⟩
    rw [upd_ne (fun e => k6 (by rw [hc, e]))]
    exact k4
  · have z : some ds = some ds' := z
    cases z
    exact ⟨a, vs, hc, hF, upd_same, h⟩
end
/-- name.append(e) -/
def mApp (i : Nat) (m : M) : M := fun s => match s.env[i]? with
  | some (.ow (.list _)) => do
    let (r, s1) ← m s
    let (d, s2) ← tk s1 r
    match s2.env[i]? with
    | some (.ow (.list xs)) => (if xs.length < lim then .ok (.sh .none, putSlot s2 i (.ow (.list (xs ++ [d])))) else .no)
    | _ => .no
  | _ => .no
/-- name.pop() -/
def mPop (i : Nat) : M := fun s => match s.env[i]? with
  | some (.ow (.list xs)) => match xs[xs.length - 1]? with
    | some d => .ok (.sh d, putSlot s i (.ow (.list xs.dropLast)))
    | none => .no
  | _ => .no
/-- name.pop(e) -/
def mPopAt (i : Nat) (m : M) : M := fun s => match s.env[i]? with
  | some (.ow (.list _)) => do
    let (r, s1) ← m s
    let d ← rd s1 r
    match d, s1.env[i]? with
    | .int k, some (.ow (.list xs)) => (if 0 ≤ k ∧ k < xs.length ∧ k ≤ 1000000 then (match xs[k.toNat]? with
      | some x => .ok (.sh x, putSlot s1 i (.ow (.list (xs.eraseIdx k.toNat))))
      | none => .no) else .no)
    | _, _ => .no
  | _ => .no
/-- name[e] = v, a list's or the cup's -/
def sIx (i : Nat) (mi mv : M) : Yd.St := fun s => do
  let (r, s1) ← mv s
  let (d, s2) ← tk s1 r
  Res.guard (there s2.env[i]?)
  let (q, s3) ← mi s2
  let k ← rd s3 q
  match k, s3.env[i]? with
  | .int k, some (.ow (.list xs)) => (match ixN xs.length k with
    | some j => .ok (.nx, putSlot s3 i (.ow (.list (xs.set j d))))
    | none => .no)
  | .int k, some .cup => (match s3.cup with
    | some xs => (match ixN xs.length k with
      | some j => .ok (.nx, { s3 with cup := some (xs.set j d) })
      | none => .no)
    | none => .no)
  | _, _ => .no
section
variable {c : Cn}
theorem owl {K : PySem.W.Frag} {g : Gh} {σ : L2.St} {H : Hp} {s : Sta} (R : Rel K g σ H s) {i : Nat} {xs : List D} (he : s.env[i]? = some (Slot.ow (.list xs))) : ∃ p vs, σ[i]? = some (some (V.ref p)) ∧ H p = some (.lst vs) ∧ Reps K g.F xs vs := by
  obtain ⟨p, o, h1, h2, h3, h4, ⟨vs, rfl, h5⟩, h6⟩ := R.ow i _ he
  exact ⟨p, vs, h1, h4, h5⟩
theorem pe_sl {X : Cx} (ok : c.Ok X) {i : Nat} {x : Str} {pos : Pos} (hN : c.N[i]? = some x) (hv : Vis c.sc x) (hd : (x == ("__debug__" : Str)) = false := by decide) (hcd : (x == ("__classdict__" : Str)) = false := by decide) : PE X (.Name x pos) (tVar i) :=
  pe_var (by rw [ok.N]; exact hN) (by rw [ok.sc]; exact hv) hd hcd
theorem se_app {i : Nat} {x : Str} {e : Expr} {m : M} {p apos cpos : Pos} (hN : c.N[i]? = some x) (hv : Vis c.sc x) (he : SE c e m) (hd : (x == ("__debug__" : Str)) = false := by decide) (hcd : (x == ("__classdict__" : Str)) = false := by decide)
    (hbase : ∀ env : Env, attributeBase (.Name x p) "append" env (eval (.Name x p) env) = eval (.Name x p) env := by intro _; rfl)
    (hfew : ∀ env : Env, ((backTo cpos (starEach [e] env)).all (fun x => !x.1) && (backToKw cpos (keywordEach [] env)).all (fun x => x.1.isSome)
      && decide (([e] : List Expr).length + ([] : List Keyword).length + (if ([] : List Keyword).isEmpty then 0 else 1) < 30)) = true := by intro _; rfl)
    (hline : (apos.endLine == cpos.line) = true := by rfl) (hs : ∀ env : Env, starEach [e] env = (false, eval e env) :: starEach [] env := by intro _; rfl) : SE c (.Call (.Attribute (.Name x p) "append" apos) [e] [] cpos) (mApp i m) := fun X ok =>
  (pe_bm PySem.F.plainAttrs_list PySem.F.slot_list_append PySem.F.type_list_append mt_append (pe_sl ok hN hv hd hcd) (pa_cons (he X ok) pa_nil (hs _)) (hbase _) (hfew _) hline (hs _) rfl).pre fun σ H Q q => by
    obtain ⟨g, s, r0, s', R, hm, hq⟩ := q
    unfold mApp at hm
    split at hm
    · rename_i xs0 he0
      obtain ⟨⟨r1, s1⟩, e1, hm⟩ := bind_ok hm
      obtain ⟨⟨d, s2⟩, e2, hm⟩ := bind_ok hm
      obtain ⟨p0, vs0, k1, k2, k3⟩ := owl R he0
      refine ⟨_, k1, .inl ⟨rfl, vs0, SqL.of k2⟩, g, s, r1, s1, R, e1, fun g1 y H1 u1 R1 hy => ?_⟩
      obtain ⟨g2, u2, R2, z2⟩ := R1.z hy
      obtain ⟨g3, u3, R3, z3⟩ := R2.tk z2 e2
      simp only at hm
      split at hm
      · rename_i xs he2
        split at hm
        · rename_i hl
          cases hm
          obtain ⟨p1, vs1, j1, j2, j3⟩ := owl R3 he2
          rw [k1] at j1
          cases j1
          refine ⟨p0, vs1, y, rfl, rfl, j2, by rw [Reps.length j3]; exact Nat.lt_trans hl lim_line, ?_⟩
          exact hq g3 .non _ (u1.trans (u2.trans u3)) (R3.mut he2 k1 ⟨_, rfl, j3.snoc z3⟩) vN
        · cases hm
      · cases hm
    · cases hm
theorem se_pop {i : Nat} {x : Str} {p apos cpos : Pos} (hN : c.N[i]? = some x) (hv : Vis c.sc x) (hd : (x == ("__debug__" : Str)) = false := by decide) (hcd : (x == ("__classdict__" : Str)) = false := by decide)
    (hbase : ∀ env : Env, attributeBase (.Name x p) "pop" env (eval (.Name x p) env) = eval (.Name x p) env := by intro _; rfl) (hline : (apos.endLine == cpos.line) = true := by rfl) : SE c (.Call (.Attribute (.Name x p) "pop" apos) [] [] cpos) (mPop i) := fun X ok =>
  (pe_bm0 PySem.F.plainAttrs_list PySem.F.slot_list_pop PySem.F.type_list_pop mt_pop (pe_sl ok hN hv hd hcd) (hbase _) hline).pre fun σ H Q q => by
    obtain ⟨g, s, r0, s', R, hm, hq⟩ := q
    unfold mPop at hm
    split at hm
    · rename_i xs he0
      split at hm
      · rename_i d hx
        cases hm
        obtain ⟨p0, vs0, k1, k2, k3⟩ := owl R he0
        obtain ⟨v, h1, h2⟩ := Reps.get k3 hx
        refine ⟨_, k1, .inl ⟨rfl, vs0, SqL.of k2⟩, p0, vs0, v, rfl, rfl, k2, by rw [Reps.length k3]; exact h1, ?_⟩
        refine hq g v _ (.refl g) (R.mut he0 k1 ⟨_, rfl, ?_⟩) h2
        rw [List.dropLast_eq_take, List.dropLast_eq_take, Reps.length k3]
        exact Reps.take _ k3
      · cases hm
    · cases hm
theorem se_popAt {i : Nat} {x : Str} {e : Expr} {m : M} {p apos cpos : Pos} (hN : c.N[i]? = some x) (hv : Vis c.sc x) (he : SE c e m) (hd : (x == ("__debug__" : Str)) = false := by decide) (hcd : (x == ("__classdict__" : Str)) = false := by decide)
    (hbase : ∀ env : Env, attributeBase (.Name x p) "pop" env (eval (.Name x p) env) = eval (.Name x p) env := by intro _; rfl)
    (hfew : ∀ env : Env, ((backTo cpos (starEach [e] env)).all (fun x => !x.1) && (backToKw cpos (keywordEach [] env)).all (fun x => x.1.isSome)
      && decide (([e] : List Expr).length + ([] : List Keyword).length + (if ([] : List Keyword).isEmpty then 0 else 1) < 30)) = true := by intro _; rfl)
    (hline : (apos.endLine == cpos.line) = true := by rfl) (hs : ∀ env : Env, starEach [e] env = (false, eval e env) :: starEach [] env := by intro _; rfl) : SE c (.Call (.Attribute (.Name x p) "pop" apos) [e] [] cpos) (mPopAt i m) := fun X ok =>
  (pe_bm PySem.F.plainAttrs_list PySem.F.slot_list_pop PySem.F.type_list_pop mt_popAt (pe_sl ok hN hv hd hcd) (pa_cons (he X ok) pa_nil (hs _)) (hbase _) (hfew _) hline (hs _) rfl).pre fun σ H Q q => by
    obtain ⟨g, s, r0, s', R, hm, hq⟩ := q
    unfold mPopAt at hm
    split at hm
    · rename_i xs0 he0
      obtain ⟨⟨r1, s1⟩, e1, hm⟩ := bind_ok hm
      obtain ⟨d, e2, hm⟩ := bind_ok hm
      obtain ⟨p0, vs0, k1, k2, k3⟩ := owl R he0
      refine ⟨_, k1, .inl ⟨rfl, vs0, SqL.of k2⟩, g, s, r1, s1, R, e1, fun g1 y H1 u1 R1 hy => ?_⟩
      obtain ⟨g2, u2, R2, z2⟩ := R1.z hy
      have hv := R2.rd z2 e2
      try simp only at hm
      split at hm
      · rename_i k xs he2
        cases hv
        split at hm
        · rename_i hk
          split at hm
          · rename_i dx hx
            cases hm
            obtain ⟨p1, vs1, j1, j2, j3⟩ := owl R2 he2
            rw [k1] at j1
            cases j1
            obtain ⟨v, h1, h2⟩ := Reps.get j3 hx
            refine ⟨p0, vs1, k, k.toNat, v, rfl, rfl, j2, by omega, by omega, ?_, h1, ?_⟩
            · rw [Reps.length j3]
              exact PySem.StrLaws.seqIndex_nonneg hk.1 hk.2.1
            · exact hq g2 v _ (u1.trans u2) (R2.mut he2 k1 ⟨_, rfl, j3.erase _⟩) h2
          · cases hm
        · cases hm
      · cases hm
    · cases hm
/-- name[e] = v -/
theorem ss_ix {i : Nat} {x : Str} {a e : Expr} {mi mv : M} {p p2 pos : Pos} (hN : c.N[i]? = some x) (hv : Vis c.sc x) (hi : SE c a mi) (he : SE c e mv) (hd : (x == ("__debug__" : Str)) = false := by decide) (hcd : (x == ("__classdict__" : Str)) = false := by decide)
    (hs : ∀ env : Env, swapsWithSole [.Subscript (.Name x p) a p2] e pos.line env = pure false := by intro _; rfl) (hw : ∀ env : Env, swappedStores [.Subscript (.Name x p) a p2] e env = pure none := by intro _; rfl)
    (h1 : ∀ env : Env, (assignEach [.Subscript (.Name x p) a p2] env).map (·.2) = [assign (.Subscript (.Name x p) a p2) env] := by intro _; rfl)
    (ha : ∀ (env : Env) (v : Value), assign (.Subscript (.Name x p) a p2) env v = (do
      let ov ← holding [v] (eval (.Name x p) env)
      let iv ← holding [v, ov] (eval a env)
      standAt p2
      holding [v, ov, iv] (setItem ov iv v)
      release [v, ov, iv] []) := by intro _ _; rfl) : SS c (.Assign [.Subscript (.Name x p) a p2] e pos) (sIx i mi mv) := fun X ok hf =>
  (ps_asg (he X ok) (pg_sub (pe_sl ok hN hv hd hcd) (hi X ok) set_list (ha _)) (hs _) (hw _) (h1 _)).pre fun D σ H q => by
    obtain ⟨g, s, f, s', R, hm, hq⟩ := q
    obtain ⟨⟨r1, s1⟩, e1, hm⟩ := bind_ok hm
    obtain ⟨⟨d, s2⟩, e2, hm⟩ := bind_ok hm
    obtain ⟨_, e5, hm⟩ := bind_ok hm
    obtain ⟨⟨q1, s3⟩, e3, hm⟩ := bind_ok hm
    obtain ⟨k, e4, hm⟩ := bind_ok hm
    refine ⟨g, s, r1, s1, R, e1, fun g1 y H1 u1 R1 hy => ?_⟩
    obtain ⟨g2, u2, R2, z2⟩ := R1.z hy
    obtain ⟨g3, u3, R3, z3⟩ := R2.tk z2 e2
    have main : ∀ w, σ[i]? = some (some w) → ∃ v, σ[i]? = some (some v) ∧ T X.K mi σ H1 fun iv H2 => rSetL v iv y H2 fun H3 => D.nx σ H3 := fun w hw => by
      refine ⟨w, hw, g3, s2, q1, s3, R3, e3, fun g4 iv H4 u4 R4 hiv => ?_⟩
      obtain ⟨g5, u5, R5, z5⟩ := R4.z hiv
      have hk := R5.rd z5 e4
      have z3' := Rep.mono (u4.s.trans u5.s) _ _ z3
      have up := u1.trans (u2.trans (u3.trans (u4.trans u5)))
      try simp only at hm
      split at hm
      · rename_i kk xs he2
        cases hk
        split at hm
        · rename_i j hj
          cases hm
          obtain ⟨p1, vs1, j1, j2, j3⟩ := owl R5 he2
          rw [hw] at j1
          cases j1
          refine ⟨p1, vs1, kk, j, rfl, rfl, j2, by rw [Reps.length j3]; exact hj, ?_⟩
          exact hq g5 σ _ up (R5.mut he2 hw ⟨_, rfl, j3.set z3' j⟩)
        · cases hm
      · rename_i kk he2
        cases hk
        split at hm
        · rename_i xs hc
          split at hm
          · rename_i j hj
            cases hm
            obtain ⟨b, b1, b2⟩ := R5.cupS i he2
            rw [hw] at b2
            cases b2
            obtain ⟨b', vs, c0, c1, c2, c3⟩ := R5.cupV xs hc
            rw [b1] at c0
            cases c0
            refine ⟨b, vs, kk, j, rfl, rfl, c2, by rw [Reps.length c3]; exact hj, ?_⟩
            exact hq g5 σ _ up (R5.mutCup b1 (c3.set z3' j))
          · cases hm
        · cases hm
      · cases hm
    obtain ⟨w, hw⟩ := R3.there (guard_ok e5)
    exact main w hw
end
end Yd

namespace Yd
open PySem PySem.Spec PyProof.Rows L2
/-! a def over data, and what its object promises -/
abbrev FnM := List Arg → Option (List D) → Res ((Bool × D) × Option (List D))
def slotOf : Arg → Slot
  | .d x => .sh x
  | .cup => .cup
def runFn (n : Nat) (body : Yd.St) : FnM := fun as cup => do
  let (f, s) ← body ⟨as.map slotOf ++ List.replicate (n - as.length) .un, cup⟩
  match f with
  | .rt x => .ok (x, s.cup)
  | .nx => .ok ((false, .none), s.cup)
  | _ => .no
def mCall (cal : FnM) (ms : List M) : M := fun s => do
  let (vs, s1) ← mL ms s
  let (as, s2) ← args vs s1
  let (r, c) ← cal as s2.cup
  .ok (rvOf r, { s2 with cup := c })
def ARep (K : PySem.W.Frag) (g : Gh) : Arg → V → Prop
  | .d x, v => Rep K g.F x v
  | .cup, v => ∃ a, g.cup = some a ∧ v = .ref a
def AReps (K : PySem.W.Frag) (g : Gh) : List Arg → List V → Prop
  | [], vs => vs = []
  | a :: as, vs => ∃ v r, vs = v :: r ∧ ARep K g a v ∧ AReps K g as r
theorem ARep.up {K : PySem.W.Frag} {g g' : Gh} (u : Up g g') {a : Arg} {v : V} (h : ARep K g a v) : ARep K g' a v := by
  cases a with
  | d x => exact Rep.mono u.s _ _ h
  | cup => obtain ⟨b, h1, h2⟩ := h; exact ⟨b, u.c b h1, h2⟩
theorem AReps.up {K : PySem.W.Frag} {g g' : Gh} (u : Up g g') : ∀ {as : List Arg} {vs : List V}, AReps K g as vs → AReps K g' as vs
  | [], _, h => h
  | _ :: _, _, ⟨v, r, h1, h2, h3⟩ => ⟨v, r, h1, h2.up u, AReps.up u h3⟩
theorem AReps.len {K : PySem.W.Frag} {g : Gh} : ∀ {as : List Arg} {vs : List V}, AReps K g as vs → vs.length = as.length
  | [], _, h => by cases (show _ = [] from h); rfl
  | _ :: _, _, ⟨v, r, h1, h2, h3⟩ => by subst h1; simp only [List.length_cons, AReps.len h3]
theorem Rel.arg1 {K : PySem.W.Frag} {g : Gh} {σ : L2.St} {H : Hp} {s : Sta} (R : Rel K g σ H s) {r : RV} {v : V} {a : Arg} {s' : Sta} (h : RVz K g.F σ r v) (e : Yd.arg1 s r = .ok (a, s')) : ∃ g', Up g g' ∧ Rel K g' σ H s' ∧ ARep K g' a v := by
  cases r with
  | sh d' => cases e; exact ⟨g, .refl g, R, h⟩
  | fr d' => cases e; exact ⟨g, .refl g, R, h⟩
  | sl i =>
    have e : argSlot s i s.env[i]? = .ok (a, s') := e
    have h' : σ[i]? = some (some v) := h
    have gen : ∀ o, s.env[i]? = o → o ≠ some .cup → (do let (d, s1) ← tkSlot s i o; (.ok (Arg.d d, s1) : Res (Arg × Sta))) = .ok (a, s') → ∃ g', Up g g' ∧ Rel K g' σ H s' ∧ ARep K g' a v := fun o ho hne e => by
      obtain ⟨⟨d, s1⟩, e1, e⟩ := bind_ok e
      cases e
      obtain ⟨g1, u1, R1, z1⟩ := R.tk (r := .sl i) h (show tkSlot s i s.env[i]? = _ by rw [ho]; exact e1)
      exact ⟨g1, u1, R1, z1⟩
    cases he : s.env[i]? with
    | none => rw [he] at e; exact gen _ he (by simp) e
    | some x =>
      rw [he] at e
      cases x with
      | cup =>
        cases e
        obtain ⟨b, h1, h2⟩ := R.cupS i he
        rw [h'] at h2
        cases h2
        exact ⟨g, .refl g, R, b, h1, rfl⟩
      | un => exact gen _ he (by simp) e
      | sh d => exact gen _ he (by simp) e
      | ow d => exact gen _ he (by simp) e
theorem Rel.args {K : PySem.W.Frag} {σ : L2.St} {H : Hp} : ∀ {g : Gh} {s : Sta} {rs : List RV} {vs : List V} {as : List Arg} {s' : Sta}, Rel K g σ H s → RVzs K g.F σ rs vs → Yd.args rs s = .ok (as, s') → ∃ g', Up g g' ∧ Rel K g' σ H s' ∧ AReps K g' as vs
  | g, s, [], vs, ds, s', R, h, e => by cases e; exact ⟨g, .refl g, R, h⟩
  | g, s, r :: rs, vs, ds, s', R, h, e => by
    obtain ⟨v, q, rfl, h2, h3⟩ := h
    obtain ⟨⟨d, s1⟩, e1, e⟩ := bind_ok e
    obtain ⟨⟨dr, s2⟩, e2, e⟩ := bind_ok e
    cases e
    obtain ⟨g1, u1, R1, z1⟩ := R.arg1 h2 e1
    obtain ⟨g2, u2, R2, z2⟩ := Rel.args R1 (h3.mono u1.s) e2
    exact ⟨g2, u1.trans u2, R2, v, q, rfl, z1.up u2, z2⟩
/-- the promise -/
def spEv (K : PySem.W.Frag) (n : Nat) (cal : FnM) : Sp := fun vs H Q _ => ∃ g as cup x cup', as.length = n ∧ Rel K g [] H ⟨[], cup⟩ ∧ AReps K g as vs ∧ cal as cup = .ok (x, cup') ∧
  ∀ g' v H', Up g g' → Rel K g' [] H' ⟨[], cup'⟩ → RVal K g' [] H' ⟨[], cup'⟩ (rvOf x) v → Q v H'
/-- what a caller keeps of a heap -/
def prOf (g : Gh) (H : Hp) : Hp := fun a => if (g.F a).isNone ∧ g.cup ≠ some a then H a else none
theorem prOf_some {g : Gh} {H : Hp} {a : Addr} {o : HO} (h : prOf g H a = some o) : g.F a = none ∧ g.cup ≠ some a ∧ H a = some o := by
  unfold prOf at h
  split at h
  · rename_i z
    exact ⟨by simpa using z.1, z.2, h⟩
  · cases h
theorem prOf_of {g : Gh} {H : Hp} {a : Addr} {o : HO} (h1 : g.F a = none) (h2 : g.cup ≠ some a) (h3 : H a = some o) : prOf g H a = some o := by
  unfold prOf
  rw [if_pos ⟨by rw [h1]; rfl, h2⟩]
  exact h3
/-- into a callee -/
theorem Rel.enter {K : PySem.W.Frag} {g : Gh} {σ : L2.St} {H : Hp} {s : Sta} (R : Rel K g σ H s) : Rel K { g with pr := prOf g H } [] H ⟨[], s.cup⟩ := by
  refine ⟨R.sub, fun a o h => ?_, rfl, fun i d h => ?_, fun i d h => ?_, fun i j d d' h => ?_, fun i h => ?_, R.cupN, R.cupV⟩
  · obtain ⟨h1, h2, h3⟩ := prOf_some h
    exact ⟨h3, h1, h2⟩
  · simp at h
  · simp at h
  · simp at h
  · simp at h
/-- back from it -/
theorem Rel.leave {K : PySem.W.Frag} {g g' : Gh} {σ : L2.St} {H H' : Hp} {s : Sta} {cup' : Option (List D)} (R : Rel K g σ H s) (u : Up { g with pr := prOf g H } g') (R' : Rel K g' [] H' ⟨[], cup'⟩) : Up g { g' with pr := g.pr } ∧ Rel K { g' with pr := g.pr } σ H' { s with cup := cup' } := by
  have keep : ∀ a o, g.F a = none → g.cup ≠ some a → H a = some o → H' a = some o ∧ g'.F a = none ∧ g'.cup ≠ some a := fun a o h1 h2 h3 => by
    have := prOf_of h1 h2 h3
    exact R'.pr a o (by rw [u.p]; exact this)
  refine ⟨⟨rfl, u.c, u.s⟩, R'.sub, fun a o h => ?_, R.len, fun i d h => ?_, fun i d h => ?_, R.sep, fun i h => ?_, R'.cupN, R'.cupV⟩
  · obtain ⟨h1, h2, h3⟩ := R.pr a o h
    exact keep a o h2 h3 h1
  · obtain ⟨v, h1, h2⟩ := R.sh i d h
    exact ⟨v, h1, Rep.mono u.s _ _ h2⟩
  · obtain ⟨p, o, h1, h2, h3, h4, h5, h6⟩ := R.ow i d h
    obtain ⟨k1, k2, k3⟩ := keep p o h2 h6 h4
    exact ⟨p, o, h1, k2, h3, k1, h5.mono u.s, k3⟩
  · obtain ⟨a, h1, h2⟩ := R.cupS i h
    exact ⟨a, u.c a h1, h2⟩
theorem RVal.leave {K : PySem.W.Frag} {g g' : Gh} {σ : L2.St} {H H' : Hp} {s : Sta} {cup' : Option (List D)} (R : Rel K g σ H s) (u : Up { g with pr := prOf g H } g') {x : Bool × D} {v : V} (h : RVal K g' [] H' ⟨[], cup'⟩ (rvOf x) v) : RVal K { g' with pr := g.pr } σ H' { s with cup := cup' } (rvOf x) v := by
  obtain ⟨b, d⟩ := x
  cases b with
  | false => exact h
  | true =>
    obtain ⟨p, o, rfl, h1, h2, h3, h4, h5, h6⟩ := h
    have hn : H p = none := by
      cases e : H p with
      | none => rfl
      | some o2 =>
        have h2 : g'.pr p = none := h2
        rw [u.p] at h2
        have : prOf g H p = some o2 := prOf_of (by
          cases q : g.F p with
          | none => rfl
          | some z => rw [u.s p z q] at h1; cases h1) (fun z => h5 (u.c p z)) e
        have h2 : prOf g H p = none := h2
        rw [this] at h2
        cases h2
    refine ⟨p, o, rfl, h1, (R.fresh hn).2.1, h3, h4, h5, fun i d' hi z => ?_⟩
    obtain ⟨q, w, k1, k2, k3, k4, k5, k6⟩ := R.ow i d' hi
    rw [z] at k1
    cases k1
    rw [hn] at k4
    cases k4
/-- FnOk, where no repr is running -/
structure FnG (P : Program) (w : World) (K : PySem.W.Frag) (mg : Str → Option Value) (base : Heap) (k : Nat) (f : Addr) (fd : FuncData) (ps : List Str) (sp : Sp) : Prop where
  len : ∀ vs H Q E, sp vs H Q E → vs.length = ps.length
  run : ∀ (A : Around) (outer : List Env) (s : Shared) (H : Hp) (args : PySem.Args) (us : List Value) (vs : List V) (Q : VK) (E : XK), A.guards = some [] → Room k A → Env0 P w K mg base A outer s H → BindsTo s fd args (ps.zip us) → Vals vs us → sp vs H Q E →
    codeAny (model P w) A (.call (.ref f) args) (CR L2.CX0 outer P w H s Q E) s
theorem FnG.mono {P : Program} {w : World} {K : PySem.W.Frag} {mg : Str → Option Value} {base : Heap} {j k : Nat} {f : Addr} {fd : FuncData} {ps : List Str} {sp : Sp} (F : FnG P w K mg base j f fd ps sp) (h : j ≤ k) : FnG P w K mg base k f fd ps sp :=
  ⟨F.len, fun A outer s H args us vs Q E hg hr => F.run A outer s H args us vs Q E hg (hr.mono h)⟩
section
variable {c : Cn}
/-- f(e, ..) -/
theorem se_call {n k : Nat} {f : Addr} {fd : FuncData} {ps : List Str} {cal : FnM} {x : Str} {e : Expr} {es : List Expr} {ms : List M} {p pos : Pos} (F : FnG c.P c.w c.K c.mg c.base k f fd ps (spEv c.K n cal)) (hk : k ≤ c.lvl) (hg : c.sc.names.lookup x = some .globalImplicit) (hm : c.mg x = some (.ref f))
    (hkp : PySem.W.keepIn c.K (.ref f) = true) (hb : Binds c.K fd ps []) (ha : SA c (e :: es) ms) (hn : ms.length = n) (hdb : (x == ("__debug__" : Str)) = false := by decide)
    (he : ∀ env : Env, starEach (e :: es) env = (false, eval e env) :: starEach es env := by intro _; rfl) (hpl : ∀ env : Env, (backTo pos (starEach es env)).any (·.1) = false := by intro _; rfl) : SE c (.Call (.Name x p) (e :: es) [] pos) (mCall cal ms) := fun X ok => by
  obtain ⟨XP, Xw, XK, Xmg, Xb, XN, Xsc, Xnd, Xc, Xr, Xo, Xg⟩ := id ok
  refine ⟨fun pins s σ H Q I h => ?_⟩
  obtain ⟨g, s0, r0, s', R, hm', hq⟩ := h
  obtain ⟨⟨rs, s1⟩, e1, hm'⟩ := bind_ok hm'
  obtain ⟨⟨as, s2⟩, e2, hm'⟩ := bind_ok hm'
  obtain ⟨⟨r, cu⟩, e3, hm'⟩ := bind_ok hm'
  cases hm'
  refine wpAny_Call_Name_kw (ld_glob I (gl_of ok hg) (by rw [Xmg]; exact hm) ?_ hdb)
  refine PySem.W.callWith_K (h₀ := X.base) I.ok.mod.kin (by rw [XK]; exact hkp) (thn ((ha X ok).run pos pins s σ H (fun vs H1 => ∃ g1, Up g g1 ∧ Rel X.K g1 σ H1 s1 ∧ RVzs X.K g1.F σ rs vs) I ⟨g, s0, rs, s1, R, e1, fun g1 vs H1 u1 R1 hv => ⟨g1, u1, R1, hv⟩⟩) fun us sh ⟨vs, H1, I1, r1, g1, u1, R1, hv⟩ => ⟨I1.kIn, ?_⟩) (he _) (hpl _)
  obtain ⟨g2, u2, R2, ha2⟩ := R1.args hv e2
  have hspec : spEv c.K n cal vs H1 (fun v H2 => Q v H2) (fun _ _ _ => False) := by
    rw [← XK]
    refine ⟨{ g2 with pr := prOf g2 H1 }, as, s2.cup, r, cu, ?_, R2.enter, ?_, e3, fun g3 v H2 u3 R3 hv3 => ?_⟩
    · rw [← ha2.len]
      have l1 : vs.length = rs.length := by
        have : ∀ {rs : List RV} {vs : List V}, RVzs X.K g1.F σ rs vs → vs.length = rs.length := by
          intro rs
          induction rs with
          | nil => intro vs h; cases (show vs = [] from h); rfl
          | cons r rs ih => intro vs h; obtain ⟨v, q, rfl, _, h3⟩ := h; simp only [List.length_cons, ih h3]
        exact this hv
      rw [l1, mL_len e1, hn]
    · exact ha2.up ⟨rfl, fun _ h => h, Sub.refl _⟩ |> fun h => by
        have : ∀ {as : List Arg} {vs : List V}, AReps X.K g2 as vs → AReps X.K { g2 with pr := prOf g2 H1 } as vs := by
          intro as
          induction as with
          | nil => intro vs h; exact h
          | cons a as ih =>
            intro vs h
            obtain ⟨v, r, h1, h2, h3⟩ := h
            refine ⟨v, r, h1, ?_, ih h3⟩
            cases a with
            | d x => exact h2
            | cup => exact h2
        exact this ha2
    · obtain ⟨u4, R4⟩ := R2.leave u3 R3
      exact hq _ v H2 (u1.trans (u2.trans u4)) R4 (RVal.leave R2 u3 hv3)
  have r2 : Vals (vs ++ []) (us ++ []) := by rw [List.append_nil, List.append_nil]; exact r1
  have hl : (us ++ []).length = ps.length := by rw [← r2.length, List.append_nil]; exact F.len _ _ _ _ hspec
  refine wpAny_call (codeAny_mono ((show FnG X.prog X.w X.K X.mg X.base k f fd ps (spEv c.K n cal) by rw [XP, Xw, XK, Xmg, Xb]; exact F).run X.A X.stack sh H1 ⟨us, []⟩ (us ++ []) (vs ++ []) Q (fun _ _ _ => False) Xg (Xr.mono hk) I1.env0 (hb sh us (by rw [← XK]; exact I1.kIn) hl) r2 (by rw [List.append_nil]; exact hspec)) fun r s' hq' => ?_)
  cases r with
  | error e => exact False.elim hq'
  | ok fl =>
    cases fl with
    | ret u => exact I1.after hq'
    | next => exact False.elim hq'
    | brk => exact False.elim hq'
    | cont => exact False.elim hq'
end
end Yd

namespace Yd
open PySem PySem.Spec PyProof.Rows L2
theorem Rel.bare {K : PySem.W.Frag} {g : Gh} {σ : L2.St} {H : Hp} {s : Sta} (R : Rel K g σ H s) : Rel K g [] H ⟨[], s.cup⟩ := by
  refine ⟨R.sub, R.pr, rfl, fun i d h => ?_, fun i d h => ?_, fun i j d d' h => ?_, fun i h => ?_, R.cupN, R.cupV⟩
  · simp at h
  · simp at h
  · simp at h
  · simp at h
theorem RVal.bare {K : PySem.W.Frag} {g : Gh} {σ : L2.St} {H : Hp} {s : Sta} {x : Bool × D} {v : V} (h : RVal K g σ H s (rvOf x) v) : RVal K g [] H ⟨[], s.cup⟩ (rvOf x) v := by
  obtain ⟨b, d⟩ := x
  cases b with
  | false => exact h
  | true =>
    obtain ⟨p, o, h0, h1, h2, h3, h4, h5, h6⟩ := h
    exact ⟨p, o, h0, h1, h2, h3, h4, h5, fun i d' hi => by simp at hi⟩
theorem AReps.get {K : PySem.W.Frag} {g : Gh} : ∀ {as : List Arg} {vs : List V} {i : Nat} {a : Arg}, AReps K g as vs → as[i]? = some a → ∃ v, vs[i]? = some v ∧ ARep K g a v
  | [], _, i, a, h, e => by simp at e
  | a :: as, vs, 0, b, ⟨v, r, h1, h2, h3⟩, e => by
    subst h1
    simp at e
    subst e
    exact ⟨v, rfl, h2⟩
  | a :: as, vs, i + 1, b, ⟨v, r, h1, h2, h3⟩, e => by
    subst h1
    simpa using AReps.get h3 (by simpa using e)
theorem slots_get {as : List Arg} {n i : Nat} {x : Slot} (h : (as.map slotOf ++ List.replicate n .un)[i]? = some x) (hx : x ≠ .un) : ∃ a, as[i]? = some a ∧ slotOf a = x := by
  by_cases hi : i < as.length
  · rw [List.getElem?_append_left (by simpa using hi), List.getElem?_map] at h
    cases e : as[i]? with
    | none => rw [e] at h; cases h
    | some a => rw [e] at h; exact ⟨a, rfl, Option.some.inj h⟩
  · rw [List.getElem?_append_right (by simpa using Nat.le_of_not_lt hi)] at h
    have := List.getElem?_replicate (a := Slot.un) (n := n) (i := i - (as.map slotOf).length)
    rw [this] at h
    split at h
    · exact absurd (Option.some.inj h).symm hx
    · cases h
theorem start_get {N : List Str} {vs : List V} {i : Nat} {v : V} (h : vs[i]? = some v) : (L2.start N vs)[i]? = some (some v) := by
  unfold L2.start
  have hi : i < vs.length := (List.getElem?_eq_some_iff.mp h).1
  rw [List.getElem?_append_left (by simpa using hi), List.getElem?_map, h] <;> rfl
theorem Rel.start {K : PySem.W.Frag} {g : Gh} {H : Hp} {cup : Option (List D)} (R : Rel K g [] H ⟨[], cup⟩) {as : List Arg} {vs : List V} (h : AReps K g as vs) (N : List Str) : Rel K g (L2.start N vs) H ⟨as.map slotOf ++ List.replicate (N.length - as.length) .un, cup⟩ := by
  have hl := h.len
  refine ⟨R.sub, R.pr, ?_, fun i d hi => ?_, fun i d hi => ?_, fun i j d d' hi => ?_, fun i hi => ?_, R.cupN, R.cupV⟩
  · unfold L2.start
    simp [hl]
  · obtain ⟨a, h1, h2⟩ := slots_get hi (by simp)
    obtain ⟨v, h3, h4⟩ := h.get h1
    cases a with
    | d x => cases h2; exact ⟨v, start_get h3, h4⟩
    | cup => cases h2
  · obtain ⟨a, h1, h2⟩ := slots_get hi (by simp)
    cases a <;> cases h2
  · obtain ⟨a, h1, h2⟩ := slots_get hi (by simp)
    cases a <;> cases h2
  · obtain ⟨a, h1, h2⟩ := slots_get hi (by simp)
    obtain ⟨v, h3, h4⟩ := h.get h1
    cases a with
    | d x => cases h2
    | cup =>
      obtain ⟨b, h5, rfl⟩ := h4
      exact ⟨b, h5, start_get h3⟩
theorem fn_g {P : Program} {w : World} {K : PySem.W.Frag} {mg : Str → Option Value} {base : Heap} {x qual : Str} {st : Stmt} {f : Addr} {fd : FuncData} {N ps : List Str} {k : Nat} (F : Fun K x qual st f fd) (S : FnScope N ps (defScope st)) {body : Yd.St}
    (hb : SSs ⟨P, w, K, mg, base, N, defScope st, k⟩ (defBody st) body) : FnG P w K mg base (k + 1) f fd ps (spEv K ps.length (runFn N.length body)) := by
  obtain ⟨oc, od, kV, doc, pm, an, cdv, ct, osl, rfl, lk, hcd⟩ := F.ex
  have len : ∀ vs H Q E, spEv K ps.length (runFn N.length body) vs H Q E → vs.length = ps.length := fun vs H Q E h => by
    obtain ⟨g, as, cup, y, cup', h1, h2, h3, h4⟩ := h
    rw [h3.len, h1]
  refine ⟨len, fun A outer s H args us vs Q E hg hr e0 hbi r hsp => ?_⟩
  have hl := len _ _ _ _ hsp
  have KX : K.In s.heap := e0.mod.kin.keeps fun b o e => (e0.bs b o e).1
  have lim : s.heap.NoLimit := e0.mod.nolimit.keeps fun b o e => (e0.bs b o e).1
  have hkind : ∀ y ∈ ps.zip us, (defScope st).names.lookup y.1 = some .local ∨ ((defScope st).names.lookup y.1 = some .cell ∧ ((cellsFrom (s.heap.objs.size + 1) (defScope st).names []).lookup y.1).isSome = true) := fun ⟨n, v⟩ hy => by
    rcases S.par n (List.of_mem_zip hy).1 with q | q
    · exact .inl q
    · exact .inr ⟨q, PySem.W.cellsFrom_some _ _ _ (.inl q)⟩
  refine codeAny_call_function hr.depth (KX _ _ lk) rfl S.co S.gen rfl (PySem.W.codeRec_of KX hcd) (hbi _ _ _ _ ?_)
  refine wpAny_newFunctionEnv_cells S.kind hkind fun env he s1 xx => ?_
  subst he
  refine ⟨lim.keeps xx.toInCall.keep, codeAny_func ?_⟩
  have ok : Cn.Ok ⟨P, w, K, mg, base, N, defScope st, k⟩ (cxOf L2.CX0 P w K mg base N qual (defScope st) f cdv A outer s H E).nox :=
    ⟨rfl, rfl, rfl, rfl, rfl, rfl, rfl, S.nd, rfl, hr.deeper _, PassesOwn.never, hg⟩
  have ht := (hb _ ok (fun _ _ => rfl)).nox
  have I : Inv (cxOf L2.CX0 P w K mg base N qual (defScope st) f cdv A outer s H E) [] (L2.start N vs) H s1 := inv_start S hr.hd e0 hl r xx
  have hq : Ts K body { nx := fun _ H' => Q .non H', rt := Q } (L2.start N vs) H := by
    obtain ⟨g, as, cup, y, cup', h1, h2, h3, h4, h5⟩ := hsp
    obtain ⟨⟨fl, s'⟩, e1, h4⟩ := bind_ok h4
    have R := h2.start h3 N
    refine ⟨g, _, fl, s', R, e1, fun g' σ' H' u' R' => ?_⟩
    cases fl with
    | nx => cases h4; exact h5 g' .non H' u' R'.bare (by show Rep _ _ _ _; simp only [Rep])
    | rt z => cases h4; exact fun v hv => h5 g' v H' u' R'.bare (RVal.bare hv)
    | bk => cases h4
    | ct => cases h4
  refine wpAny_mono (ht.run [] s1 (L2.start N vs) H _ I hq) (fun fl s' hs => ?_) fun e s' hs => hs
  have fin : ∀ {σ' : L2.St} {H' : Hp} {v : V} {u : Value}, Inv (cxOf L2.CX0 P w K mg base N qual (defScope st) f cdv A outer s H E) [] σ' H' s' → RelV v u → Q v H' → CE outer P w H s Q u s' :=
    fun {σ' H' v u} J rv q => ⟨v, H', J.os, J.bare, J.base, J.hok, rv, q⟩
  cases fl with
  | ret u =>
    obtain ⟨v, σ', H', J, rv, q⟩ := hs
    exact fin J rv q
  | next =>
    obtain ⟨σ', H', J, q⟩ := hs
    exact fin J (show RelV .non Value.none from rfl) q
  | brk =>
    obtain ⟨σ', H', J, q⟩ := hs
    exact False.elim q
  | cont =>
    obtain ⟨σ', H', J, q⟩ := hs
    exact False.elim q
end Yd

namespace Yd
open PySem PySem.Spec PyProof.Rows L2
theorem g_call {P : Program} {w : World} {K : PySem.W.Frag} {mg mb : Str → Option Value} {k : Nat} {fa a : Addr} {fd : FuncData} {x : Str} {sp : Sp} {s₁ : Shared} {vs : List Value} {ns : List Int}
    (KX : K.In s₁.heap) (hns : s₁.heap.Ns mainGlobals mg) (hb : s₁.heap.Ns builtinsNs mb) (hbb : ∀ x : Str, x ≠ "__name__" → mb x = bootBuiltins x) (hlim : s₁.heap.NoLimit) (hg : s₁.gens = #[])
    (ha : s₁.heap.get? a = some { cls := .type "list", data := .seq vs.toArray }) (hi : IntsAre vs ns) (hl : ns.length ≤ sizeLine) (hr : Room k callerA) (hga : callerA.guards = some [])
    (F : ∀ base : Heap, K.In base → base.Ns mainGlobals mg → FnG P w K mg base k fa fd [x] sp) (hbind : ∀ (s : Shared) (u : Value), BindsTo s fd ⟨[u], []⟩ [(x, u)])
    (hsp : ∀ H : Hp, Only H → SqX K H a (ns.map V.int) → sp [.ref a] H (fun v _ => v = .bl true) fun _ _ _ => False) :
    codeAny (model P w) callerA (.call (.ref fa) ⟨[.ref a], []⟩) (fun r s' => r = .ok (.ret (.bool true)) ∧ OldK s₁.heap s'.heap ∧ s'.os = s₁.os ∧ AllBare s'.gens) s₁ := by
  have rv := vals_ints hi
  have lenV := hi.length
  -- from an abstract heap in which nothing but the script may be tracked
  have core : ∀ H : Hp, Only H → SqX K H a (ns.map V.int) → HOk P w H s₁.heap → (∀ b, H b ≠ none → b = a) → (H a ≠ none → K.lookup a = none) →
      codeAny (model P w) callerA (.call (.ref fa) ⟨[.ref a], []⟩) (fun r s' => r = .ok (.ret (.bool true)) ∧ OldK s₁.heap s'.heap ∧ s'.os = s₁.os ∧ AllBare s'.gens) s₁ := by
    intro H hO hS hok hA hK
    have base_of : ∀ {b : Addr} {o : Obj}, s₁.heap.get? b = some o → H b = none → (hidT s₁.heap H).get? b = some o := fun e n => hidT_get e n
    have noA : ∀ {b : Addr} {o : Obj} {es : Array DictEntry} {ep : Nat}, s₁.heap.get? b = some o → o.data = .dict es ep → H b = none := fun {b o es ep} e d => by
      cases q : H b with
      | none => rfl
      | some u =>
        have e' : b = a := hA b (by rw [q]; simp)
        subst e'
        rw [ha] at e; cases e
        have d' : Data.seq vs.toArray _ = Data.dict es ep := d
        cases d'
    have nsK : ∀ {b : Addr} {m : Str → Option Value}, s₁.heap.Ns b m → (hidT s₁.heap H).Ns b m := fun {b m} ⟨o, es, ep, e, d, r⟩ => ⟨o, es, ep, base_of e (noA e d), d, r⟩
    have hKb : K.In (hidT s₁.heap H) := fun b o e => base_of (KX b o e) (by
      cases q : H b with
      | none => rfl
      | some u =>
        have e' : b = a := hA b (by rw [q]; simp)
        subst e'
        rw [hK (by rw [q]; simp)] at e; cases e)
    have hM : Mod K mg (hidT s₁.heap H) := ⟨hKb, nsK hns, ⟨mb, nsK hb, hbb⟩, let ⟨mc, h1, h2⟩ := hlim; ⟨mc, nsK h1, h2⟩⟩
    have e0 : Env0 P w K mg (hidT s₁.heap H) callerA [] s₁ H := ⟨rfl, hM, fun b o e => of_hidT e, Nat.le_of_eq (hidT_size _ _), trivial, fun b hb => absurd (show b ∈ ([] : List Addr) from hb) (by simp), hok, .of_eq hg⟩
    refine codeAny_mono ((F _ hKb (nsK hns)).run callerA [] s₁ H ⟨[.ref a], []⟩ [.ref a] [.ref a] _ _ hga hr e0 (hbind s₁ (.ref a)) (.cons rfl .nil) (hsp H hO hS)) fun r s' h => ?_
    cases r with
    | error e => exact False.elim h
    | ok fl =>
      cases fl with
      | next => exact False.elim h
      | brk => exact False.elim h
      | cont => exact False.elim h
      | ret u =>
        obtain ⟨v, H', os, bare, un, hok', r', q⟩ := h
        have q' : v = .bl true := q
        subst q'
        obtain rfl : u = Value.bool true := r'
        refine ⟨rfl, OldK.of_keep fun b o e => ?_, os, bare⟩
        cases q : H b with
        | none => exact un.keep b o e q (by intro z; exact absurd (show b ∈ ([] : List Addr) from z) (by simp)) (by simp)
        | some u =>
          rcases hO b with z | ⟨ob, xs, z⟩
          · rw [q] at z; cases z
          · have z2 := un.frzs b ob _ z
            obtain ⟨e1, _⟩ := hok b _ z
            obtain ⟨e2, _⟩ := hok' b _ z2
            rw [e] at e1; cases e1
            exact e2
  cases hk : K.lookup a with
  | some o =>
    -- the script is one of the module's own objects
    have e := KX a o hk
    rw [ha] at e
    cases e
    refine core (fun _ => none) (fun _ => .inl rfl) (.inr ⟨vs, _, hk, by rw [lenV]; exact hl, rv⟩) (fun b u z => by have z' : (none : Option HO) = some u := z; cases z') (fun b z => absurd rfl z) fun z => absurd rfl z
  | none =>
    refine core (fun b => if b = a then some (.frz { cls := .type "list", data := .seq vs.toArray } (.lst (ns.map V.int))) else none) (fun b => ?_) (.inl (.inr ⟨{ cls := .type "list", data := .seq vs.toArray }, if_pos rfl⟩)) (fun b u z => ?_) (fun b z => ?_) fun _ => hk
    · by_cases hb : b = a
      · exact .inr ⟨_, _, if_pos hb⟩
      · exact .inl (if_neg hb)
    · by_cases hb : b = a
      · have z' := (if_pos hb).symm.trans z
        cases z'
        subst hb
        exact ⟨ha, by rw [List.length_map]; exact hl, vs, _, rv, ha⟩
      · have z' := (if_neg hb).symm.trans z
        cases z'
    · by_cases hb : b = a
      · exact hb
      · exact absurd (if_neg hb) z

theorem Reps.ints (K : PySem.W.Frag) (F : Hp) : ∀ ns : List Int, Reps K F (ns.map PyData.int) (ns.map V.int)
  | [] => rfl
  | n :: ns => ⟨_, _, rfl, rfl, Reps.ints K F ns⟩
/-- the law's promise, from its answer over data -/
theorem sp_law {K : PySem.W.Frag} {H : Hp} {a : Addr} {ns : List Int} {cal : FnM} {c : Option (List D)} {b : Bool} (hO : Only H) (hS : SqX K H a (ns.map V.int)) (h : cal [.d (.list (ns.map PyData.int))] none = .ok ((b, .bool true), c)) :
    spEv K 1 cal [.ref a] H (fun v _ => v = .bl true) fun _ _ _ => False := by
  have ar : AReps K ⟨fun _ => none, none, H⟩ [.d (.list (ns.map PyData.int))] [.ref a] := by
    refine ⟨_, _, rfl, ?_, rfl⟩
    show Rep _ _ _ _
    simp only [Rep]
    exact ⟨a, _, rfl, hS, Reps.ints _ _ ns⟩
  refine ⟨⟨fun _ => none, none, H⟩, _, none, _, c, rfl, ⟨fun a o h => h, fun a o h => ?_, rfl, fun i d h => ?_, fun i d h => ?_, fun i j d d' h => ?_, fun i h => ?_, fun _ => rfl, fun _ h => ?_⟩, ar, h, fun g' v H' u R r => ?_⟩
  · cases (show (none : Option HO) = some o from h)
  · simp at h
  · simp at h
  · simp at h
  · simp at h
  · cases h
  · cases b with
    | false =>
      have r : Rep K g'.F (.bool true) v := r
      simpa only [Rep] using r
    | true =>
      obtain ⟨p, o, h1, h2, h3, h4, h5, h6⟩ := r
      cases o <;> simp [RepO] at h5
theorem g_walk {l : PySem.W.OpenLaw} {n k : Nat} {q : Program} {loose : List Str} {XP : (Str → Option Value) → Heap → Prop} {YP : World → Heap → Prop} {d : DefRec} {K : Params → PySem.W.Frag} {x : Str} {cal : FnM}
    (hn : l.most = some n) (hn2 : n ≤ sizeLine) (hdf : d.params.defaults = []) (hr : Room k callerA) (hga : callerA.guards = some [])
    (hY : ∀ (w : World) (h : Heap), YP w h → (K w.params).In h)
    (F : ∀ (w : World) (mg : Str → Option Value) (fa : Addr) (h : Heap), (K w.params).In h → h.Ns mainGlobals mg → mg d.name = some (.ref fa) →
      ∃ fd : FuncData, (∀ (s : Shared) (u : Value), BindsTo s fd ⟨[u], []⟩ [(x, u)]) ∧
        ∀ base : Heap, (K w.params).In base → base.Ns mainGlobals mg → FnG l.prog w (K w.params) mg base k fa fd [x] (spEv (K w.params) 1 cal))
    (hcal : ∀ ns : List Int, ns.length ≤ n → ∃ b c, cal [.d (.list (ns.map PyData.int))] none = .ok ((b, .bool true), c)) :
    PySem.W.WalkO q loose XP YP l.row.toRowW d [] (fun f vs => PySem.call f vs) := by
  refine Att.attach_call hn hdf fun w s₀ s₁ mg mb fa o pm cd doc a vs ns G Y ho hd hcd hmg hobj hints hlen hg => ?_
  have KX := hY w _ Y
  obtain ⟨fd, hb, hF⟩ := F w mg fa _ KX G.T.g hmg
  obtain ⟨b, c, e⟩ := hcal ns hlen
  exact g_call KX G.T.g G.T.b G.T.builtins G.T.nolimit hg hobj hints (Nat.le_trans hlen hn2) hr hga hF hb (fun H hO hS => sp_law hO hS e)
end Yd

namespace Yd
open PySem PySem.Spec PyProof.Rows L2
/-! what is walked; for -/
/-- the i-th of ds has come -/
def Yi (K : PySem.W.Frag) (F : Hp) (ds : List D) : Nat → Hp → V → Hp → Prop := fun i H x H' => ∃ d, ds[i]? = some d ∧ ((H' = H ∧ Rep K F d x) ∨ ∃ T vs dds, x = V.ref T ∧ H T = none ∧ H' = upd H T (.tup vs) ∧ d = .tuple dds ∧ Reps K F dds vs)
theorem Rel.turn {K : PySem.W.Frag} {g : Gh} {σ : L2.St} {H H' : Hp} {s : Sta} {F0 : Hp} {ds : List D} {i : Nat} {x : V} (R : Rel K g σ H s) (e : Sub F0 g.F) (y : Yi K F0 ds i H x H') : ∃ g' d, ds[i]? = some d ∧ Up g g' ∧ Rel K g' σ H' s ∧ Rep K g'.F d x := by
  obtain ⟨d, h1, h2⟩ := y
  rcases h2 with ⟨rfl, h2⟩ | ⟨T, vs, dds, rfl, hT, rfl, rfl, h2⟩
  · exact ⟨g, d, h1, .refl g, R, Rep.mono e _ _ h2⟩
  · obtain ⟨g', u, R', r⟩ := R.madeT hT (Reps.mono e _ _ h2)
    exact ⟨g', _, h1, u, R', r⟩
def Ti (K : PySem.W.Frag) (mi : MI) : TI := fun σ H R => ∃ g s ds s', Rel K g σ H s ∧ mi s = .ok (ds, s') ∧ ∀ g' J H', Up g g' → Rel K g' σ H' s' → Walk J ds.length (fun H => Sub g'.F H) (Yi K g'.F ds) → R J H'
def SI (c : Cn) (tg e : Expr) (mi : MI) : Prop := ∀ X, c.Ok X → PI X tg e (Ti X.K mi)
theorem drop_at {ds : List D} {i : Nat} {d : D} (h : ds[i]? = some d) : ds.drop i = d :: ds.drop (i + 1) := by
  obtain ⟨hi, e⟩ := List.getElem?_eq_some_iff.mp h
  rw [List.drop_eq_getElem_cons hi, e]
section
variable {c : Cn}
theorem ss_for {tg it : Expr} {body : List Stmt} {mi : MI} {t : Tg} {m : Yd.St} {pos : Pos} (hi : SI c tg it mi) (hg : SG c tg t) (hb : SSs c body m)
    (hs : ∀ (env : Env) (x : Value), foldedSetIterable it env x = pure x := by intro _ _; rfl) : SS c (.For tg it body [] pos) (sFor t mi m) := fun X ok hf => (ps_for ok.own ok.calm (hi X ok) (hg X ok hf) (hb X ok hf) (hs _)).pre fun D σ H q => by
  obtain ⟨g, s, f, s', R, hm, hq⟩ := q
  obtain ⟨⟨ds, s1⟩, e1, e2⟩ := bind_ok hm
  refine ⟨g, s, ds, s1, R, e1, fun g1 J H1 u1 R1 w => ?_⟩
  refine for_it w (fun i σ H => ∃ g2 s2, Up g1 g2 ∧ Rel X.K g2 σ H s2 ∧ forL t m (ds.drop i) s2 = .ok (f, s')) ⟨g1, s1, .refl g1, R1, e2⟩ (fun i σ H _ z => ?_) (fun i x σ2 H2 H3 hi z y => ?_) fun σ2 H2 z => ?_
  · obtain ⟨g2, s2, u2, R2, _⟩ := z
    exact u2.s.trans R2.sub
  · obtain ⟨g2, s2, u2, R2, e⟩ := z
    obtain ⟨g3, d, hd, u3, R3, rx⟩ := R2.turn u2.s y
    rw [drop_at hd] at e
    simp only [forL] at e
    obtain ⟨s4, e4, e⟩ := bind_ok e
    obtain ⟨⟨f5, s5⟩, e5, e⟩ := bind_ok e
    refine ⟨g3, s2, d, s4, R3, rx, e4, fun g4 σ4 H4 u4 R4 => ⟨g4, s4, f5, s5, R4, e5, fun g5 σ5 H5 u5 R5 => ?_⟩⟩
    have U : Up g1 g5 := u2.trans (u3.trans (u4.trans u5))
    cases f5 with
    | nx => exact ⟨g5, s5, U, R5, e⟩
    | ct => exact ⟨g5, s5, U, R5, e⟩
    | bk => cases e; exact hq g5 σ5 H5 (u1.trans U) R5
    | rt x => cases e; exact hq g5 σ5 H5 (u1.trans U) R5
  · obtain ⟨g2, s2, u2, R2, e⟩ := z
    rw [List.drop_length] at e
    simp only [forL] at e
    cases e
    exact hq g2 σ2 H2 (u1.trans u2) R2
/-! kinds -/
/-- a list or a tuple -/
def mIt (m : M) : MI := fun s => do
  let (r, s1) ← m s
  let (d, s2) ← tk s1 r
  match d with
  | .list ds => .ok (ds, s2)
  | .tuple ds => .ok (ds, s2)
  | _ => .no
theorem yi_at {K : PySem.W.Frag} {F : Hp} {ds : List D} {xs : List V} (h : Reps K F ds xs) {i : Nat} {H : Hp} {x : V} {H' : Hp} (y : YAt xs i H x H') : Yi K F ds i H x H' := by
  obtain ⟨rfl, e⟩ := y
  have hi : i < xs.length := (List.getElem?_eq_some_iff.mp e).1
  have hi2 : i < ds.length := by rw [← Reps.length h]; exact hi
  obtain ⟨v, h1, h2⟩ := h.get (List.getElem?_eq_getElem hi2)
  rw [e] at h1
  cases h1
  exact ⟨_, List.getElem?_eq_getElem hi2, .inl ⟨rfl, h2⟩⟩
theorem si_val {tg e : Expr} {m : M} (h : SE c e m) : SI c tg e (mIt m) := fun X ok => ⟨fun pins s σ H R I q => by
  obtain ⟨g, s0, ds, s', Rl, hm, hq⟩ := q
  obtain ⟨⟨r, s1⟩, e1, hm⟩ := bind_ok hm
  obtain ⟨⟨d, s2⟩, e2, hm⟩ := bind_ok hm
  cases d with
  | list es =>
    cases hm
    refine (pi_list (h X ok)).run pins s σ H R I ⟨g, s0, r, s1, Rl, e1, fun g1 v H1 u1 R1 hv => ?_⟩
    obtain ⟨g2, u2, R2, z2⟩ := R1.z hv
    obtain ⟨g3, u3, R3, z3⟩ := R2.tk z2 e2
    simp only [Rep] at z3
    obtain ⟨a, vs, rfl, h1, h2⟩ := z3
    have hl := Reps.length h2
    refine ⟨a, rfl, ⟨vs, sqx_l (sqx_sub R3.sub h1)⟩, hq g3 _ H1 (u1.trans (u2.trans u3)) R3 ?_⟩
    rw [← hl]
    exact walk_list.mono (fun H2 e => sqx_l (sqx_sub e h1)) fun i H2 x H3 _ _ y => yi_at h2 y
  | tuple es =>
    cases hm
    refine (pi_tup (h X ok)).run pins s σ H R I ⟨g, s0, r, s1, Rl, e1, fun g1 v H1 u1 R1 hv => ?_⟩
    obtain ⟨g2, u2, R2, z2⟩ := R1.z hv
    obtain ⟨g3, u3, R3, z3⟩ := R2.tk z2 e2
    simp only [Rep] at z3
    obtain ⟨a, vs, rfl, h1, h2⟩ := z3
    have hl := Reps.length h2
    refine ⟨a, rfl, ⟨vs, sqt_sub R3.sub h1⟩, hq g3 _ H1 (u1.trans (u2.trans u3)) R3 ?_⟩
    rw [← hl]
    exact walk_tup.mono (fun H2 e => sqt_sub e h1) fun i H2 x H3 _ _ y => yi_at h2 y
  | _ => cases hm⟩
/-- the ints lo, .., lo + n - 1 -/
def irng (lo : Int) (n : Nat) : List D := (List.range n).map fun i => .int (lo + (i : Nat))
theorem yi_rng {K : PySem.W.Frag} {F : Hp} {lo : Int} {n : Nat} {i : Nat} (hi : i < n) {H : Hp} {x : V} {H' : Hp} (y : YFn (fun i => V.int (lo + (i : Nat))) i H x H') : Yi K F (irng lo n) i H x H' := by
  obtain ⟨rfl, rfl⟩ := y
  refine ⟨.int (lo + (i : Nat)), ?_, .inl ⟨rfl, by simp only [Rep]⟩⟩
  simp [irng, hi]
def inR (i : Int) : Bool := decide (-(2 ^ 62) ≤ i) && decide (i < 2 ^ 62)
/-- an int that is read -/
def rdInt (s : Sta) (r : RV) : Res Int := do
  match ← rd s r with
  | .int j => do Res.guard (inR j); .ok j
  | _ => .no
def mRng2 (a b : M) : MI := fun s => do
  let (rs, s1) ← mL [a, b] s
  match rs with
  | [r1, r2] => do
    let i ← rdInt s1 r1
    let j ← rdInt s1 r2
    .ok (irng i (j - i).toNat, s1)
  | _ => .no
theorem rdInt_ok {K : PySem.W.Frag} {g : Gh} {σ : L2.St} {H : Hp} {s : Sta} (R : Rel K g σ H s) {r : RV} {v : V} {j : Int} (h : RVz K g.F σ r v) (e : rdInt s r = .ok j) : v = .int j ∧ -(2 ^ 62) ≤ j ∧ j < 2 ^ 62 := by
  obtain ⟨d, e1, e⟩ := bind_ok e
  have w := R.rd h e1
  cases d with
  | int k =>
    obtain ⟨_, e0, e⟩ := bind_ok e
    have hk := guard_ok e0
    cases e
    simp only [inR, Bool.and_eq_true, decide_eq_true_eq] at hk
    simp only [Vw] at w
    exact ⟨w, hk.1, hk.2⟩
  | _ => cases e
def mRng1 (a : M) : MI := fun s => do
  let (rs, s1) ← mL [a] s
  match rs with
  | [r1] => do
    let j ← rdInt s1 r1
    .ok (irng 0 j.toNat, s1)
  | _ => .no
theorem irng_length (lo : Int) (n : Nat) : (irng lo n).length = n := by simp [irng]
theorem si_rng1 {tg a : Expr} {m : M} {p pos : Pos} (h : SA c [a] [m]) (hg : c.sc.names.lookup ("range" : Str) = some .globalImplicit) (hm : c.mg ("range" : Str) = none) (hs : ∀ env : Env, starEach [a] env = [(false, eval a env)] := by intro _; rfl) :
    SI c tg (.Call (.Name ("range" : Str) p) [a] [] pos) (mRng1 m) := fun X ok => ⟨fun pins s σ H R I q => by
  obtain ⟨g, s0, ds, s', Rl, hm', hq⟩ := q
  obtain ⟨⟨rs, s1⟩, e1, hm'⟩ := bind_ok hm'
  refine (pi_range1 (p := p) (pos := pos) (gl_of ok hg) (by rw [ok.mg]; exact hm) (h X ok) (hs _)).run pins s σ H R I ⟨g, s0, rs, s1, Rl, e1, fun g1 vs H1 u1 R1 hv => ?_⟩
  cases rs with
  | nil => cases hm'
  | cons r rr =>
    cases rr with
    | cons _ _ => cases hm'
    | nil =>
      obtain ⟨j, e2, hm'⟩ := bind_ok hm'
      cases hm'
      obtain ⟨v, q, rfl, hv1, rfl⟩ := hv
      obtain ⟨rfl, b1, b2⟩ := rdInt_ok R1 hv1 e2
      refine ⟨j, rfl, b1, b2, hq g1 _ H1 u1 R1 ?_⟩
      rw [irng_length]
      exact walk_range.mono (fun _ _ => trivial) fun i H2 x H3 hi _ y => yi_rng hi y⟩
theorem si_rng2 {tg a b : Expr} {m n : M} {p pos : Pos} (h : SA c [a, b] [m, n]) (hg : c.sc.names.lookup ("range" : Str) = some .globalImplicit) (hm : c.mg ("range" : Str) = none)
    (hs : ∀ env : Env, starEach [a, b] env = [(false, eval a env), (false, eval b env)] := by intro _; rfl) (hs2 : ∀ env : Env, starEach [b] env = [(false, eval b env)] := by intro _; rfl) :
    SI c tg (.Call (.Name ("range" : Str) p) [a, b] [] pos) (mRng2 m n) := fun X ok => ⟨fun pins s σ H R I q => by
  obtain ⟨g, s0, ds, s', Rl, hm', hq⟩ := q
  obtain ⟨⟨rs, s1⟩, e1, hm'⟩ := bind_ok hm'
  refine (pi_range2 (p := p) (pos := pos) (gl_of ok hg) (by rw [ok.mg]; exact hm) (h X ok) (hs _) (hs2 _)).run pins s σ H R I ⟨g, s0, rs, s1, Rl, e1, fun g1 vs H1 u1 R1 hv => ?_⟩
  match rs, hm', hv with
  | [r1, r2], hm', hv =>
      obtain ⟨i, e2, hm'⟩ := bind_ok hm'
      obtain ⟨j, e3, hm'⟩ := bind_ok hm'
      cases hm'
      obtain ⟨v, q, rfl, hv1, v2, q2, rfl, hv2, rfl⟩ := hv
      obtain ⟨rfl, b1, b2⟩ := rdInt_ok R1 hv1 e2
      obtain ⟨rfl, b3, b4⟩ := rdInt_ok R1 hv2 e3
      refine ⟨i, j, rfl, ⟨b1, b2, b3, b4⟩, hq g1 _ H1 u1 R1 ?_⟩
      rw [irng_length]
      exact walk_range.mono (fun _ _ => trivial) fun i H2 x H3 hi _ y => yi_rng hi y⟩
/-- two lists or two tuples, side by side -/
def pairs : List D → List D → List D
  | a :: as, b :: bs => .tuple [a, b] :: pairs as bs
  | _, _ => []
theorem pairs_get : ∀ {as bs : List D} {i : Nat} {a b : D}, as[i]? = some a → bs[i]? = some b → (pairs as bs)[i]? = some (.tuple [a, b])
  | a :: as, b :: bs, 0, _, _, h, k => by simp at h k; subst h k; rfl
  | a :: as, b :: bs, i + 1, _, _, h, k => by simp at h k; simpa [pairs] using pairs_get h k
  | [], _, i, _, _, h, k => by simp at h
  | _ :: _, [], i, _, _, h, k => by simp at k
theorem pairs_length : ∀ as bs : List D, (pairs as bs).length = min as.length bs.length
  | [], _ => by simp [pairs]
  | _ :: _, [] => by simp [pairs]
  | _ :: as, _ :: bs => by simp [pairs, pairs_length as bs]
def mZip (a b : M) : MI := fun s => do
  let (rs, s1) ← mL [a, b] s
  let (ds, s2) ← tks rs s1
  match ds with
  | [.list xs, .list ys] => .ok (pairs xs ys, s2)
  | [.tuple xs, .tuple ys] => .ok (pairs xs ys, s2)
  | _ => .no
theorem yi_pair {K : PySem.W.Frag} {F : Hp} {xs ys : List D} {vs ws : List V} (h1 : Reps K F xs vs) (h2 : Reps K F ys ws) {i : Nat} {H : Hp} {x : V} {H' : Hp} (y : YPair (fun i => vs[i]?) (fun i => ws[i]?) i H x H') : Yi K F (pairs xs ys) i H x H' := by
  obtain ⟨T, x1, y1, rfl, hT, rfl, e1, e2⟩ := y
  have hi : i < vs.length := (List.getElem?_eq_some_iff.mp e1).1
  have hi2 : i < xs.length := by rw [← Reps.length h1]; exact hi
  have hj : i < ws.length := (List.getElem?_eq_some_iff.mp e2).1
  have hj2 : i < ys.length := by rw [← Reps.length h2]; exact hj
  obtain ⟨v, q1, q2⟩ := h1.get (List.getElem?_eq_getElem hi2)
  obtain ⟨w, q3, q4⟩ := h2.get (List.getElem?_eq_getElem hj2)
  rw [show vs[i]? = some x1 from e1] at q1
  rw [show ws[i]? = some y1 from e2] at q3
  cases q1
  cases q3
  exact ⟨_, pairs_get (List.getElem?_eq_getElem hi2) (List.getElem?_eq_getElem hj2), .inr ⟨T, _, _, rfl, hT, rfl, rfl, _, _, rfl, q2, _, _, rfl, q4, rfl⟩⟩
theorem walk_zipT {K : PySem.W.Frag} {a b : Addr} {xs ys : List V} {n : Nat} (hn : n = min xs.length ys.length) : Walk (RZ.ItzT K a b) n (fun H => SqT K H a xs ∧ SqT K H b ys) (YPair (fun i => xs[i]?) (fun i => ys[i]?)) := by
  subst hn
  refine ⟨fun i _ hi q => ?_, fun _ q => ⟨xs, ys, q.1, q.2, by omega⟩, fun i H v H' _ q y => ?_⟩
  · have h1 : i < xs.length := by omega
    have h2 : i < ys.length := by omega
    exact ⟨xs, ys, xs[i], ys[i], q.1, q.2, by simp [h1], by simp [h2]⟩
  · obtain ⟨T, x, z, h1, h2, h3, h4, h5⟩ := y
    exact ⟨T, x, z, h1, h2, h3, h4 xs q.1, h5 ys q.2⟩
theorem si_zip {e e2 : Expr} {m n : M} {p pos tpos : Pos} {elts : List Expr} {kk : Nat} (h : SA c [e, e2] [m, n]) (hg : c.sc.names.lookup ("zip" : Str) = some .globalImplicit) (hm : c.mg ("zip" : Str) = none)
    (hs : ∀ env : Env, starEach [e, e2] env = (false, eval e env) :: starEach [e2] env := by intro _; rfl) (hpl : ∀ env : Env, (backTo pos (starEach [e2] env)).any (·.1) = false := by intro _; rfl) :
    SI c (.Tuple elts kk tpos) (.Call (.Name ("zip" : Str) p) [e, e2] [] pos) (mZip m n) := fun X ok => ⟨fun pins s σ H R I q => by
  obtain ⟨g, s0, ds, s', Rl, hm', hq⟩ := q
  obtain ⟨⟨rs, s1⟩, e1, hm'⟩ := bind_ok hm'
  obtain ⟨⟨es, s2⟩, e3, hm'⟩ := bind_ok hm'
  refine (RZ.pi_zipA (p := p) (pos := pos) (gl_of ok hg) (by rw [ok.mg]; exact hm) (h X ok) (hs _) (hpl _)).run pins s σ H R I ⟨g, s0, rs, s1, Rl, e1, fun g1 vs H1 u1 R1 hv => ?_⟩
  obtain ⟨g2, u2, R2, z2⟩ := R1.tks hv e3
  match es, hm', z2 with
  | [.list xs, .list ys], hm', z2 =>
    cases hm'
    obtain ⟨v, q, rfl, z, v2, q2, rfl, z3, rfl⟩ := z2
    simp only [Rep] at z z3
    obtain ⟨a, vs, rfl, h1, h2⟩ := z
    obtain ⟨b, ws, rfl, h3, h4⟩ := z3
    refine ⟨a, b, vs, ws, rfl, .inl ⟨sqx_l (sqx_sub R2.sub h1), sqx_l (sqx_sub R2.sub h3), hq g2 _ H1 (u1.trans u2) R2 ?_⟩⟩
    refine (walk_zip (by rw [pairs_length, Reps.length h2, Reps.length h4])).mono (fun H2 e => ⟨sqx_l (sqx_sub e h1), sqx_l (sqx_sub e h3)⟩) fun i H2 x H3 _ _ y => yi_pair h2 h4 y
  | [.tuple xs, .tuple ys], hm', z2 =>
    cases hm'
    obtain ⟨v, q, rfl, z, v2, q2, rfl, z3, rfl⟩ := z2
    simp only [Rep] at z z3
    obtain ⟨a, vs, rfl, h1, h2⟩ := z
    obtain ⟨b, ws, rfl, h3, h4⟩ := z3
    refine ⟨a, b, vs, ws, rfl, .inr ⟨sqt_sub R2.sub h1, sqt_sub R2.sub h3, hq g2 _ H1 (u1.trans u2) R2 ?_⟩⟩
    refine (walk_zipT (by rw [pairs_length, Reps.length h2, Reps.length h4])).mono (fun H2 e => ⟨sqt_sub e h1, sqt_sub e h3⟩) fun i H2 x H3 _ _ y => yi_pair h2 h4 y⟩
end
end Yd

namespace Yd
open PySem PySem.Spec PyProof.Rows L2
open Sem (wp)
open AutoSeq1 (wpAny_loadPart')
/-! enumerate of a tuple -/
theorem meets_enumerate_newT (l : Addr) (items : Array Value) (n : Nat) (dct : Option Addr) (sl : Array (Option Value)) :
    Meets (Builtin.«enumerate.__new__» ⟨[.type "enumerate", .ref l], []⟩) (fun _ R s => s.heap.get? l = some { cls := .type "tuple", dict := dct, data := .seq items n, slots := sl } ∧
      R (.ok (.ret (.ref (s.heap.push { cls := .type "tuple_iterator", data := .fields #[.ref l, .int 0 0] }).objs.size)))
        { s with heap := (s.heap.push { cls := .type "tuple_iterator", data := .fields #[.ref l, .int 0 0] }).push { cls := .type "enumerate", data := .fields #[.none, .bool false, .ref s.heap.objs.size, rawInt 0, .none, .none] } }) :=
  .of_wp fun prog w A R s h => by
    obtain ⟨hp, g, d, tk, os⟩ := s; obtain ⟨hl, h⟩ := h
    have hsub := sub_enumerate
    have hL : Heap.IsTuple (Shared.heap ⟨hp, g, d, tk, os⟩) l items := ⟨_, hl, rfl, n, rfl⟩
    wp_walk using wpAny_loadPart' hl
    refine wpAny_stack_any fun st => wpAny_pure ?_
    split
    · rename_i c _ _ _ _ _
      cases (c == Value.type "enumerate")
      · wp_walk using wpAny_loadPart' hl, wpAny_pyIter_tuple hL
        exact ⟨_, rfl, h⟩
      · wp_walk using wpAny_loadPart' hl, wpAny_pyIter_tuple hL
        exact ⟨_, rfl, h⟩
    · wp_walk using wpAny_loadPart' hl, wpAny_pyIter_tuple hL
      exact ⟨_, rfl, h⟩
theorem call_enumerate_tuple {prog : Program} {w : World} {A : Around} {E : Value → Shared → Prop} {s : Shared} {l : Addr} {items : Array Value} {Q : Value → Shared → Prop} (hL : s.heap.IsTuple l items)
    (h : ∀ h', IsEnum h' (s.heap.objs.size + 1) s.heap.objs.size 0 .none → h'.IsTupleIter s.heap.objs.size l 0 → h'.objs.size = s.heap.objs.size + 2 →
      (∀ b o, s.heap.get? b = some o → h'.get? b = some o) → Q (.ref (s.heap.objs.size + 1)) { s with heap := h' }) :
    wpAny (model prog w) A (call (.type "enumerate") [.ref l]) Q E s := by
  obtain ⟨⟨c, dct, dt, sl⟩, hl, hc, n, hd⟩ := hL
  replace hc : c = .type "tuple" := hc
  replace hd : dt = .seq items n := hd
  subst hc hd
  refine callType_new F.called_enumerate (by decide) (F.typeCall_enumerate_1 _) (F.newCall_enumerate_1 _) (fun obj => F.args_object_init_2 obj _) F.entry_enumerate_new
    (meets_enumerate_newT l items n dct sl) ⟨hl, ?_⟩
  have hz : (s.heap.push { cls := .type "tuple_iterator", data := .fields #[.ref l, .int 0 0] }).objs.size = s.heap.objs.size + 1 := Heap.size_push ..
  show _ ∧ _
  rw [hz]
  have he : IsEnum ((s.heap.push { cls := .type "tuple_iterator", data := .fields #[.ref l, .int 0 0] }).push
      { cls := .type "enumerate", data := .fields #[.none, .bool false, .ref s.heap.objs.size, rawInt 0, .none, .none] }) (s.heap.objs.size + 1) s.heap.objs.size 0 .none := by
    have := Heap.get?_push_size (s.heap.push { cls := .type "tuple_iterator", data := .fields #[.ref l, .int 0 0] })
      (o := { cls := .type "enumerate", data := .fields #[.none, .bool false, .ref s.heap.objs.size, rawInt 0, .none, .none] }) rfl
    rw [hz] at this; exact this
  refine ⟨⟨_, he, rfl⟩, h _ he ⟨_, Heap.get?_push_of_some _ (Heap.get?_push_size _ rfl), rfl, rfl⟩ (by rw [Heap.size_push, hz]) fun b o x => Heap.get?_push_of_some _ (Heap.get?_push_of_some _ x)⟩
def IteT (K : PySem.W.Frag) (a : Addr) : It :=
  ⟨fun i H => ∃ (xs : List V) (x : V), SqT K H a xs ∧ xs[i]? = some x, fun i H v H' => ∃ T x, v = .ref T ∧ H T = none ∧ H' = upd H T (.tup [.int (i : Nat), x]) ∧ ∀ xs, SqT K H a xs → xs[i]? = some x, fun i H => ∃ xs : List V, SqT K H a xs ∧ xs.length ≤ i⟩
theorem turn_enumT {P : Program} {w : World} {K : PySem.W.Frag} {elts : List Expr} {kk : Nat} {tpos : Pos} (a e it : Addr) :
    Turn P w K (.Tuple elts kk tpos) (IteT K a) [e, it] e (fun i h => (∃ old, IsEnum h e it ((i : Nat) : Int) old) ∧ h.IsTupleIter it a i ∧ e ≠ it) where
  mem := by simp
  obj := fun i h st b hb => by
    obtain ⟨⟨old, he⟩, ⟨o, ho, hc, hd⟩, _⟩ := st
    have e' : b = e ∨ b = it := by simpa using hb
    rcases e' with z | z
    · rw [z]; exact ⟨_, he, fun v q => nomatch q⟩
    · rw [z]; exact ⟨o, ho, fun v q => by rw [hd] at q; cases q⟩
  keep := fun i h h' st k => let ⟨⟨old, he⟩, hi, hne⟩ := st; ⟨⟨old, k e (by simp) _ he⟩, hi.at fun o q => k it (by simp) o q, hne⟩
  item := by
    intro X hP hw hK hc i pins s σ H E I hf st hg
    subst hP hw hK
    obtain ⟨⟨old, he⟩, hit, hne⟩ := st
    obtain ⟨xs, x, hq, hx⟩ := hg
    obtain ⟨its, rv, p, hz⟩ := I.tuple hq
    obtain ⟨u, hu, ru⟩ := rv.get hx
    have hel : e < s.heap.objs.size := Heap.lt_size he
    have hil : it < s.heap.objs.size := by obtain ⟨_, q, _⟩ := hit; exact Heap.lt_size q
    have pT : s.heap.IsTuple a its.toArray := p
    have hae : e ≠ a := fun z => by
      obtain ⟨o, q, c, _⟩ := pT
      rw [← z, he] at q
      cases q
      exact absurd c (by simp)
    have hai : a ≠ it := fun z => by
      obtain ⟨o, q, c, _⟩ := pT
      obtain ⟨o', q', c', _⟩ := hit
      rw [z, q'] at q
      cases q
      rw [c'] at c
      exact absurd c (by simp)
    have hu' : its.toArray[i]? = some u := by simpa using hu
    have hil2 : i < its.toArray.size := (Array.getElem?_eq_some_iff.mp hu').1
    refine wpAny_pyNext_enum_itemD (Draws.tuple (A := X.A.in1) (by have := I.ok.hd hc; exact this) it a hai its.toArray) he ⟨hit, pT⟩ hil2 hne (by simp [hne, hae]) fun x' h' tk hx' ho hit' hT hsz hk => ?_
    rw [hu'] at hx'
    cases hx'
    refine ⟨_, rfl, wpAny_letOwnedTupleGo_enum (s := { s with heap := h', toks := tk + 1 }) ho fun h'' he' sb => ?_⟩
    have hT2 : h''.get? s.heap.objs.size = some { cls := .type "tuple", data := .seq #[.int i tk, u] } := (sb.2 _ (Nat.ne_of_gt hel)).trans hT
    have new : ObjOk X.prog X.w (upd H s.heap.objs.size (.tup [.int (i : Nat), x])) h'' s.heap.objs.size (.tup [.int (i : Nat), x]) :=
      ⟨by show 2 ≤ sizeLine; decide, [.int i tk, u], .cons ⟨_, rfl⟩ (.cons ru .nil), ⟨_, hT2, rfl, _, rfl⟩⟩
    have I1 : Inv X pins σ (upd H s.heap.objs.size (.tup [.int (i : Nat), x])) { s with heap := h'', toks := tk + 1 } :=
      I.turnedNew (ch := [e, it]) (fun b ob hb q => (sb.2 b (fun z => hb (by simp [z]))).trans (hk b ob (fun z => hb (by simp [z])) (fun z => hb (by simp [z])) q)) hf (Nat.le_refl _) new
    refine ⟨.ref s.heap.objs.size, _, I1, rfl, ⟨_, x, rfl, I.hok.fresh (Nat.le_refl _), rfl, fun ys hy => by rw [I.tuple_inj hy hq]; exact hx⟩, ⟨⟨u, ?_⟩, hit'.1.at fun o q => (sb.2 it (Ne.symm hne)).trans q, hne⟩, fun b hb => ?_⟩
    · have e1 : ((i + 1 : Nat) : Int) = (i : Int) + 1 := by omega
      rw [e1]; exact he'
    · have hb' : b < s.heap.objs.size := by
        have e' : b = e ∨ b = it := by simpa using hb
        rcases e' with z | z
        · rw [z]; exact hel
        · rw [z]; exact hil
      rw [upd_ne (Nat.ne_of_lt hb')]
      exact (hf b hb).1
  done := by
    intro X hP hw hK hc i pins s σ H E I hf st hg
    subst hP hw hK
    obtain ⟨⟨old, he⟩, hit, hne⟩ := st
    obtain ⟨xs, hq, hx⟩ := hg
    obtain ⟨its, rv, p, hz⟩ := I.tuple hq
    obtain ⟨f0, f1, f2, f3, f4, f5⟩ := hf it (by simp)
    have hl := rv.length
    have pT : s.heap.IsTuple a its.toArray := p
    have hai : a ≠ it := fun z => by
      obtain ⟨o, q, c, _⟩ := pT
      obtain ⟨o', q', c', _⟩ := hit
      rw [z, q'] at q
      cases q
      rw [c'] at c
      exact absurd c (by simp)
    have hx' : its.toArray[i]? = none := by simp; omega
    have hT : s.TypeIs (.ref e) "enumerate" := ⟨_, he, rfl⟩
    unfold pyNext
    refine wpAny_bind (wpAny_attempt (wpAny_callSpecial?_slot (name := Str.ofString "__next__") hT F.slot_enumerate_next
      (wpAny_call_entry F.slot_enumerate_next hT F.entry_enumerate_next ?_ (F.args_enumerate_next_1 _))))
    show wpAny _ _ (field (.ref e) 2 >>= _) _ _ _
    refine wpAny_bind (wpAny_field he rfl (x := .ref it) rfl ?_)
    refine wpAny_bind (wpAny_nextOf_tuple_end (show (Around.in1 X.A).handled = none from I.ok.hd hc) hit pT hx' fun h' x he' hx' => ?_)
    obtain ⟨o, ho, hc⟩ := hx'
    refine wpAny_bind (wpAny_isInstance (T := "StopIteration") (b := true) ⟨o, ho, hc⟩ isSubtype_stop ?_)
    exact wpAny_pure ⟨rfl, I.turned (t' := s.toks) (fun b o hb q => he' b o hb q) f0 f1 f3 f4 f5⟩
  self := fun A i s Q E st h => let ⟨⟨_, he⟩, _⟩ := st; wpAny_pyIter_enum he h
/-- enumerate of a list or of a tuple -/
def iEnumA (K : PySem.W.Frag) (ta : TA) : TI := fun σ H R => ta σ H fun vs H1 => ∃ a xs, vs = [.ref a] ∧ ((SqL K H1 a xs ∧ R (Ite K a) H1) ∨ (SqT K H1 a xs ∧ R (IteT K a) H1))
theorem pi_enumA {X : Cx} {e : Expr} {ta : TA} {p pos tpos : Pos} {elts : List Expr} {kk : Nat} (hg : Gl X "enumerate") (hm : X.mg "enumerate" = none) (ha : PA X [e] ta) (hs : starEach [e] X.env = [(false, eval e X.env)] := by rfl) :
    PI X (.Tuple elts kk tpos) (.Call (.Name "enumerate" p) [e] [] pos) (iEnumA X.K ta) := by
  refine ⟨fun pins s σ H R I h => ?_⟩
  refine Call_ (ld_blt I hg hm boot_enumerate (PyProof.Rows.callWith_type1 (thn (ha.run pos pins s σ H _ I h) fun us s1 ⟨vs, H1, I1, r1, q1⟩ => ?_) hs rfl))
  obtain ⟨a, xs, ex, q⟩ := q1
  subst ex
  cases r1 with
  | cons r rr =>
    cases rr
    cases r
    have fp2 : ∀ b, b ∈ [s1.heap.objs.size + 1, s1.heap.objs.size] → FpOk X pins H1 b := fun b hb => by
      have e' : b = s1.heap.objs.size + 1 ∨ b = s1.heap.objs.size := by simpa using hb
      have hle : s1.heap.objs.size ≤ b := by
        rcases e' with z | z
        · rw [z]; exact Nat.le_add_right _ _
        · rw [z]; exact Nat.le_refl _
      exact I1.fpOk hle (I1.hok.fresh hle)
    rcases q with ⟨hq, q⟩ | ⟨hq, q⟩
    · obtain ⟨its, rv, p', hz⟩ := I1.list hq
      refine call_enumerate_list p'.isList fun h' he hit hsz hk => wpAny_pyIter_enum he ?_
      have I2 : Inv X pins σ H1 { s1 with heap := h' } := I1.kept (t' := s1.toks) hk
      exact ⟨s1.heap.objs.size + 1, [s1.heap.objs.size + 1, s1.heap.objs.size], _, _, H1, rfl, I2, turn_enum a (s1.heap.objs.size + 1) s1.heap.objs.size, ⟨⟨.none, he⟩, hit, Nat.succ_ne_self _⟩, fp2, q⟩
    · obtain ⟨its, rv, p', hz⟩ := I1.tuple hq
      refine call_enumerate_tuple (show s1.heap.IsTuple a its.toArray from p') fun h' he hit hsz hk => wpAny_pyIter_enum he ?_
      have I2 : Inv X pins σ H1 { s1 with heap := h' } := I1.kept (t' := s1.toks) hk
      exact ⟨s1.heap.objs.size + 1, [s1.heap.objs.size + 1, s1.heap.objs.size], _, _, H1, rfl, I2, turn_enumT a (s1.heap.objs.size + 1) s1.heap.objs.size, ⟨⟨.none, he⟩, hit, Nat.succ_ne_self _⟩, fp2, q⟩
theorem walk_enumT {K : PySem.W.Frag} {a : Addr} {xs : List V} : Walk (IteT K a) xs.length (fun H => SqT K H a xs) (YPair (fun i => some (.int (i : Nat))) (fun i => xs[i]?)) := by
  refine ⟨fun i _ hi q => ⟨xs, xs[i], q, by simp [hi]⟩, fun _ q => ⟨xs, q, Nat.le_refl _⟩, fun i H v H' _ q y => ?_⟩
  obtain ⟨T, x, h1, h2, h3, h4⟩ := y
  exact ⟨T, .int (i : Nat), x, h1, h2, h3, rfl, h4 xs q⟩
def enumL (i : Nat) : List D → List D
  | [] => []
  | d :: ds => .tuple [.int (i : Nat), d] :: enumL (i + 1) ds
theorem enumL_length : ∀ (ds : List D) (i : Nat), (enumL i ds).length = ds.length
  | [], _ => rfl
  | d :: ds, i => by simp [enumL, enumL_length ds]
theorem enumL_get : ∀ {ds : List D} {i j : Nat} {d : D}, ds[j]? = some d → (enumL i ds)[j]? = some (.tuple [.int ((i + j : Nat) : Int), d])
  | d :: ds, i, 0, _, h => by simp at h; subst h; simp [enumL]
  | d :: ds, i, j + 1, _, h => by
    simp at h
    have := enumL_get (i := i + 1) h
    simp only [enumL, List.getElem?_cons_succ, this]
    rw [show i + 1 + j = i + (j + 1) by omega]
def mEnum (a : M) : MI := fun s => do
  let (rs, s1) ← mL [a] s
  let (ds, s2) ← tks rs s1
  match ds with
  | [.list xs] => .ok (enumL 0 xs, s2)
  | [.tuple xs] => .ok (enumL 0 xs, s2)
  | _ => .no
theorem yi_enum {K : PySem.W.Frag} {F : Hp} {ys : List D} {ws : List V} (h2 : Reps K F ys ws) {i : Nat} {H : Hp} {x : V} {H' : Hp} (y : YPair (fun i => some (.int (i : Nat))) (fun i => ws[i]?) i H x H') : Yi K F (enumL 0 ys) i H x H' := by
  obtain ⟨T, x1, y1, rfl, hT, rfl, e1, e2⟩ := y
  have hj : i < ws.length := (List.getElem?_eq_some_iff.mp e2).1
  have hj2 : i < ys.length := by rw [← Reps.length h2]; exact hj
  obtain ⟨w, q3, q4⟩ := h2.get (List.getElem?_eq_getElem hj2)
  rw [show ws[i]? = some y1 from e2] at q3
  cases q3
  cases e1
  refine ⟨_, enumL_get (List.getElem?_eq_getElem hj2), .inr ⟨T, _, _, rfl, hT, rfl, rfl, _, _, rfl, ?_, _, _, rfl, q4, rfl⟩⟩
  simp only [Rep, Nat.zero_add]
theorem si_enum {c : Cn} {e : Expr} {m : M} {p pos tpos : Pos} {elts : List Expr} {kk : Nat} (h : SA c [e] [m]) (hg : c.sc.names.lookup ("enumerate" : Str) = some .globalImplicit) (hm : c.mg ("enumerate" : Str) = none)
    (hs : ∀ env : Env, starEach [e] env = [(false, eval e env)] := by intro _; rfl) :
    SI c (.Tuple elts kk tpos) (.Call (.Name ("enumerate" : Str) p) [e] [] pos) (mEnum m) := fun X ok => ⟨fun pins s σ H R I q => by
  obtain ⟨g, s0, ds, s', Rl, hm', hq⟩ := q
  obtain ⟨⟨rs, s1⟩, e1, hm'⟩ := bind_ok hm'
  obtain ⟨⟨es, s2⟩, e3, hm'⟩ := bind_ok hm'
  refine (pi_enumA (p := p) (pos := pos) (gl_of ok hg) (by rw [ok.mg]; exact hm) (h X ok) (hs _)).run pins s σ H R I ⟨g, s0, rs, s1, Rl, e1, fun g1 vs H1 u1 R1 hv => ?_⟩
  obtain ⟨g2, u2, R2, z2⟩ := R1.tks hv e3
  match es, hm', z2 with
  | [.list xs], hm', z2 =>
    cases hm'
    obtain ⟨v, q, rfl, z, rfl⟩ := z2
    simp only [Rep] at z
    obtain ⟨a, vs, rfl, h1, h2⟩ := z
    refine ⟨a, vs, rfl, .inl ⟨sqx_l (sqx_sub R2.sub h1), hq g2 _ H1 (u1.trans u2) R2 ?_⟩⟩
    rw [enumL_length, ← Reps.length h2]
    exact walk_enum.mono (fun H2 e => sqx_l (sqx_sub e h1)) fun i H2 x H3 _ _ y => yi_enum h2 y
  | [.tuple xs], hm', z2 =>
    cases hm'
    obtain ⟨v, q, rfl, z, rfl⟩ := z2
    simp only [Rep] at z
    obtain ⟨a, vs, rfl, h1, h2⟩ := z
    refine ⟨a, vs, rfl, .inr ⟨sqt_sub R2.sub h1, hq g2 _ H1 (u1.trans u2) R2 ?_⟩⟩
    rw [enumL_length, ← Reps.length h2]
    exact walk_enumT.mono (fun H2 e => sqt_sub e h1) fun i H2 x H3 _ _ y => yi_enum h2 y⟩
end Yd

namespace Yd
open PySem PySem.Spec PyProof.Rows L2
/-! list comprehensions -/
theorem wipe_in {σ : L2.St} {j : Nat} : ∀ {vs : List Nat}, j ∈ vs → ∀ x, (wipe σ vs)[j]? ≠ some (some x)
  | v :: vs, h, x, e => by
    have := wipe_some e
    exact this.2 h
theorem wipe_inN {σ : L2.St} {j : Nat} : ∀ {vs : List Nat}, j ∈ vs → (wipe σ vs)[j]? = if j < σ.length then some none else none
  | v :: vs, h => by
    by_cases hl : j < σ.length
    · rw [if_pos hl]
      have hl' : j < (wipe σ (v :: vs)).length := by rw [wipe_length]; exact hl
      have e := List.getElem?_eq_getElem hl'
      cases hx : (wipe σ (v :: vs))[j] with
      | none => rw [e, hx]
      | some x => rw [hx] at e; exact absurd e (wipe_in h x)
    · rw [if_neg hl, List.getElem?_eq_none (by rw [wipe_length]; omega)]
theorem wipe_set {σ : L2.St} {i : Nat} {x : Option V} {vs : List Nat} (h : i ∈ vs) : wipe (σ.set i x) vs = wipe σ vs := by
  apply List.ext_getElem?
  intro j
  by_cases hj : j ∈ vs
  · rw [wipe_inN hj, wipe_inN hj, List.length_set]
  · rw [wipe_out hj, wipe_out hj, List.getElem?_set_ne]
    intro e
    exact hj (e ▸ h)
/-! the slots -/
theorem wipes_length (e : List Slot) : ∀ vs : List Nat, (wipes vs e).length = e.length
  | [] => rfl
  | v :: vs => by simp only [wipes, List.length_set, wipes_length e vs]
theorem wipes_get {e : List Slot} {i : Nat} {x : Slot} (hx : x ≠ .un) : ∀ {vs : List Nat}, (wipes vs e)[i]? = some x → e[i]? = some x ∧ i ∉ vs
  | [], h => ⟨h, by simp⟩
  | v :: vs, h => by
    simp only [wipes] at h
    rcases set_get h with ⟨_, z, _⟩ | ⟨ne, z⟩
    · exact absurd z hx
    · obtain ⟨h1, h2⟩ := wipes_get hx z
      exact ⟨h1, fun hm => by
        rcases List.mem_cons.mp hm with q | q
        · exact ne q.symm
        · exact h2 q⟩
theorem wipes_out {e : List Slot} {i : Nat} : ∀ {vs : List Nat}, i ∉ vs → (wipes vs e)[i]? = e[i]?
  | [], _ => rfl
  | v :: vs, h => by
    simp only [wipes]
    rw [List.getElem?_set_ne (fun z => h (by simp [z])), wipes_out fun z => h (by simp [z])]
theorem wipes_in {e : List Slot} {i : Nat} : ∀ {vs : List Nat}, i ∈ vs → i < e.length → (wipes vs e)[i]? = some .un
  | v :: vs, h, hl => by
    simp only [wipes]
    by_cases hv : v = i
    · subst hv
      rw [List.getElem?_set_self (by rw [wipes_length]; exact hl)]
    · rw [List.getElem?_set_ne hv]
      exact wipes_in (by rcases List.mem_cons.mp h with q | q; exact absurd q.symm hv; exact q) hl
theorem wipes_twice (e : List Slot) (vs : List Nat) : wipes vs (wipes vs e) = wipes vs e := by
  apply List.ext_getElem?
  intro j
  by_cases hj : j ∈ vs
  · by_cases hl : j < e.length
    · rw [wipes_in hj (by rw [wipes_length]; exact hl), wipes_in hj hl]
    · rw [List.getElem?_eq_none (by simp only [wipes_length]; omega), List.getElem?_eq_none (by simp only [wipes_length]; omega)]
  · rw [wipes_out hj]
theorem backs_length (e0 : List Slot) (e : List Slot) : ∀ vs : List Nat, (backs e0 vs e).length = e.length
  | [] => rfl
  | v :: vs => by
    simp only [backs]
    split <;> simp only [List.length_set, backs_length e0 e vs]
theorem backs_get {e0 e : List Slot} {i : Nat} {x : Slot} (hx : x ≠ .un) : ∀ {vs : List Nat}, (backs e0 vs e)[i]? = some x → (i ∈ vs ∧ e0[i]? = some x ∧ ∀ d, x ≠ .ow d) ∨ (e[i]? = some x ∧ (i ∉ vs ∨ e0[i]? = none))
  | [], h => .inr ⟨h, .inl (by simp)⟩
  | v :: vs, h => by
    have go : (backs e0 vs e)[i]? = some x → v ≠ i ∨ e0[i]? = none → (i ∈ v :: vs ∧ e0[i]? = some x ∧ ∀ d, x ≠ .ow d) ∨ (e[i]? = some x ∧ (i ∉ v :: vs ∨ e0[i]? = none)) := fun z ne => by
      rcases backs_get hx z with ⟨h1, h2, h3⟩ | ⟨h1, h2⟩
      · exact .inl ⟨List.mem_cons_of_mem _ h1, h2, h3⟩
      · refine .inr ⟨h1, ?_⟩
        rcases ne with ne | ne
        · rcases h2 with h2 | h2
          · exact .inl fun hm => by
              rcases List.mem_cons.mp hm with q | q
              · exact ne q.symm
              · exact h2 q
          · exact .inr h2
        · exact .inr ne
    simp only [backs] at h
    split at h
    · rcases set_get h with ⟨_, z, _⟩ | ⟨ne, z⟩
      · exact absurd z hx
      · exact go z (.inl ne)
    · rename_i y hy hne
      rcases set_get h with ⟨q, z, _⟩ | ⟨ne, z⟩
      · subst q
        subst z
        exact .inl ⟨by simp, hne, fun d hd => hy d hd⟩
      · exact go z (.inl ne)
    · rename_i hn
      by_cases hv : v = i
      · exact go h (.inr (hv ▸ hn))
      · exact go h (.inl hv)
section
variable {K : PySem.W.Frag} {g : Gh} {σ : L2.St} {H : Hp} {s : Sta}
theorem Rel.wiped (R : Rel K g σ H s) (vs : List Nat) : Rel K g (wipe σ vs) H { s with env := wipes vs s.env } := by
  refine ⟨R.sub, R.pr, by show (wipes vs s.env).length = _; rw [wipes_length, wipe_length]; exact R.len, fun i d h => ?_, fun i d h => ?_, fun i j d d' h1 h2 e => ?_, fun i h => ?_, R.cupN, R.cupV⟩
  · obtain ⟨h1, h2⟩ := wipes_get (by simp) h
    rw [wipe_out h2]
    exact R.sh i d h1
  · obtain ⟨h1, h2⟩ := wipes_get (by simp) h
    rw [wipe_out h2]
    exact R.ow i d h1
  · obtain ⟨h1, h3⟩ := wipes_get (by simp) h1
    obtain ⟨h2, h4⟩ := wipes_get (by simp) h2
    rw [wipe_out h3, wipe_out h4] at e
    exact R.sep i j d d' h1 h2 e
  · obtain ⟨h1, h2⟩ := wipes_get (by simp) h
    rw [wipe_out h2]
    exact R.cupS i h1
/-- back from a comprehension -/
theorem Rel.backed {g0 : Gh} {H0 : Hp} {s0 : Sta} {vs : List Nat} (R0 : Rel K g0 σ H0 s0) (R : Rel K g (wipe σ vs) H { s with env := wipes vs s.env }) (eF : Sub g0.F g.F) (eC : ∀ a, g0.cup = some a → g.cup = some a) : Rel K g σ H { s with env := backs s0.env vs s.env } := by
  have hl : s.env.length = σ.length := by
    have := R.len
    rw [wipe_length] at this
    rw [← this]
    show _ = (wipes vs s.env).length
    rw [wipes_length]
  have fromR : ∀ {i : Nat} {x : Slot}, s.env[i]? = some x → (i ∉ vs ∨ s0.env[i]? = none) → (wipes vs s.env)[i]? = some x ∧ (wipe σ vs)[i]? = σ[i]? := fun {i x} h1 h2 => by
    have hi : i ∉ vs := by
      rcases h2 with h2 | h2
      · exact h2
      · have := List.getElem?_eq_none_iff.mp h2
        rw [R0.len] at this
        have := (List.getElem?_eq_some_iff.mp h1).1
        omega
    exact ⟨by rw [wipes_out hi]; exact h1, wipe_out hi⟩
  refine ⟨R.sub, R.pr, by show (backs s0.env vs s.env).length = _; rw [backs_length]; exact hl, fun i d h => ?_, fun i d h => ?_, fun i j d d' h1 h2 e => ?_, fun i h => ?_, R.cupN, R.cupV⟩
  · rcases backs_get (by simp) h with ⟨h1, h2, h3⟩ | ⟨h1, h2⟩
    · obtain ⟨v, q1, q2⟩ := R0.sh i d h2
      exact ⟨v, q1, Rep.mono eF _ _ q2⟩
    · obtain ⟨q1, q2⟩ := fromR h1 h2
      rw [← q2]
      exact R.sh i d q1
  · rcases backs_get (by simp) h with ⟨h1, h2, h3⟩ | ⟨h1, h2⟩
    · exact absurd rfl (h3 d)
    · obtain ⟨q1, q2⟩ := fromR h1 h2
      rw [← q2]
      exact R.ow i d q1
  · rcases backs_get (by simp) h1 with ⟨_, _, h3⟩ | ⟨h1, k1⟩
    · exact absurd rfl (h3 d)
    · rcases backs_get (by simp) h2 with ⟨_, _, h3⟩ | ⟨h2, k2⟩
      · exact absurd rfl (h3 d')
      · obtain ⟨q1, q2⟩ := fromR h1 k1
        obtain ⟨q3, q4⟩ := fromR h2 k2
        rw [← q2, ← q4] at e
        exact R.sep i j d d' q1 q3 e
  · rcases backs_get (by simp) h with ⟨h1, h2, h3⟩ | ⟨h1, h2⟩
    · obtain ⟨a, q1, q2⟩ := R0.cupS i h2
      exact ⟨a, eC a q1, q2⟩
    · obtain ⟨q1, q2⟩ := fromR h1 h2
      rw [← q2]
      exact R.cupS i q1
/-- a new list is watched over -/
theorem Rel.watch (R : Rel K g σ H s) {D : Addr} {xs : List V} (hD : H D = none) : Rel K { g with pr := upd g.pr D (.lst xs) } σ (upd H D (.lst xs)) s := by
  obtain ⟨f1, f2, f3⟩ := R.fresh hD
  have R' := R.more (o := .lst xs) hD
  refine ⟨R'.sub, fun a o h => ?_, R'.len, R'.sh, fun i d h => ?_, R'.sep, R'.cupS, R'.cupN, R'.cupV⟩
  · by_cases ha : a = D
    · subst ha
      have h : upd g.pr a (.lst xs) a = some o := h
      rw [upd_same] at h
      cases h
      exact ⟨upd_same, f1, f3⟩
    · have h : upd g.pr D (.lst xs) a = some o := h
      rw [upd_ne ha] at h
      exact R'.pr a o h
  · obtain ⟨p, o, h1, h2, h3, h4, h5, h6⟩ := R.ow i d h
    have ne : p ≠ D := ne_of_none h4 hD
    exact ⟨p, o, h1, h2, by show upd g.pr D _ p = none; rw [upd_ne ne]; exact h3, by rw [upd_ne ne]; exact h4, h5, h6⟩
/-- .. grows -/
theorem Rel.watchPut (R : Rel K g σ H s) {D : Addr} {p0 : Hp} {xs ys : List V} (hp : g.pr = upd p0 D (.lst xs)) : Rel K { g with pr := upd p0 D (.lst ys) } σ (upd H D (.lst ys)) s := by
  have at_ : g.pr D = some (.lst xs) := by rw [hp]; exact upd_same
  obtain ⟨q1, q2, q3⟩ := R.pr D _ at_
  have nF : ∀ {a o}, g.F a = some o → a ≠ D := fun {a o} h z => by rw [z, q2] at h; cases h
  refine ⟨fun a o h => ?_, fun a o h => ?_, R.len, R.sh, fun i d h => ?_, R.sep, R.cupS, R.cupN, fun ds h => ?_⟩
  · rw [upd_ne (nF h)]
    exact R.sub a o h
  · by_cases ha : a = D
    · subst ha
      have h : upd p0 a (.lst ys) a = some o := h
      rw [upd_same] at h
      cases h
      exact ⟨upd_same, q2, q3⟩
    · have h : upd p0 D (.lst ys) a = some o := h
      rw [upd_ne ha] at h
      rw [upd_ne ha]
      exact R.pr a o (by rw [hp, upd_ne ha]; exact h)
  · obtain ⟨p, o, h1, h2, h3, h4, h5, h6⟩ := R.ow i d h
    have ne : p ≠ D := fun z => by rw [z, at_] at h3; cases h3
    refine ⟨p, o, h1, h2, ?_, by rw [upd_ne ne]; exact h4, h5, h6⟩
    show upd p0 D _ p = none
    rw [hp, upd_ne ne] at h3
    rw [upd_ne ne]
    exact h3
  · obtain ⟨a, ws, h1, h2, h3, h4⟩ := R.cupV ds h
    have ne : a ≠ D := fun z => q3 (by rw [h1, z])
    exact ⟨a, ws, h1, h2, by rw [upd_ne ne]; exact h3, h4⟩
end
/-! the block -/
def Cn.blk (c : Cn) (scope : Scope) : Cn := { c with sc := relS scope c.sc }
theorem Cn.Ok.blk {c : Cn} {X : Cx} (ok : c.Ok X) (scope : Scope) (s : Shared) (H : Hp) (C : Addr) (cl : List (Str × Addr)) (fp : List Addr) : (c.blk scope).Ok (X.blk s H scope (compEnvC scope cl C X.env) fp) :=
  ⟨ok.P, ok.w, ok.K, ok.mg, ok.base, ok.N, by show relS scope X.env.scope = relS scope c.sc; rw [ok.sc], ok.nd, ok.calm, ok.room, PassesOwn.never, ok.gd⟩
def Tgb (K : PySem.W.Frag) (vs : List Nat) (t : Tg) : TG := fun v σ H Q => ∃ g s d s', Rel K g σ H s ∧ Rep K g.F d v ∧ put t d s = .ok s' ∧ ∀ g' σ' H', Up g g' → Rel K g' σ' H' s' → wipe σ' vs = wipe σ vs → Q σ' H'
def Tgbn (K : PySem.W.Frag) (vs : List Nat) (ts : List Tg) : TGs := fun ws σ H Q => ∃ g s ds s', Rel K g σ H s ∧ Reps K g.F ds ws ∧ puts ts ds s = .ok s' ∧ ∀ g' σ' H', Up g g' → Rel K g' σ' H' s' → wipe σ' vs = wipe σ vs → Q σ' H'
def SGb (c : Cn) (scope : Scope) (vs : List Nat) (e : Expr) (t : Tg) : Prop := ∀ X, c.Ok X → (∀ x, scope.names.lookup x = some .cell → X.fn x = true) → PG X e (Tgb X.K vs t)
def SGbn (c : Cn) (scope : Scope) (vs : List Nat) (es : List Expr) (ts : List Tg) : Prop := ∀ X, c.Ok X → (∀ x, scope.names.lookup x = some .cell → X.fn x = true) → PGs X es (Tgbn X.K vs ts)
def STL (c : Cn) (es : List Expr) (t : MT) : Prop := ∀ X, c.Ok X → PTs X es (Tt X.K t)
section
variable {c : Cn} {scope : Scope} {vs : List Nat}
def locB (sc scope : Scope) (x : Str) : Bool := decide (sc.names.lookup x = some .local) || (decide (sc.names.lookup x = some .cell) && decide (scope.names.lookup x = some .cell))
theorem sgb_nm {i : Nat} {x : Str} {pos : Pos} (hN : c.N[i]? = some x) (hx : locB c.sc scope x = true) (hi : i ∈ vs) : SGb c scope vs (.Name x pos) (.nm i) := fun X ok hf => by
  have hx' : c.sc.names.lookup x = some .local ∨ (c.sc.names.lookup x = some .cell ∧ scope.names.lookup x = some .cell) := by simpa [locB] using hx
  refine (pg_name (X := X) (i := i) (by rw [ok.N]; exact ok.nd) (by rw [ok.N]; exact hN) (by rw [ok.sc]; exact hx'.imp id And.left) (by
    rcases hx' with h | h
    · exact .inr (by rw [ok.sc]; exact h)
    · exact .inl (hf x h.2))).pre fun v σ H Q q => ?_
  obtain ⟨g, s, d, s', R, hv, hp, hq⟩ := q
  simp only [put] at hp
  cases hp
  exact hq g _ H (.refl g) (R.setSh hv) (wipe_set hi)
theorem sgbn_nil : SGbn c scope vs [] [] := fun X ok hf => pgs_nil.pre fun ws σ H Q q => by
  obtain ⟨g, s, ds, s', R, hv, hp, hq⟩ := q
  cases ds with
  | nil =>
    simp only [puts] at hp
    cases hp
    simp only [Reps] at hv
    exact ⟨hv, hq g _ H (.refl g) R rfl⟩
  | cons d ds => simp only [puts] at hp; cases hp
theorem sgbn_cons {e : Expr} {es : List Expr} {t : Tg} {ts : List Tg} (h1 : SGb c scope vs e t) (h2 : SGbn c scope vs es ts)
    (hs : ∀ env : Env, (assignEach (e :: es) env).map (·.2) = assign e env :: (assignEach es env).map (·.2) := by intro _; rfl) : SGbn c scope vs (e :: es) (t :: ts) := fun X ok hf => (pgs_cons (h1 X ok hf) (h2 X ok hf) (hs _)).pre fun ws σ H Q q => by
  obtain ⟨g, s, ds, s', R, hv, hp, hq⟩ := q
  cases ds with
  | nil => simp only [puts] at hp; cases hp
  | cons d ds =>
    simp only [puts] at hp
    obtain ⟨s1, e1, hp⟩ := bind_ok hp
    simp only [Reps] at hv
    obtain ⟨v, r, rfl, hv1, hv2⟩ := hv
    refine ⟨v, r, rfl, g, s, d, s1, R, hv1, e1, fun g1 σ1 H1 u1 R1 w1 => ?_⟩
    exact ⟨g1, s1, ds, s', R1, Reps.mono u1.s _ _ hv2, hp, fun g2 σ2 H2 u2 R2 w2 => hq g2 σ2 H2 (u1.trans u2) R2 (w2.trans w1)⟩
theorem puts_len : ∀ {ts : List Tg} {ds : List D} {s s' : Sta}, puts ts ds s = .ok s' → ds.length = ts.length
  | [], [], _, _, _ => rfl
  | [], d :: ds, s, s', h => by simp only [puts] at h; cases h
  | t :: ts, [], s, s', h => by simp only [puts] at h; cases h
  | t :: ts, d :: ds, s, s', h => by
    simp only [puts] at h
    obtain ⟨s1, e1, h⟩ := bind_ok h
    simp only [List.length_cons, puts_len h]
theorem sgb_tp {es : List Expr} {ts : List Tg} {k : Nat} {pos : Pos} (h : SGbn c scope vs es ts) (hn : ∀ env : Env, (assignEach es env).length = ts.length := by intro _; rfl) (hst : ∀ env : Env, (assignEach es env).findIdx? (·.1) = none := by intro _; rfl) : SGb c scope vs (.Tuple es k pos) (.tp ts) := fun X ok hf =>
  (pg_tup ok.calm (h X ok hf) (hn _) (hst _)).pre fun v σ H Q q => by
    obtain ⟨g, s, d, s', R, hv, hp, hq⟩ := q
    cases d with
    | tuple ds =>
      simp only [put] at hp
      simp only [Rep] at hv
      obtain ⟨a, vs, rfl, hT, hr⟩ := hv
      refine ⟨a, vs, rfl, sqt_sub R.sub hT, ?_, g, s, ds, s', R, hr, hp, hq⟩
      rw [Reps.length hr]
      exact puts_len hp
    | _ => simp only [put] at hp; cases hp
theorem _root_.L2.PTs.pre {X : Cx} {e : List Expr} {t t' : TT} (h : PTs X e t) (i : ∀ σ H Q, t' σ H Q → t σ H Q) : PTs X e t' := ⟨fun pins s σ H Q I q => h.run pins s σ H Q I (i σ H Q q)⟩
theorem stl_nil : STL c [] cYes := fun X ok => pts_nil.pre fun σ H Q q => by
  obtain ⟨g, s, b, s', R, hm, hq⟩ := q
  cases hm
  exact hq g H (.refl g) R
theorem stl_one {e : Expr} {t : MT} (h : STs c e t) : STL c [e] t := fun X ok => pts_one (h X ok)
end
theorem wipe_twice (σ : L2.St) (vs : List Nat) : wipe (wipe σ vs) vs = wipe σ vs := by
  apply List.ext_getElem?
  intro j
  by_cases hj : j ∈ vs
  · rw [wipe_inN hj, wipe_inN hj, wipe_length]
  · rw [wipe_out hj]
theorem Reps.len' {K : PySem.W.Frag} {F : Hp} {ds : List D} {vs : List V} (h : Reps K F ds vs) : vs.length = ds.length := Reps.length h
theorem t_lc {K : PySem.W.Frag} {vs : List Nat} {t : Tg} {mi : MI} {cm : MT} {m : M} {σ : L2.St} {H : Hp} {Q : VK} (h : T K (mLc vs t mi cm m) σ H Q) : tLc (Ti K mi) (Tgb K vs t) (Tt K cm) (T K m) vs σ H Q := by
  obtain ⟨g, s, r, s', R, hm, hq⟩ := h
  obtain ⟨⟨ds, s1⟩, e1, hm⟩ := bind_ok hm
  obtain ⟨_, hg, hm⟩ := bind_ok hm
  have hlim := guard_ok hg
  simp only [decide_eq_true_eq] at hlim
  obtain ⟨⟨accF, sF⟩, e2, hm⟩ := bind_ok hm
  cases hm
  refine ⟨g, s, ds, s1, R, e1, fun g1 J H1 u1 R1 w L hD => ?_⟩
  obtain ⟨f1, f2, f3⟩ := R1.fresh hD
  have W0 := (R1.wiped vs).watch (xs := []) hD
  refine lc_it w (fun i H => ∃ (g2 : Gh) (s2 : Sta) (acc : List D) (va : List V), g2.pr = upd g1.pr L (.lst va) ∧ Sub g1.F g2.F ∧ (∀ a, g1.cup = some a → g2.cup = some a) ∧ Rel K g2 (wipe σ vs) H { s2 with env := wipes vs s2.env } ∧ Reps K g2.F acc va ∧ va.length ≤ i ∧ lcL vs t cm m (ds.drop i) acc s2 = .ok (accF, sF))
    ⟨{ g1 with pr := upd g1.pr L (.lst []) }, s1, [], [], rfl, Sub.refl g1.F, fun _ h => h, W0, rfl, Nat.le_refl _, e2⟩ (fun i H2 _ z => ?_) (fun i x H2 H3 hi z y => ?_) fun H2 z => ?_
  · obtain ⟨g2, s2, acc, va, hp, hF, hC, R2, ha, hl, e⟩ := z
    exact hF.trans R2.sub
  · obtain ⟨g2, s2, acc, va, hp, hF, hC, R2, ha, hl, e⟩ := z
    obtain ⟨g3, d, hd, u3, R3, rx⟩ := R2.turn hF y
    rw [drop_at hd] at e
    simp only [lcL] at e
    obtain ⟨s4, e4, e⟩ := bind_ok e
    obtain ⟨⟨k, s5⟩, e5, e⟩ := bind_ok e
    refine ⟨g3, _, d, s4, R3, rx, e4, fun g4 σ4 H4 u4 R4 w4 => ⟨by rw [w4]; rw [wipe_twice], g4, s4, k, s5, R4, e5, fun g5 H5 u5 R5 => ?_⟩⟩
    have U : Up g2 g5 := u3.trans (u4.trans u5)
    have w4' : wipe σ4 vs = wipe σ vs := by rw [w4]; rw [wipe_twice]
    cases k with
    | false =>
      simp only [Bool.false_eq_true, if_false] at e ⊢
      have R6 := R5.wiped vs
      rw [w4'] at R6
      exact ⟨g5, { s5 with env := wipes vs s5.env }, acc, va, by rw [U.p, hp], hF.trans U.s, fun a h => U.c a (hC a h), by rw [show ({ env := wipes vs ({ s5 with env := wipes vs s5.env } : Sta).env, cup := ({ s5 with env := wipes vs s5.env } : Sta).cup } : Sta) = { s5 with env := wipes vs s5.env } by simp only [wipes_twice]]; exact R6, Reps.mono U.s _ _ ha, by omega, e⟩
    | true =>
      simp only [if_true] at e ⊢
      obtain ⟨⟨r6, s6⟩, e6, e⟩ := bind_ok e
      obtain ⟨⟨x7, s7⟩, e7, e⟩ := bind_ok e
      refine ⟨g5, s5, r6, s6, R5, e6, fun g6 v6 H6 u6 R6 hv => ?_⟩
      obtain ⟨g7, u7, R7, z7⟩ := R6.z hv
      obtain ⟨g8, u8, R8, z8⟩ := R7.tk z7 e7
      have V : Up g2 g8 := U.trans (u6.trans (u7.trans u8))
      have hp8 : g8.pr = upd g1.pr L (.lst va) := by rw [V.p, hp]
      have at_ : H6 L = some (.lst va) := (R8.pr L _ (by rw [hp8]; exact upd_same)).1
      refine ⟨va, at_, ?_, ?_⟩
      · have : lim < sizeLine := by decide
        omega
      have R9 := (R8.wiped vs).watchPut (ys := va ++ [v6]) hp8
      rw [w4'] at R9
      refine ⟨{ g8 with pr := upd g1.pr L (.lst (va ++ [v6])) }, { s7 with env := wipes vs s7.env }, acc ++ [x7], va ++ [v6], rfl, hF.trans V.s, fun a h => V.c a (hC a h), by rw [show ({ env := wipes vs ({ s7 with env := wipes vs s7.env } : Sta).env, cup := ({ s7 with env := wipes vs s7.env } : Sta).cup } : Sta) = { s7 with env := wipes vs s7.env } by simp only [wipes_twice]]; exact R9, ?_, ?_, e⟩
      · exact (Reps.mono V.s _ _ ha).append ⟨_, _, rfl, z8, rfl⟩
      · simp; omega
  · obtain ⟨g2, s2, acc, va, hp, hF, hC, R2, ha, hl, e⟩ := z
    rw [List.drop_length] at e
    simp only [lcL] at e
    cases e
    have hD2 := R2.pr L _ (by rw [hp]; exact upd_same)
    have R3 : Rel K { g2 with pr := g1.pr } (wipe σ vs) H2 { sF with env := wipes vs sF.env } := by
      refine ⟨R2.sub, fun a o h => ?_, R2.len, R2.sh, fun i d h => ?_, R2.sep, R2.cupS, R2.cupN, R2.cupV⟩
      · refine R2.pr a o ?_
        rw [hp, upd_ne (ne_of_none h f2)]
        exact h
      · obtain ⟨p, o, h1, h2, h3, h4, h5, h6⟩ := R2.ow i d h
        refine ⟨p, o, h1, h2, ?_, h4, h5, h6⟩
        rw [hp] at h3
        by_cases q : p = L
        · rw [q, upd_same] at h3; cases h3
        · rw [upd_ne q] at h3; exact h3
    have R4 := Rel.backed R1 R3 hF hC
    refine hq { g2 with pr := g1.pr } (.ref L) H2 (u1.trans ⟨rfl, hC, hF⟩) R4 ⟨L, .lst va, rfl, hD2.2.1, f2, hD2.1, ?_, hD2.2.2, fun i d' hi z => ?_⟩
    · exact ⟨va, rfl, ha⟩
    · rcases backs_get (by simp) hi with ⟨_, _, q⟩ | ⟨q1, q2⟩
      · exact absurd rfl (q d')
      · have hi2 : i ∉ vs := by
          rcases q2 with q2 | q2
          · exact q2
          · have := List.getElem?_eq_none_iff.mp q2
            rw [R1.len] at this
            have := (List.getElem?_eq_some_iff.mp z).1
            omega
        obtain ⟨p, o, h1, h2, h3, h4, h5, h6⟩ := R2.ow i d' (by show (wipes vs _)[i]? = _; rw [wipes_out hi2]; exact q1)
        rw [wipe_out hi2, z] at h1
        cases h1
        rw [hp, upd_same] at h3
        cases h3
section
variable {c : Cn}
theorem blk_fn {X : Cx} {scope : Scope} {s : Shared} {H : Hp} {ce : Env} {fp : List Addr} : ∀ x, scope.names.lookup x = some .cell → (X.blk s H scope ce fp).fn x = true := fun x h => by
  show (scope.names.lookup x == some .cell) = true
  rw [h]; rfl
theorem se_lc {elt tg it : Expr} {ifs : List Expr} {scope : Scope} {pos : Pos} {mi : MI} {t : Tg} {cm : MT} {m : M} (own : List (Str × Nat)) (hi : SI c tg it mi) (hB : blkC c.N c.sc scope own = true) (hg : SGb (c.blk scope) scope (own.map (·.2)) tg t) (ht : STL (c.blk scope) ifs cm) (he : SE (c.blk scope) elt m)
    (hs : ∀ (env : Env) (x : Value), foldedSetIterable it env x = pure x := by intro _ _; rfl) : SE c (.ListComp elt [⟨tg, it, ifs, 0⟩] scope pos) (mLc (own.map (·.2)) t mi cm m) := fun X ok =>
  (pe_lc ok.calm (by rw [ok.N]; exact ok.nd) (hi X ok) (by rw [ok.N, ok.sc]; exact blkOk_by hB) (fun s H C cl fp => hg _ (ok.blk scope s H C cl fp) blk_fn) (fun s H C cl fp => ht _ (ok.blk scope s H C cl fp)) (fun s H C cl fp => he _ (ok.blk scope s H C cl fp)) (hs _)).pre fun σ H Q q => t_lc q
theorem ps_lc {i : Nat} {y : Str} {py : Pos} {elt tg it : Expr} {ifs : List Expr} {scope : Scope} {pos spos : Pos} {mi : MI} {t : Tg} {cm : MT} {m : M} (own : List (Str × Nat)) {X : Cx} (ok : c.Ok X) (hN : c.N[i]? = some y) (hx : c.sc.names.lookup y = some .local) (hk : c.sc.kind = .function) (hl : (py.line == pos.line) = true)
    (ha : (scope.names.any fun (n, k) => n == y && (k == .local || k == .cell)) = false) (hi : SI c tg it mi) (hB : blkC c.N c.sc scope own = true) (hg : SGb (c.blk scope) scope (own.map (·.2)) tg t) (ht : STL (c.blk scope) ifs cm) (he : SE (c.blk scope) elt m)
    (hs : ∀ (env : Env) (x : Value), foldedSetIterable it env x = pure x := by intro _ _; rfl) : PS X (.Assign [.Name y py] (.ListComp elt [⟨tg, it, ifs, 0⟩] scope pos) spos) (tAsg (T X.K (mLc (own.map (·.2)) t mi cm m)) (gName i)) :=
  (ps_setLc (X := X) (i := i) ok.calm (by rw [ok.N]; exact ok.nd) (by rw [ok.N]; exact hN) (by rw [ok.sc]; exact hx) (sw_true (by rw [ok.sc]; exact hk) (by rw [ok.sc]; exact hx) hl ha) (hi X ok) (by rw [ok.N, ok.sc]; exact blkOk_by hB) (fun s H C cl fp => hg _ (ok.blk scope s H C cl fp) blk_fn) (fun s H C cl fp => ht _ (ok.blk scope s H C cl fp)) (fun s H C cl fp => he _ (ok.blk scope s H C cl fp)) (hs _)).pre fun D σ H q => t_lc q
/-- name = [..] on one line -/
theorem ss_setLc {i : Nat} {y : Str} {py : Pos} {elt tg it : Expr} {ifs : List Expr} {scope : Scope} {pos spos : Pos} {mi : MI} {t : Tg} {cm : MT} {m : M} (own : List (Str × Nat)) (hN : c.N[i]? = some y) (hx : c.sc.names.lookup y = some .local) (hk : c.sc.kind = .function) (hl : (py.line == pos.line) = true)
    (ha : (scope.names.any fun (n, k) => n == y && (k == .local || k == .cell)) = false) (hi : SI c tg it mi) (hB : blkC c.N c.sc scope own = true) (hg : SGb (c.blk scope) scope (own.map (·.2)) tg t) (ht : STL (c.blk scope) ifs cm) (he : SE (c.blk scope) elt m)
    (hs : ∀ (env : Env) (x : Value), foldedSetIterable it env x = pure x := by intro _ _; rfl) : SS c (.Assign [.Name y py] (.ListComp elt [⟨tg, it, ifs, 0⟩] scope pos) spos) (sSet (.nm i) (mLc (own.map (·.2)) t mi cm m)) := fun X ok hf =>
  (ps_lc own ok hN hx hk hl ha hi hB hg ht he hs).pre fun D σ H q => t_set q
theorem ss_ownLc {i : Nat} {y : Str} {py : Pos} {elt tg it : Expr} {ifs : List Expr} {scope : Scope} {pos spos : Pos} {mi : MI} {t : Tg} {cm : MT} {m : M} (own : List (Str × Nat)) (hN : c.N[i]? = some y) (hx : c.sc.names.lookup y = some .local) (hk : c.sc.kind = .function) (hl : (py.line == pos.line) = true)
    (ha : (scope.names.any fun (n, k) => n == y && (k == .local || k == .cell)) = false) (hi : SI c tg it mi) (hB : blkC c.N c.sc scope own = true) (hg : SGb (c.blk scope) scope (own.map (·.2)) tg t) (ht : STL (c.blk scope) ifs cm) (he : SE (c.blk scope) elt m)
    (hs : ∀ (env : Env) (x : Value), foldedSetIterable it env x = pure x := by intro _ _; rfl) : SS c (.Assign [.Name y py] (.ListComp elt [⟨tg, it, ifs, 0⟩] scope pos) spos) (sOwn i (mLc (own.map (·.2)) t mi cm m)) := fun X ok hf =>
  (ps_lc own ok hN hx hk hl ha hi hB hg ht he hs).pre fun D σ H q => t_own q
end
end Yd

namespace Yd
open PySem PySem.Spec PyProof.Rows L2
/-! sorted of a list or a tuple of data -/
theorem collect_tuple {prog : Program} {w : World} {A : Around} {E : Value → Shared → Prop} {s : Shared} {l : Addr} {vs : List Value} {Q : List Value → Shared → Prop} (hl : s.heap.IsTuple l vs.toArray)
    (h : Q vs { s with heap := (s.heap.push (seqObj "list" #[] 0)).update s.heap.objs.size (Obj.mapSeq (· ++ vs.toArray)) }) (hsz : vs.length ≤ sizeLine) :
    wpAny (model prog w) A (collect (.ref l)) Q E s := by
  obtain ⟨o, ho, hc, n, hd⟩ := id hl
  unfold collect
  refine wpAny_bind (wpAny_runValue (codeAny_builtin entry_proto_collect' ?_))
  show wpAny _ _ (do again (.builtin "list.__iadd__" ⟨[← newList [], .ref l], []⟩)) _ _ s
  refine wpAny_bind (wpAny_newList (wpAny_pure ⟨Code.quiet_builtin _ (by decide +kernel), codeAny_builtin entry_list_iadd' ?_⟩))
  show wpAny _ _ (Builtin.List.listExtendWith (.ref s.heap.objs.size) (.ref l) (.ref s.heap.objs.size)) _ _ { s with heap := s.heap.push (seqObj "list" #[] 0) }
  unfold Builtin.List.listExtendWith
  have ho' : (s.heap.push (seqObj "list" #[] 0)).get? l = some o := Heap.get?_push_of_some _ ho
  refine wpAny_bind (wpAny_typeOf (T := "tuple") ⟨o, ho', hc⟩ ?_)
  have ht : (Value.type "tuple" == Value.type "tuple") = true := by rfl
  rw [if_pos (by rw [ht]; simp)]
  refine wpAny_bind (listItems_at ho' hd ?_)
  refine wpAny_bind (listItems_at (xs := #[]) (n := 0) (Heap.get?_push_size _ rfl) rfl ?_)
  rw [if_neg (by simp)]
  refine wpAny_bind (listUpdate_at (xs := #[]) (n := 0) (Heap.get?_push_size _ rfl) rfl ?_ (Nat.zero_le _) (by show (#[] ++ vs.toArray).size ≤ sizeLine + 1; simp only [Array.size_append, List.size_toArray, List.length_nil]; omega))
  refine wpAny_pure ?_
  show wpAny (model prog w) A (do
      let o ← load s.heap.objs.size
      match o.data with
      | .seq xs _ => pure xs.toList
      | _ => unsupported "internal:collect") Q E { s with heap := (s.heap.push (seqObj "list" #[] 0)).update s.heap.objs.size (Obj.mapSeq (· ++ vs.toArray)) }
  refine wpAny_bind (wpAny_load (get?_update_seq (Heap.get?_push_size _ rfl) _) ?_)
  show wpAny _ _ (pure ((#[] : Array Value) ++ vs.toArray).toList) Q E _
  rw [show ((#[] : Array Value) ++ vs.toArray).toList = vs by simp]
  exact wpAny_pure h
open PySem.W PySem.Calls in
theorem sorted_tuple {prog : Program} {w : World} {A : Around} {E : Value → Shared → Prop} {s : Shared} {β : Type} {vs : List Value} {bs : List β} {enc : β → PyData} {R : Value → β → Prop} {l : Addr} {Q : Value → Shared → Prop} (hl : s.heap.IsTuple l vs.toArray) (e : EachIs R vs bs) (er : EachIs (fun v b => ∃ as, Reads s.heap v (enc b) as) vs bs) (hal : AllAlike (bs.map enc)) (hk : Sortable (bs.map enc)) (hL : bs.length ≤ sizeLine)
    (hu : ∀ b, b ∈ bs → A.units + 2 + (enc b).depth < cLine) (h : ∀ out, out.length = bs.length → EachIs R out (bs.mergeSort (dataLe false enc)) → Q (.ref (s.heap.objs.size + 1)) { s with heap := sortedAll s.heap vs (List.toArray out) }) :
    wpAny (model prog w) A (call (.builtin "sorted") [.ref l]) Q E s := by
  have er' : EachIs (fun v b => ∃ as, Reads (sortingHeap (copyHeap s.heap vs) (s.heap.objs.size + 1) vs) v (enc b) as) vs bs := er.mono fun _ _ ⟨as, r⟩ => ⟨as, PyProof.Rows.Reads.keeps (fun _ _ => sorting_copy_old) r⟩
  have hL' : vs.length ≤ sizeLine := by rw [e.length]; exact hL
  have S := (SortsAt.data (prog := prog) (w := w) (A := A.in1.in1) (s := { s with heap := sortingHeap (copyHeap s.heap vs) (s.heap.objs.size + 1) vs }) (each_map (R := fun v d => ∃ as, Reads (sortingHeap (copyHeap s.heap vs) (s.heap.objs.size + 1) vs) v d as) enc er') hal hk (bound_map hu))
  refine call_function_entry_kw kind_sorted plain_sorted entry_sorted (args_sorted1 _) ?_
  unfold Builtin.«sorted»
  refine wpAny_bind (m := checkCount "sorted" 1 1 _) (wpAny_pure ?_)
  refine wpAny_bind (collect_tuple hl ?_ hL')
  refine wpAny_bind (wpAny_newList ?_ hL')
  have hsz : ((s.heap.push (seqObj "list" #[] 0)).update s.heap.objs.size (Obj.mapSeq (· ++ vs.toArray))).objs.size = s.heap.objs.size + 1 := by
    rw [Heap.size_update, size_push']
  show wpAny _ _ _ _ _ { s with heap := copyHeap s.heap vs }
  rw [hsz]
  refine wpAny_bind (wpAny_holding (wpAny_call_entry_kw slot_list_sort ⟨_, copyHeap_at s.heap vs, rfl⟩ entry_list_sort ?body (args_list_sort _)))
  case body =>
    show wpAny (model prog w) A.in1.in1 (Builtin.«list.sort» ⟨[.ref (s.heap.objs.size + 1)], []⟩) _ _ _
    refine list_sort_vals (s := { s with heap := copyHeap s.heap vs }) (copyHeap_at s.heap vs) S hL' ?_
    exact ⟨_, rfl, wpAny_pure ⟨_, rfl, h _ (by rw [sortVals_length false rfl]; exact e.length) (sortVals_data false e er' hal)⟩⟩
/-! over data -/
def pairUp : List V → List D → List (V × D)
  | v :: vs, d :: ds => (v, d) :: pairUp vs ds
  | _, _ => []
theorem pairUp_snd : ∀ {vs : List V} {ds : List D}, vs.length = ds.length → (pairUp vs ds).map Prod.snd = ds
  | [], [], _ => rfl
  | [], _ :: _, h => by simp at h
  | _ :: _, [], h => by simp at h
  | v :: vs, d :: ds, h => by simp [pairUp, pairUp_snd (vs := vs) (ds := ds) (by simpa using h)]
theorem Reps.mem_pair {K : PySem.W.Frag} {F : Hp} : ∀ {ds : List D} {vs : List V}, Reps K F ds vs → ∀ p ∈ pairUp vs ds, Rep K F p.2 p.1
  | [], vs, h, p, hp => by
    simp only [Reps] at h
    subst h
    simp [pairUp] at hp
  | d :: ds, vs, h, p, hp => by
    simp only [Reps] at h
    obtain ⟨v, r, rfl, h1, h2⟩ := h
    rcases List.mem_cons.mp hp with q | q
    · rw [q]; exact h1
    · exact Reps.mem_pair h2 p q
theorem Reps.of_pairs {K : PySem.W.Frag} {F : Hp} : ∀ {l : List (V × D)}, (∀ p ∈ l, Rep K F p.2 p.1) → Reps K F (l.map Prod.snd) (l.map Prod.fst)
  | [], _ => by simp only [List.map, Reps]
  | p :: l, h => by
    simp only [List.map, Reps]
    exact ⟨_, _, rfl, h p (by simp), Reps.of_pairs fun q hq => h q (by simp [hq])⟩
def sortOk (xs : List D) : Bool :=
  (xs.all fun a => xs.all fun b => PySem.W.alike a b) && xs.all okD && decide (xs.length ≤ lim) &&
    ((xs.all fun d => match d with | .tuple (_ :: _) => true | _ => false) || (xs.all fun d => match d with | .none => false | .tuple _ => false | _ => true))
def sortD (xs : List D) : List D := xs.mergeSort (PySem.W.dataLe false id)
theorem sortOk_al {xs : List D} (h : sortOk xs = true) : PySem.W.AllAlike xs ∧ PySem.W.Sortable xs ∧ (∀ d ∈ xs, okD d = true) ∧ xs.length ≤ lim := by
  simp only [sortOk, Bool.and_eq_true, Bool.or_eq_true, List.all_eq_true, decide_eq_true_eq] at h
  obtain ⟨⟨⟨h1, h2⟩, h3⟩, h4⟩ := h
  refine ⟨fun d hd d' hd' => h1 d hd d' hd', ?_, h2, h3⟩
  rcases h4 with h4 | h4
  · refine .inl fun d hd => ?_
    have := h4 d hd
    split at this
    · exact ⟨_, _, rfl⟩
    · cases this
  · refine .inr fun d hd => ?_
    have := h4 d hd
    split at this
    · cases this
    · cases this
    · rename_i n1 n2
      exact ⟨n1, n2⟩
theorem valsPair : ∀ {vs : List V} {us : List Value} {ds : List D}, Vals vs us → vs.length = ds.length → PySem.W.EachIs (fun u (p : V × D) => RelV p.1 u ∧ p ∈ pairUp vs ds) us (pairUp vs ds)
  | _, _, [], .nil, _ => .nil
  | _, _, _ :: _, .nil, h => by simp at h
  | _, _, [], .cons _ _, h => by simp at h
  | _, _, d :: ds, .cons r rr, h => by
    refine .cons ⟨r, by simp [pairUp]⟩ ?_
    exact (valsPair rr (by simpa using h)).mono fun u p ⟨h1, h2⟩ => ⟨h1, by simp [pairUp, h2]⟩
theorem vals_of_each : ∀ {us : List Value} {l : List (V × D)}, PySem.W.EachIs (fun u (p : V × D) => RelV p.1 u) us l → Vals (l.map Prod.fst) us
  | _, _, .nil => .nil
  | _, _, .cons h r => .cons h (vals_of_each r)
def rSortD (K : PySem.W.Frag) : List V → Hp → VK → Prop := fun xs H Q => ∃ a ds vs, xs = [.ref a] ∧ vs.length = ds.length ∧ (SqL K H a vs ∨ SqT K H a vs) ∧ (∀ p ∈ pairUp vs ds, Dp K H p.1 p.2) ∧ sortOk ds = true ∧
  ∀ p, H p = none → Q (.ref p) (upd H p (.lst (((pairUp vs ds).mergeSort (PySem.W.dataLe false Prod.snd)).map Prod.fst)))
theorem cr_sortD {X : Cx} (hu : X.A.units + 64 < cLine) : CallR X (.builtin "sorted") (rSortD X.K) := by
  intro pins s σ H xs us Q I r h
  obtain ⟨a, ds, vs, rfl, hlen, hseq, hdp, hok, q⟩ := h
  rw [Vals.ref1 r]
  obtain ⟨hal, hso, hd, hlim⟩ := sortOk_al hok
  have hm : (pairUp vs ds).map Prod.snd = ds := pairUp_snd hlen
  have hpl : (pairUp vs ds).length = ds.length := by rw [← List.length_map (f := Prod.snd), hm]
  have hL : (pairUp vs ds).length ≤ sizeLine := by
    rw [hpl]
    exact Nat.le_trans hlim (by decide)
  have hu' : ∀ b, b ∈ pairUp vs ds → X.A.units + 2 + (Prod.snd b).depth < cLine := fun b hb => by
    have : b.2 ∈ ds := by rw [← hm]; exact List.mem_map_of_mem hb
    have := hd _ this
    simp only [okD, Bool.and_eq_true, decide_eq_true_eq] at this
    omega
  have fin : ∀ (its : List Value), Vals vs its → ∀ out : List Value, out.length = (pairUp vs ds).length → PySem.W.EachIs (fun u (p : V × D) => RelV p.1 u ∧ p ∈ pairUp vs ds) out ((pairUp vs ds).mergeSort (PySem.W.dataLe false Prod.snd)) →
      EP X pins σ Q (.ref (s.heap.objs.size + 1)) { s with heap := sortedAll s.heap its (List.toArray out) } := fun its rv out hol ho => by
    have rvo := vals_of_each (ho.mono fun u p h => h.1)
    obtain ⟨ep, he'⟩ := PyProof.Rows.sortedAll_at s.heap its out.toArray
    have hsz : (((pairUp vs ds).mergeSort (PySem.W.dataLe false Prod.snd)).map Prod.fst).length ≤ sizeLine := by
      rw [List.length_map, List.length_mergeSort]
      exact hL
    exact ⟨.ref _, upd H (s.heap.objs.size + 1) (.lst (((pairUp vs ds).mergeSort (PySem.W.dataLe false Prod.snd)).map Prod.fst)), I.laid (t' := s.toks) (fun _ _ => PyProof.Rows.sortedAll_old) (Nat.le_succ _) ⟨hsz, out, ep, rvo, he'⟩, rfl, q _ (I.hok.fresh (Nat.le_succ _))⟩
  rcases hseq with hs | hs
  · obtain ⟨its, rv, hl, hz⟩ := I.list hs
    have e := valsPair rv hlen
    exact PySem.W.sorted_data (enc := Prod.snd) hl.isList e (e.mono fun u p h => Dp.reads I _ _ _ (hdp p h.2) h.1) (by rw [hm]; exact hal) (by rw [hm]; exact hso) hL hu' fun out ho1 ho2 => fin its rv out ho1 ho2
  · obtain ⟨its, rv, hl, hz⟩ := I.tuple hs
    have e := valsPair rv hlen
    exact sorted_tuple (enc := Prod.snd) (show s.heap.IsTuple a its.toArray from hl) e (e.mono fun u p h => Dp.reads I _ _ _ (hdp p h.2) h.1) (by rw [hm]; exact hal) (by rw [hm]; exact hso) hL hu' fun out ho1 ho2 => fin its rv out ho1 ho2
def fSorted : List D → Res RV
  | [.list xs] => do Res.guard (sortOk xs); .ok (.fr (.list (sortD xs)))
  | [.tuple xs] => do Res.guard (sortOk xs); .ok (.fr (.list (sortD xs)))
  | _ => .no
theorem sort_snd {vs : List V} {ds : List D} (h : vs.length = ds.length) : ((pairUp vs ds).mergeSort (PySem.W.dataLe false Prod.snd)).map Prod.snd = sortD ds := by
  unfold sortD
  rw [List.map_mergeSort (s := PySem.W.dataLe false id), pairUp_snd h]
  intro a _ b _
  rfl
theorem sort_reps {K : PySem.W.Frag} {F : Hp} {vs : List V} {ds : List D} (h : Reps K F ds vs) : Reps K F (sortD ds) (((pairUp vs ds).mergeSort (PySem.W.dataLe false Prod.snd)).map Prod.fst) := by
  rw [← sort_snd (Reps.length h)]
  exact Reps.of_pairs fun p hp => h.mem_pair p (List.mem_mergeSort.mp hp)
theorem pair_mem {vs : List V} {ds : List D} (h : vs.length = ds.length) {q : V × D} (hq : q ∈ pairUp vs ds) : q.2 ∈ ds := by
  have := List.mem_map_of_mem (f := Prod.snd) hq
  rwa [pairUp_snd h] at this
theorem ok_sorted {c : Cn} : BltOk c (.builtin "sorted") fSorted := fun X ok => ⟨_, cr_sortD ok.room.units, fun g σ H s xs ds rv Q R h hf hq => by
  unfold fSorted at hf
  split at hf
  · obtain ⟨_, e0, hf⟩ := bind_ok hf
    have hk := guard_ok e0
    cases hf
    obtain ⟨v, rfl, h1⟩ := vws1 h
    obtain ⟨p, vs, rfl, k1, k2⟩ := h1
    refine ⟨p, _, vs, rfl, Reps.length k2, .inl (sqx_l k1), fun q hq' => ?_, hk, fun l hl => ?_⟩
    · have := (sortOk_al hk).2.2.1 _ (pair_mem (Reps.length k2) hq')
      simp only [okD, Bool.and_eq_true] at this
      exact Rep.dp R.sub _ _ this.1 (k2.mem_pair q hq')
    · obtain ⟨R3, z3⟩ := R.made (d := .list _) hl ⟨_, rfl, sort_reps k2⟩
      exact hq g _ _ (.refl g) R3 z3
  · obtain ⟨_, e0, hf⟩ := bind_ok hf
    have hk := guard_ok e0
    cases hf
    obtain ⟨v, rfl, h1⟩ := vws1 h
    obtain ⟨p, vs, rfl, k1, k2⟩ := h1
    refine ⟨p, _, vs, rfl, Reps.length k2, .inr (sqt_sub R.sub k1), fun q hq' => ?_, hk, fun l hl => ?_⟩
    · have := (sortOk_al hk).2.2.1 _ (pair_mem (Reps.length k2) hq')
      simp only [okD, Bool.and_eq_true] at this
      exact Rep.dp R.sub _ _ this.1 (k2.mem_pair q hq')
    · obtain ⟨R3, z3⟩ := R.made (d := .list _) hl ⟨_, rfl, sort_reps k2⟩
      exact hq g _ _ (.refl g) R3 z3
  · cases hf⟩
end Yd

namespace Yd
open PySem PySem.Spec PyProof.Rows L2
/-! a, b = x, y; ints and data of the module -/
def mLO : List Bool → List M → Sta → Res (List Slot × Sta)
  | [], [], s => .ok ([], s)
  | true :: os, m :: ms, s => do
    let (r, s1) ← m s
    match r with
    | .fr d => do
      let (xs, s2) ← mLO os ms s1
      .ok (.ow d :: xs, s2)
    | _ => .no
  | false :: os, m :: ms, s => do
    let (r, s1) ← m s
    let (d, s2) ← tk s1 r
    let (xs, s3) ← mLO os ms s2
    .ok (.sh d :: xs, s3)
  | _, _, _ => .no
def setsN : List Nat → List Slot → List Slot → List Slot
  | i :: is, x :: xs, e => setsN is xs (e.set i x)
  | _, _, e => e
def sParN (ids : List Nat) (os : List Bool) (ms : List M) : Yd.St := fun s => do
  let (xs, s1) ← mLO os ms s
  .ok (.nx, { s1 with env := setsN ids xs s1.env })
def SV (K : PySem.W.Frag) (g : Gh) (σ : L2.St) (H : Hp) (s : Sta) : Slot → V → Prop
  | .sh d, v => Rep K g.F d v
  | .ow d, v => RVal K g σ H s (.fr d) v
  | _, _ => False
def SVs (K : PySem.W.Frag) (g : Gh) (σ : L2.St) (H : Hp) (s : Sta) : List Slot → List V → Prop
  | [], vs => vs = []
  | x :: xs, vs => ∃ v q, vs = v :: q ∧ SV K g σ H s x v ∧ SVs K g σ H s xs q ∧ ∀ d, x = .ow d → ∀ (j : Nat) d', xs[j]? = some (.ow d') → q[j]? ≠ some v
def Taf (K : PySem.W.Frag) (os : List Bool) (ms : List M) : TA := fun σ H Q => ∃ g s xs s', Rel K g σ H s ∧ mLO os ms s = .ok (xs, s') ∧ ∀ g' vs H', Up g g' → Rel K g' σ H' s' → SVs K g' σ H' s' xs vs → Q vs H'
section
variable {K : PySem.W.Frag} {g : Gh} {σ : L2.St} {H : Hp} {s : Sta}
theorem Rel.watchF (R : Rel K g σ H s) {p : Addr} {o : HO} (hF : g.F p = none) (hp : H p = some o) (hc : g.cup ≠ some p) (hn : ∀ (i : Nat) (d' : D), s.env[i]? = some (Slot.ow d') → σ[i]? ≠ some (some (V.ref p))) : Rel K { g with pr := upd g.pr p o } σ H s := by
  refine ⟨R.sub, fun a u h => ?_, R.len, R.sh, fun i d h => ?_, R.sep, R.cupS, R.cupN, R.cupV⟩
  · by_cases ha : a = p
    · subst ha
      rw [show ({ g with pr := upd g.pr a o } : Gh).pr = upd g.pr a o from rfl, upd_same] at h
      cases h
      exact ⟨hp, hF, hc⟩
    · rw [show ({ g with pr := upd g.pr p o } : Gh).pr = upd g.pr p o from rfl, upd_ne ha] at h
      exact R.pr a u h
  · obtain ⟨q, u, h1, h2, h3, h4, h5, h6⟩ := R.ow i d h
    refine ⟨q, u, h1, h2, ?_, h4, h5, h6⟩
    show upd g.pr p o q = none
    rw [upd_ne (fun z => hn i d h (by rw [h1, z]))]
    exact h3
theorem Rel.unwatch (R : Rel K g σ H s) {p0 : Hp} {p : Addr} {o : HO} (hp : g.pr = upd p0 p o) (h0 : p0 p = none) : Rel K { g with pr := p0 } σ H s := by
  refine ⟨R.sub, fun a u h => ?_, R.len, R.sh, fun i d h => ?_, R.sep, R.cupS, R.cupN, R.cupV⟩
  · refine R.pr a u ?_
    rw [hp, upd_ne (ne_of_none h h0)]
    exact h
  · obtain ⟨q, u, h1, h2, h3, h4, h5, h6⟩ := R.ow i d h
    refine ⟨q, u, h1, h2, ?_, h4, h5, h6⟩
    show p0 q = none
    rw [hp] at h3
    by_cases e : q = p
    · rw [e]; exact h0
    · rw [upd_ne e] at h3; exact h3
theorem SV.unwatch {p0 : Hp} {p : Addr} {o : HO} (hp : g.pr = upd p0 p o) (h0 : p0 p = none) {x : Slot} {v : V} (h : SV K g σ H s x v) : SV K { g with pr := p0 } σ H s x v ∧ ∀ d, x = .ow d → v ≠ .ref p := by
  cases x with
  | un => exact h.elim
  | cup => exact h.elim
  | sh d => exact ⟨h, fun d e => by cases e⟩
  | ow d =>
    obtain ⟨q, u, h1, h2, h3, h4, h5, h6, h7⟩ := h
    rw [hp] at h3
    have ne : q ≠ p := fun e => by rw [e, upd_same] at h3; cases h3
    rw [upd_ne ne] at h3
    exact ⟨⟨q, u, h1, h2, h3, h4, h5, h6, h7⟩, fun d _ e => ne (by rw [h1] at e; cases e; rfl)⟩
theorem SVs.unwatch {p0 : Hp} {p : Addr} {o : HO} (hp : g.pr = upd p0 p o) (h0 : p0 p = none) : ∀ {xs : List Slot} {vs : List V}, SVs K g σ H s xs vs → SVs K { g with pr := p0 } σ H s xs vs ∧ ∀ (j : Nat) d, xs[j]? = some (.ow d) → vs[j]? ≠ some (.ref p)
  | [], vs, h => ⟨h, fun j d e => by simp at e⟩
  | x :: xs, vs, h => by
    obtain ⟨v, q, rfl, h1, h2, h3⟩ := h
    obtain ⟨k1, k2⟩ := h1.unwatch hp h0
    obtain ⟨k3, k4⟩ := SVs.unwatch hp h0 h2
    refine ⟨⟨v, q, rfl, k1, k3, h3⟩, fun j d e => ?_⟩
    cases j with
    | zero =>
      simp at e ⊢
      exact k2 d e
    | succ j => simpa using k4 j d (by simpa using e)
theorem t_afN {Q : List V → Hp → Prop} (h : Taf K [] [] σ H Q) : tNil σ H Q := by
  obtain ⟨g, s, r0, s', R, hm, hq⟩ := h
  cases hm
  exact hq g [] H (.refl g) R rfl
theorem t_afC {o : Bool} {os : List Bool} {m : M} {ms : List M} {Q : List V → Hp → Prop} (h : Taf K (o :: os) (m :: ms) σ H Q) : tCons (T K m) (Taf K os ms) σ H Q := by
  obtain ⟨g, s, r0, s', R, hm, hq⟩ := h
  cases o with
  | true =>
    simp only [mLO] at hm
    obtain ⟨⟨r1, s1⟩, e1, hm⟩ := bind_ok hm
    refine ⟨g, s, r1, s1, R, e1, fun g1 x H1 u1 R1 hx => ?_⟩
    cases r1 with
    | sh d => cases hm
    | sl i => cases hm
    | fr d =>
      obtain ⟨⟨xs, s2⟩, e2, hm⟩ := bind_ok hm
      cases hm
      obtain ⟨p, u, rfl, h1, h2, h3, h4, h5, h6⟩ := hx
      refine ⟨_, s1, xs, s2, R1.watchF h1 h3 h5 h6, e2, fun g2 vs H2 u2 R2 hv => ?_⟩
      have hp : g2.pr = upd g1.pr p u := u2.p
      obtain ⟨k1, k2⟩ := hv.unwatch hp h2
      obtain ⟨w1, w2, w3⟩ := R2.pr p u (by rw [hp]; exact upd_same)
      refine hq { g2 with pr := g1.pr } _ H2 (u1.trans ⟨rfl, u2.c, u2.s⟩) (R2.unwatch hp h2) ⟨.ref p, vs, rfl, ⟨p, u, rfl, w2, h2, w1, h4.mono u2.s, w3, fun i d' hi z => ?_⟩, k1, fun _ _ j d' hj => k2 j d' hj⟩
      obtain ⟨q, u', j1, j2, j3, j4, j5, j6⟩ := R2.ow i d' hi
      rw [z] at j1
      cases j1
      rw [hp, upd_same] at j3
      cases j3
  | false =>
    simp only [mLO] at hm
    obtain ⟨⟨r1, s1⟩, e1, hm⟩ := bind_ok hm
    obtain ⟨⟨d, s2⟩, e2, hm⟩ := bind_ok hm
    obtain ⟨⟨xs, s3⟩, e3, hm⟩ := bind_ok hm
    cases hm
    refine ⟨g, s, r1, s1, R, e1, fun g1 x H1 u1 R1 hx => ?_⟩
    obtain ⟨g2, u2, R2, z2⟩ := R1.z hx
    obtain ⟨g3, u3, R3, z3⟩ := R2.tk z2 e2
    refine ⟨g3, s2, xs, s3, R3, e3, fun g4 vs H4 u4 R4 hv => ?_⟩
    exact hq g4 (x :: vs) H4 (u1.trans (u2.trans (u3.trans u4))) R4 ⟨x, vs, rfl, Rep.mono u4.s _ _ z3, hv, fun d' e => by cases e⟩
/-- a value is given its slot -/
theorem Rel.setSV (R : Rel K g σ H s) {x : Slot} {v : V} (i : Nat) (h : SV K g σ H s x v) : Rel K g (σ.set i (some v)) H (putSlot s i x) := by
  cases x with
  | un => exact h.elim
  | cup => exact h.elim
  | sh d => exact R.setSh h
  | ow d => exact R.setOw h
theorem SV.put {x y : Slot} {v w : V} (i : Nat) (h : SV K g σ H s y w) (hn : ∀ d, y = .ow d → ∀ d', x = .ow d' → w ≠ v) : SV K g (σ.set i (some v)) H (putSlot s i x) y w := by
  cases y with
  | un => exact h.elim
  | cup => exact h.elim
  | sh d => exact h
  | ow d =>
    obtain ⟨q, u, rfl, h2, h3, h4, h5, h6, h7⟩ := h
    refine ⟨q, u, rfl, h2, h3, h4, h5, h6, fun j d' hj z => ?_⟩
    rcases set_get hj with ⟨rfl, e, lt⟩ | ⟨ne, e⟩
    · have hl : i < σ.length := (List.getElem?_eq_some_iff.mp z).1 |> fun h => by simpa using h
      rw [getσ hl] at z
      cases z
      exact hn d rfl d' e.symm rfl
    · rw [List.getElem?_set_ne ne] at z
      exact h7 j d' e z
theorem SVs.put {x : Slot} {v : V} (i : Nat) : ∀ {xs : List Slot} {vs : List V}, SVs K g σ H s xs vs → (∀ d, x = .ow d → ∀ (j : Nat) d', xs[j]? = some (.ow d') → vs[j]? ≠ some v) → SVs K g (σ.set i (some v)) H (putSlot s i x) xs vs
  | [], vs, h, _ => h
  | y :: ys, vs, h, hn => by
    obtain ⟨w, q, rfl, h1, h2, h3⟩ := h
    refine ⟨w, q, rfl, h1.put i fun d e d' e' z => ?_, SVs.put i h2 fun d e j d' hj => ?_, h3⟩
    · exact hn d' e' 0 d (by simp [e]) (by simp [z])
    · simpa using hn d e (j + 1) d' (by simpa using hj)
def setsV : List Nat → List V → L2.St → L2.St
  | i :: is, v :: vs, σ => setsV is vs (σ.set i (some v))
  | _, _, σ => σ
theorem Rel.setsSV {H : Hp} {K : PySem.W.Frag} {g : Gh} : ∀ {ids : List Nat} {xs : List Slot} {vs : List V} {σ : L2.St} {s : Sta}, Rel K g σ H s → SVs K g σ H s xs vs → Rel K g (setsV ids vs σ) H { s with env := setsN ids xs s.env }
  | [], xs, vs, σ, s, R, h => by cases xs <;> cases vs <;> exact R
  | i :: is, [], vs, σ, s, R, h => by cases (show vs = [] from h); exact R
  | i :: is, x :: xs, vs, σ, s, R, h => by
    obtain ⟨v, q, rfl, h1, h2, h3⟩ := h
    exact Rel.setsSV (ids := is) (R.setSV i h1) (h2.put i h3)
theorem SVs.length : ∀ {xs : List Slot} {vs : List V}, SVs K g σ H s xs vs → vs.length = xs.length
  | [], vs, h => by cases (show vs = [] from h); rfl
  | x :: xs, vs, h => by
    obtain ⟨v, q, rfl, h1, h2, h3⟩ := h
    simp only [List.length_cons, SVs.length h2]
theorem mLO_len : ∀ {os : List Bool} {ms : List M} {s s' : Sta} {xs : List Slot}, mLO os ms s = .ok (xs, s') → xs.length = ms.length ∧ os.length = ms.length
  | [], [], s, s', xs, h => by simp only [mLO] at h; cases h; exact ⟨rfl, rfl⟩
  | [], _ :: _, s, s', xs, h => by simp only [mLO] at h; cases h
  | true :: _, [], s, s', xs, h => by simp only [mLO] at h; cases h
  | false :: _, [], s, s', xs, h => by simp only [mLO] at h; cases h
  | true :: os, m :: ms, s, s', xs, h => by
    simp only [mLO] at h
    obtain ⟨⟨r1, s1⟩, e1, h⟩ := bind_ok h
    cases r1 with
    | sh d => cases h
    | sl i => cases h
    | fr d =>
      obtain ⟨⟨q, s2⟩, e2, h⟩ := bind_ok h
      cases h
      have := mLO_len e2
      simp only [List.length_cons, this, and_self]
  | false :: os, m :: ms, s, s', xs, h => by
    simp only [mLO] at h
    obtain ⟨⟨r1, s1⟩, e1, h⟩ := bind_ok h
    obtain ⟨⟨d, s2⟩, e2, h⟩ := bind_ok h
    obtain ⟨⟨q, s3⟩, e3, h⟩ := bind_ok h
    cases h
    have := mLO_len e3
    simp only [List.length_cons, this, and_self]
end
def SAF (c : Cn) (os : List Bool) (es : List Expr) (ms : List M) : Prop := ∀ X, c.Ok X → PA X es (Taf X.K os ms)
section
variable {c : Cn}
theorem saf_nil : SAF c [] [] [] := fun X _ => pa_nil.pre fun _ _ _ => t_afN
theorem saf_cons {o : Bool} {os : List Bool} {e : Expr} {es : List Expr} {m : M} {ms : List M} (h : SE c e m) (hr : SAF c os es ms) (hs : ∀ env : Env, starEach (e :: es) env = (false, eval e env) :: starEach es env := by intro _; rfl) : SAF c (o :: os) (e :: es) (m :: ms) :=
  fun X ok => (pa_cons (h X ok) (hr X ok) (hs _)).pre fun _ _ _ => t_afC
end
/-! when the stores are swapped -/
def isStar : Expr → Bool
  | .Starred .. => true
  | _ => false
def locAt (sc : Scope) (line : Nat) : Expr → Option Str
  | .Name id pos => if sc.names.lookup id == some .local && pos.line == line then some id else none
  | _ => none
def parF (sc : Scope) (ts vs : List Expr) : Option (Option (List Str)) :=
  if !(ts.length == 2 || ts.length == 3) || vs.length != ts.length then some none
  else if vs.any isStar then some none
  else
    let names := ts.filterMap (locAt sc ((ts.head?.map (·.pos.line)).getD 0))
    if names.length != ts.length || names.eraseDups.length != names.length then some none
    else if vs.all (foldedForSure 8) then some none
    else if vs.all (constantsAlone 8) then none
    else some (some names)
theorem par_sw {env : Env} {sc : Scope} (hsc : env.scope = sc) (hk : sc.kind = .function) {ts vs : List Expr} {k k2 : Nat} {p p2 : Pos} {r : Option (List Str)} (h : parF sc ts vs = some r) : swappedStores [.Tuple ts k p] (.Tuple vs k2 p2) env = pure r := by
  have hb : (env.blockKind != ScopeKind.function) = false := by
    unfold Env.blockKind
    rw [hsc, hk]
    rfl
  have hst : (vs.any fun | .Starred .. => true | _ => false) = vs.any isStar := by
    congr 1
  have hnm : (fun x => match x with | .Name id pos => if env.kindOf id == some .local && pos.line == (ts.head?.map (·.pos.line)).getD 0 then some id else none | _ => none) = locAt sc ((ts.head?.map (·.pos.line)).getD 0) := by
    funext x
    subst hsc
    cases x <;> rfl
  unfold parF at h
  show (if !(ts.length == 2 || ts.length == 3) || vs.length != ts.length || env.blockKind != .function then pure none else
    (if (vs.any fun | .Starred .. => true | _ => false) = true then pure none else
      let names := ts.filterMap (fun x => match x with | .Name id pos => if env.kindOf id == some .local && pos.line == (ts.head?.map (·.pos.line)).getD 0 then some id else none | _ => none)
      if names.length != ts.length || names.eraseDups.length != names.length then pure none
      else if vs.all (foldedForSure 8) then pure none
      else if vs.all (constantsAlone 8) then (do unsupported "assign.tuple-of-constant-expressions:order-of-the-stores"; pure (some names)) else pure (some names) : Sem (Option (List Str)))) = _
  rw [hb, hst, hnm, Bool.or_false]
  split at h
  · rename_i e
    cases h
    rw [if_pos e]
  · rename_i e
    rw [if_neg e]
    split at h
    · rename_i e
      cases h
      rw [if_pos e]
    · rename_i e
      rw [if_neg e]
      simp only at h ⊢
      split at h
      · rename_i e
        cases h
        rw [if_pos e]
      · rename_i e
        rw [if_neg e]
        split at h
        · rename_i e
          cases h
          rw [if_pos e]
        · rename_i e
          rw [if_neg e]
          split at h
          · cases h
          · rename_i e
            cases h
            rw [if_neg e]
section
variable {c : Cn}
theorem svs2 {K : PySem.W.Frag} {g : Gh} {σ : L2.St} {H : Hp} {s : Sta} {xs : List Slot} {vs : List V} (h : SVs K g σ H s xs vs) (hl : xs.length = 2) : ∃ v w, vs = [v, w] := by
  have := h.length
  rw [hl] at this
  match vs, this with
  | [v, w], _ => exact ⟨v, w, rfl⟩
theorem svs3 {K : PySem.W.Frag} {g : Gh} {σ : L2.St} {H : Hp} {s : Sta} {xs : List Slot} {vs : List V} (h : SVs K g σ H s xs vs) (hl : xs.length = 3) : ∃ v w u, vs = [v, w, u] := by
  have := h.length
  rw [hl] at this
  match vs, this with
  | [v, w, u], _ => exact ⟨v, w, u, rfl⟩
theorem ss_par2 {i j : Nat} {x y : Str} {a b : Expr} {ms : List M} {px py pt pos : Pos} {kt k2 : Nat} {pt2 : Pos} (os : List Bool) (hi : c.N[i]? = some x) (hj : c.N[j]? = some y) (hij : i ≠ j) (hx : c.sc.names.lookup x = some .local) (hy : c.sc.names.lookup y = some .local) (hk : c.sc.kind = .function) (ha : SAF c os [a, b] ms)
    (hw : parF c.sc [.Name x px, .Name y py] [a, b] = some (some [x, y])) (ho : os.length = 2)
    (hs : ∀ env : Env, swapsWithSole [.Tuple [.Name x px, .Name y py] kt pt] (.Tuple [a, b] k2 pt2) pos.line env = pure false := by intro _; rfl) : SS c (.Assign [.Tuple [.Name x px, .Name y py] kt pt] (.Tuple [a, b] k2 pt2) pos) (sParN [i, j] os ms) := fun X ok hf =>
  (ps_par (X := X) (i := i) (j := j) ok.calm (by rw [ok.N]; exact ok.nd) (by rw [ok.N]; exact hi) (by rw [ok.N]; exact hj) hij (by rw [ok.sc]; exact hx) (by rw [ok.sc]; exact hy) (ha X ok) (par_sw ok.sc hk hw) (hs _)).pre fun D σ H q => by
    obtain ⟨g, s, f, s', R, hm, hq⟩ := q
    obtain ⟨⟨xs, s1⟩, e1, hm⟩ := bind_ok hm
    cases hm
    obtain ⟨l1, l2⟩ := mLO_len e1
    refine ⟨g, s, xs, s1, R, e1, fun g1 vs H1 u1 R1 hv => ?_⟩
    obtain ⟨v, w, rfl⟩ := svs2 hv (by omega)
    exact ⟨v, w, rfl, hq g1 _ H1 u1 (Rel.setsSV (ids := [i, j]) R1 hv)⟩
theorem ss_par3 {i j l : Nat} {x y z : Str} {a b e : Expr} {ms : List M} {px py pz pt pos : Pos} {kt k2 : Nat} {pt2 : Pos} (os : List Bool) (hi : c.N[i]? = some x) (hj : c.N[j]? = some y) (hl : c.N[l]? = some z) (hij : i ≠ j) (hil : i ≠ l) (hjl : j ≠ l)
    (hx : c.sc.names.lookup x = some .local) (hy : c.sc.names.lookup y = some .local) (hz : c.sc.names.lookup z = some .local) (hk : c.sc.kind = .function) (ha : SAF c os [a, b, e] ms)
    (hw : parF c.sc [.Name x px, .Name y py, .Name z pz] [a, b, e] = some (some [x, y, z])) (ho : os.length = 3)
    (hs : ∀ env : Env, swapsWithSole [.Tuple [.Name x px, .Name y py, .Name z pz] kt pt] (.Tuple [a, b, e] k2 pt2) pos.line env = pure false := by intro _; rfl) : SS c (.Assign [.Tuple [.Name x px, .Name y py, .Name z pz] kt pt] (.Tuple [a, b, e] k2 pt2) pos) (sParN [i, j, l] os ms) := fun X ok hf =>
  (ps_par3 (X := X) (i := i) (j := j) (l := l) ok.calm (by rw [ok.N]; exact ok.nd) (by rw [ok.N]; exact hi) (by rw [ok.N]; exact hj) (by rw [ok.N]; exact hl) hij hil hjl (by rw [ok.sc]; exact hx) (by rw [ok.sc]; exact hy) (by rw [ok.sc]; exact hz) (ha X ok) (par_sw ok.sc hk hw) (hs _)).pre fun D σ H q => by
    obtain ⟨g, s, f, s', R, hm, hq⟩ := q
    obtain ⟨⟨xs, s1⟩, e1, hm⟩ := bind_ok hm
    cases hm
    obtain ⟨l1, l2⟩ := mLO_len e1
    refine ⟨g, s, xs, s1, R, e1, fun g1 vs H1 u1 R1 hv => ?_⟩
    obtain ⟨v, w, u, rfl⟩ := svs3 hv (by omega)
    exact ⟨v, w, u, rfl, hq g1 _ H1 u1 (Rel.setsSV (ids := [i, j, l]) R1 hv)⟩
/-- .. through a tuple -/
theorem ss_tup {ts vs : List Expr} {t : Tg} {m : M} {kt k2 : Nat} {p p2 pos : Pos} (he : SE c (.Tuple vs k2 p2) m) (hg : SG c (.Tuple ts kt p) t) (hk : c.sc.kind = .function) (hw : parF c.sc ts vs = some none) (hs : ∀ env : Env, swapsWithSole [.Tuple ts kt p] (.Tuple vs k2 p2) pos.line env = pure false := by intro _; rfl)
    (h1 : ∀ env : Env, (assignEach [.Tuple ts kt p] env).map (·.2) = [assign (.Tuple ts kt p) env] := by intro _; rfl) : SS c (.Assign [.Tuple ts kt p] (.Tuple vs k2 p2) pos) (sSet t m) := fun X ok hf => (ps_asg (he X ok) (hg X ok hf) (hs _) (par_sw ok.sc hk hw) (h1 _)).pre fun D σ H q => by
  obtain ⟨g, s, f, s', R, hm, hq⟩ := q
  obtain ⟨⟨r1, s1⟩, e1, hm⟩ := bind_ok hm
  obtain ⟨⟨d, s2⟩, e2, hm⟩ := bind_ok hm
  obtain ⟨s3, e3, hm⟩ := bind_ok hm
  cases hm
  refine ⟨g, s, r1, s1, R, e1, fun g1 x H1 u1 R1 hx => ?_⟩
  obtain ⟨g2, u2, R2, z2⟩ := R1.z hx
  obtain ⟨g3, u3, R3, z3⟩ := R2.tk z2 e2
  exact ⟨g3, s2, d, s', R3, z3, e3, fun g4 σ4 H4 u4 R4 => hq g4 σ4 H4 (u1.trans (u2.trans (u3.trans u4))) R4⟩
/-- names, stored one by one -/
def gNms : List Nat → TGs
  | [] => gNil
  | i :: is => gCons (gName i) (gNms is)
theorem gNms_of {K : PySem.W.Frag} : ∀ {ids : List Nat} {vs : List V} {σ : L2.St} {H : Hp} {Q : L2.St → Hp → Prop}, vs.length = ids.length → Q (setsV ids vs σ) H → gNms ids vs σ H Q
  | [], [], σ, H, Q, _, q => ⟨rfl, q⟩
  | [], _ :: _, σ, H, Q, h, q => by simp at h
  | _ :: _, [], σ, H, Q, h, q => by simp at h
  | i :: is, v :: vs, σ, H, Q, h, q => ⟨v, vs, rfl, gNms_of (K := K) (by simpa using h) q⟩
def SGm (c : Cn) (es : List Expr) (ids : List Nat) : Prop := ∀ X, c.Ok X → (∀ x, c.sc.names.lookup x = some .cell → X.fn x = true) → PGs X es (gNms ids)
theorem sgm_nil : SGm c [] [] := fun X ok hf => pgs_nil
theorem sgm_cons {i : Nat} {x : Str} {pos : Pos} {es : List Expr} {ids : List Nat} (hN : c.N[i]? = some x) (hx : Loc c.sc x) (h : SGm c es ids) (hs : ∀ env : Env, (assignEach (.Name x pos :: es) env).map (·.2) = assign (.Name x pos) env :: (assignEach es env).map (·.2) := by intro _; rfl) : SGm c (.Name x pos :: es) (i :: ids) := fun X ok hf =>
  pgs_cons (pg_name (X := X) (i := i) (by rw [ok.N]; exact ok.nd) (by rw [ok.N]; exact hN) (by rw [ok.sc]; exact hx) (by
    rcases hx with h | h
    · exact .inr (by rw [ok.sc]; exact h)
    · exact .inl (hf x h))) (h X ok hf) (hs _)
theorem ss_tupN {ts vs : List Expr} {ids : List Nat} {ms : List M} {kt k2 : Nat} {p p2 pos : Pos} (os : List Bool) (ha : SAF c os vs ms) (hg : SGm c ts ids) (hk : c.sc.kind = .function) (hw : parF c.sc ts vs = some none) (hl : ms.length = ids.length) (hl2 : ms.length ≤ 1000) (hs : ∀ env : Env, swapsWithSole [.Tuple ts kt p] (.Tuple vs k2 p2) pos.line env = pure false := by intro _; rfl)
    (h1 : ∀ env : Env, (assignEach [.Tuple ts kt p] env).map (·.2) = [assign (.Tuple ts kt p) env] := by intro _; rfl) (hn : ∀ env : Env, (assignEach ts env).length = ids.length := by intro _; rfl) (hst : ∀ env : Env, (assignEach ts env).findIdx? (·.1) = none := by intro _; rfl) : SS c (.Assign [.Tuple ts kt p] (.Tuple vs k2 p2) pos) (sParN ids os ms) := fun X ok hf =>
  (ps_asg (pe_tup (ha X ok)) (pg_tup ok.calm (hg X ok hf) (hn _) (hst _)) (hs _) (par_sw ok.sc hk hw) (h1 _)).pre fun D σ H q => by
  obtain ⟨g, s, f, s', R, hm, hq⟩ := q
  obtain ⟨⟨xs, s1⟩, e1, hm⟩ := bind_ok hm
  cases hm
  obtain ⟨l1, l2⟩ := mLO_len e1
  refine ⟨g, s, xs, s1, R, e1, fun g1 ws H1 u1 R1 hv => ?_⟩
  have lw := hv.length
  refine ⟨by rw [lw, l1, sizeLine_eq]; omega, fun q hq1 => ?_⟩
  refine ⟨q, ws, rfl, .inl (.inl upd_same), by omega, gNms_of (K := X.K) (by omega) ?_⟩
  obtain ⟨f1, f2, f3⟩ := R1.fresh hq1
  have R2 := R1.more (o := .tup ws) hq1
  refine hq g1 _ _ u1 (Rel.setsSV (ids := ids) R2 ?_)
  have tr : ∀ {xs : List Slot} {vs : List V}, SVs X.K g1 σ H1 s1 xs vs → SVs X.K g1 σ (upd H1 q (.tup ws)) s1 xs vs := by
    intro xs
    induction xs with
    | nil => intro vs h; exact h
    | cons x xs ih =>
      intro vs h
      obtain ⟨v, r, rfl, h1, h2, h3⟩ := h
      refine ⟨v, r, rfl, ?_, ih h2, h3⟩
      cases x with
      | un => exact h1.elim
      | cup => exact h1.elim
      | sh d => exact h1
      | ow d =>
        obtain ⟨p, u, k1, k2, k3, k4, k5, k6, k7⟩ := h1
        exact ⟨p, u, k1, k2, k3, by rw [upd_ne (ne_of_none k4 hq1)]; exact k4, k5, k6, k7⟩
  exact tr hv
/-- an int, data of the module -/
theorem se_gint {x : Str} {i : Int} {pos : Pos} (hg : c.sc.names.lookup x = some .globalImplicit) (hm : ∃ t, c.mg x = some (.int i t)) (hd : (x == ("__debug__" : Str)) = false) : SE c (.Name x pos) (mCst (.int i)) := fun X ok => by
  obtain ⟨t, hm⟩ := hm
  refine (pe_glob (v := .int i) (gl_of ok hg) (by rw [ok.mg]; exact hm) ⟨t, rfl⟩ hd).pre fun σ H Q q => ?_
  obtain ⟨g, s, r0, s', R, hm, hq⟩ := q
  cases hm
  exact hq g _ H (.refl g) R vI
theorem se_gdat {x : Str} {d : D} {pos : Pos} (hg : c.sc.names.lookup x = some .globalImplicit) (hm : ∃ u v, c.mg x = some u ∧ RelV v u ∧ ∀ F, Rep c.K F d v) (hd : (x == ("__debug__" : Str)) = false) : SE c (.Name x pos) (mCst d) := fun X ok => by
  obtain ⟨u, v, hm, hv, hr⟩ := hm
  refine (pe_glob (v := v) (gl_of ok hg) (by rw [ok.mg]; exact hm) hv hd).pre fun σ H Q q => ?_
  obtain ⟨g, s, r0, s', R, hm, hq⟩ := q
  cases hm
  exact hq g _ H (.refl g) R (by rw [ok.K]; exact hr _)
end
end Yd

namespace Yd
open PySem PySem.Spec PyProof.Rows L2
/-! the front: what is asked of names is counted out -/
def visB (sc : Scope) (x : Str) : Bool := match sc.names.lookup x with | some .local => true | some .cell => true | some .free => true | _ => false
def locC (sc : Scope) (x : Str) : Bool := match sc.names.lookup x with | some .local => true | some .cell => true | _ => false
def gB (sc : Scope) (x : Str) : Bool := match sc.names.lookup x with | some .globalImplicit => true | _ => false
def nmB (x : Str) : Bool := !(x == ("__debug__" : Str)) && !(x == ("__classdict__" : Str))
def varB (N : List Str) (sc : Scope) (i : Nat) (x : Str) : Bool := decide (N[i]? = some x) && visB sc x && nmB x
def stoB (N : List Str) (sc : Scope) (i : Nat) (x : Str) : Bool := decide (N[i]? = some x) && locC sc x
theorem visB_of {sc : Scope} {x : Str} (h : visB sc x = true) : Vis sc x := by
  unfold visB at h
  split at h
  · exact .inl (by assumption)
  · exact .inr (.inl (by assumption))
  · exact .inr (.inr (by assumption))
  · cases h
theorem locC_of {sc : Scope} {x : Str} (h : locC sc x = true) : Loc sc x := by
  unfold locC at h
  split at h
  · exact .inl (by assumption)
  · exact .inr (by assumption)
  · cases h
theorem gB_of {sc : Scope} {x : Str} (h : gB sc x = true) : sc.names.lookup x = some .globalImplicit := by
  unfold gB at h
  split at h
  · assumption
  · cases h
theorem nmB_of {x : Str} (h : nmB x = true) : (x == ("__debug__" : Str)) = false ∧ (x == ("__classdict__" : Str)) = false := by
  simpa [nmB] using h
theorem varB_of {N : List Str} {sc : Scope} {i : Nat} {x : Str} (h : varB N sc i x = true) : N[i]? = some x ∧ Vis sc x ∧ (x == ("__debug__" : Str)) = false ∧ (x == ("__classdict__" : Str)) = false := by
  simp only [varB, Bool.and_eq_true, decide_eq_true_eq] at h
  exact ⟨h.1.1, visB_of h.1.2, nmB_of h.2⟩
theorem stoB_of {N : List Str} {sc : Scope} {i : Nat} {x : Str} (h : stoB N sc i x = true) : N[i]? = some x ∧ Loc sc x := by
  simp only [stoB, Bool.and_eq_true, decide_eq_true_eq] at h
  exact ⟨h.1, locC_of h.2⟩
section
variable {P : Program} {w : World} {K : PySem.W.Frag} {mg : Str → Option Value} {base : Heap} {N : List Str} {sc : Scope} {k : Nat}
theorem v_ {x : Str} {pos : Pos} (i : Nat) (h : varB N sc i x = true := by decide +kernel) : SE (Cn.mk P w K mg base N sc k) (.Name x pos) (mVar i) :=
  let q := varB_of h
  se_var q.1 q.2.1 q.2.2.1 q.2.2.2
theorem gi_ {x : Str} {pos : Pos} {i : Int} (hm : ∃ t, mg x = some (.int i t)) (h : gB sc x = true := by decide +kernel) (h2 : nmB x = true := by decide +kernel) : SE (Cn.mk P w K mg base N sc k) (.Name x pos) (mCst (.int i)) := se_gint (gB_of h) hm (nmB_of h2).1
theorem gd_ {x : Str} {pos : Pos} {d : D} (hm : ∃ u v, mg x = some u ∧ RelV v u ∧ ∀ F, Rep K F d v) (h : gB sc x = true := by decide +kernel) (h2 : nmB x = true := by decide +kernel) : SE (Cn.mk P w K mg base N sc k) (.Name x pos) (mCst d) := se_gdat (gB_of h) hm (nmB_of h2).1
theorem sg_ {x : Str} {pos : Pos} (i : Nat) (h : stoB N sc i x = true := by decide +kernel) : SG (Cn.mk P w K mg base N sc k) (.Name x pos) (.nm i) := let q := stoB_of h; sg_nm q.1 q.2
theorem sgb_ {scope : Scope} {vs : List Nat} {x : Str} {pos : Pos} (i : Nat) (h : (decide (N[i]? = some x) && locB sc scope x && decide (i ∈ vs)) = true := by decide +kernel) : SGb (Cn.mk P w K mg base N sc k) scope vs (.Name x pos) (.nm i) := by
  simp only [Bool.and_eq_true, decide_eq_true_eq] at h
  exact sgb_nm h.1.1 h.1.2 h.2
theorem len_ {e : Expr} {m : M} {p pos : Pos} (ha : SE (Cn.mk P w K mg base N sc k) e m) (hm : mg ("len" : Str) = none) (h : gB sc "len" = true := by decide +kernel) (he : ∀ env : Env, starEach [e] env = (false, eval e env) :: starEach [] env := by intro _; rfl) :
    SE (Cn.mk P w K mg base N sc k) (.Call (.Name ("len" : Str) p) [e] [] pos) (mB fLen [m]) := se_bf ok_len (gB_of h) hm (by decide +kernel) (sa_cons ha sa_nil he) (by decide) (by decide) he (fun _ => rfl)
theorem abs_ {e : Expr} {m : M} {p pos : Pos} (ha : SE (Cn.mk P w K mg base N sc k) e m) (hm : mg ("abs" : Str) = none) (h : gB sc "abs" = true := by decide +kernel) (he : ∀ env : Env, starEach [e] env = (false, eval e env) :: starEach [] env := by intro _; rfl) :
    SE (Cn.mk P w K mg base N sc k) (.Call (.Name ("abs" : Str) p) [e] [] pos) (mB fAbs [m]) := se_bf ok_abs (gB_of h) hm (by decide +kernel) (sa_cons ha sa_nil he) (by decide) (by decide) he (fun _ => rfl)
theorem int_ {e : Expr} {m : M} {p pos : Pos} (ha : SE (Cn.mk P w K mg base N sc k) e m) (hm : mg ("int" : Str) = none) (h : gB sc "int" = true := by decide +kernel) (he : ∀ env : Env, starEach [e] env = (false, eval e env) :: starEach [] env := by intro _; rfl) :
    SE (Cn.mk P w K mg base N sc k) (.Call (.Name ("int" : Str) p) [e] [] pos) (mB fInt [m]) := se_bt ok_int (gB_of h) hm (by decide +kernel) (sa_cons ha sa_nil he) (by decide) (by decide) he (fun _ => rfl)
theorem tuple_ {e : Expr} {m : M} {p pos : Pos} (ha : SE (Cn.mk P w K mg base N sc k) e m) (hm : mg ("tuple" : Str) = none) (h : gB sc "tuple" = true := by decide +kernel) (he : ∀ env : Env, starEach [e] env = (false, eval e env) :: starEach [] env := by intro _; rfl) :
    SE (Cn.mk P w K mg base N sc k) (.Call (.Name ("tuple" : Str) p) [e] [] pos) (mB fTuple [m]) := se_bt ok_tuple (gB_of h) hm (by decide +kernel) (sa_cons ha sa_nil he) (by decide) (by decide) he (fun _ => rfl)
theorem list_ {e : Expr} {m : M} {p pos : Pos} (ha : SE (Cn.mk P w K mg base N sc k) e m) (hm : mg ("list" : Str) = none) (h : gB sc "list" = true := by decide +kernel) (he : ∀ env : Env, starEach [e] env = (false, eval e env) :: starEach [] env := by intro _; rfl) :
    SE (Cn.mk P w K mg base N sc k) (.Call (.Name ("list" : Str) p) [e] [] pos) (mB fList [m]) := se_bt ok_list (gB_of h) hm (by decide +kernel) (sa_cons ha sa_nil he) (by decide) (by decide) he (fun _ => rfl)
theorem all_ {e : Expr} {m : M} {p pos : Pos} (ha : SE (Cn.mk P w K mg base N sc k) e m) (hm : mg ("all" : Str) = none) (h : gB sc "all" = true := by decide +kernel) (he : ∀ env : Env, starEach [e] env = (false, eval e env) :: starEach [] env := by intro _; rfl) :
    SE (Cn.mk P w K mg base N sc k) (.Call (.Name ("all" : Str) p) [e] [] pos) (mB fAll [m]) := se_bf ok_all (gB_of h) hm (by decide +kernel) (sa_cons ha sa_nil he) (by decide) (by decide) he (fun _ => rfl)
theorem any_ {e : Expr} {m : M} {p pos : Pos} (ha : SE (Cn.mk P w K mg base N sc k) e m) (hm : mg ("any" : Str) = none) (h : gB sc "any" = true := by decide +kernel) (he : ∀ env : Env, starEach [e] env = (false, eval e env) :: starEach [] env := by intro _; rfl) :
    SE (Cn.mk P w K mg base N sc k) (.Call (.Name ("any" : Str) p) [e] [] pos) (mB fAny [m]) := se_bf ok_any (gB_of h) hm (by decide +kernel) (sa_cons ha sa_nil he) (by decide) (by decide) he (fun _ => rfl)
theorem repr_ {e : Expr} {m : M} {p pos : Pos} (ha : SE (Cn.mk P w K mg base N sc k) e m) (hm : mg ("repr" : Str) = none) (h : gB sc "repr" = true := by decide +kernel) (he : ∀ env : Env, starEach [e] env = (false, eval e env) :: starEach [] env := by intro _; rfl) :
    SE (Cn.mk P w K mg base N sc k) (.Call (.Name ("repr" : Str) p) [e] [] pos) (mB fRepr [m]) := se_bf ok_repr (gB_of h) hm (by decide +kernel) (sa_cons ha sa_nil he) (by decide) (by decide) he (fun _ => rfl)
theorem sorted_ {e : Expr} {m : M} {p pos : Pos} (ha : SE (Cn.mk P w K mg base N sc k) e m) (hm : mg ("sorted" : Str) = none) (h : gB sc "sorted" = true := by decide +kernel) (he : ∀ env : Env, starEach [e] env = (false, eval e env) :: starEach [] env := by intro _; rfl) :
    SE (Cn.mk P w K mg base N sc k) (.Call (.Name ("sorted" : Str) p) [e] [] pos) (mB fSorted [m]) := se_bf ok_sorted (gB_of h) hm (by decide +kernel) (sa_cons ha sa_nil he) (by decide) (by decide) he (fun _ => rfl)
theorem isa_ {e : Expr} {m : M} {T : String} {x : Str} {p p2 pos : Pos} (he : SE (Cn.mk P w K mg base N sc k) e m) (hm : mg "isinstance" = none) (hmx : mg x = none) (hx : bootBuiltins x = some (.type T) := by decide +kernel) (hT : isTy T = true := by decide) (h : (gB sc "isinstance" && gB sc x && nmB x) = true := by decide +kernel) (hn : x ≠ "__name__" := by decide)
    (hs : ∀ env : Env, starEach [e, .Name x p2] env = (false, eval e env) :: starEach [.Name x p2] env := by intro _; rfl) :
    SE (Cn.mk P w K mg base N sc k) (.Call (.Name "isinstance" p) [e, .Name x p2] [] pos) (m1 (fIsa T) m) := by
  simp only [Bool.and_eq_true] at h
  exact se_isa he hT hx (gB_of h.1.2) hmx (gB_of h.1.1) hm hn (nmB_of h.2).1 hs
theorem call_ {n j : Nat} {f : Addr} {fd : FuncData} {ps : List Str} {cal : FnM} {x : Str} {e : Expr} {es : List Expr} {ms : List M} {p pos : Pos} (F : FnG P w K mg base j f fd ps (spEv K n cal)) (hm : mg x = some (.ref f)) (hkp : PySem.W.keepIn K (.ref f) = true) (hb : Binds K fd ps []) (ha : SA (Cn.mk P w K mg base N sc k) (e :: es) ms) (hk : j ≤ k := by decide) (hn : ms.length = n := by rfl)
    (h : (gB sc x && nmB x) = true := by decide +kernel)
    (he : ∀ env : Env, starEach (e :: es) env = (false, eval e env) :: starEach es env := by intro _; rfl) (hpl : ∀ env : Env, (backTo pos (starEach es env)).any (·.1) = false := by intro _; rfl) : SE (Cn.mk P w K mg base N sc k) (.Call (.Name x p) (e :: es) [] pos) (mCall cal ms) := by
  simp only [Bool.and_eq_true] at h
  exact se_call F hk (gB_of h.1) hm hkp hb ha hn (nmB_of h.2).1 he hpl
theorem rng1_ {tg a : Expr} {m : M} {p pos : Pos} (hm : mg ("range" : Str) = none) (h : SE (Cn.mk P w K mg base N sc k) a m) (hg : gB sc "range" = true := by decide +kernel) (hs : ∀ env : Env, starEach [a] env = [(false, eval a env)] := by intro _; rfl) : SI (Cn.mk P w K mg base N sc k) tg (.Call (.Name ("range" : Str) p) [a] [] pos) (mRng1 m) := si_rng1 (sa_cons h sa_nil hs) (gB_of hg) hm hs
theorem rng2_ {tg a b : Expr} {m n : M} {p pos : Pos} (hm : mg ("range" : Str) = none) (h : SE (Cn.mk P w K mg base N sc k) a m) (h2 : SE (Cn.mk P w K mg base N sc k) b n) (hg : gB sc "range" = true := by decide +kernel) (hs : ∀ env : Env, starEach [a, b] env = [(false, eval a env), (false, eval b env)] := by intro _; rfl) (hs2 : ∀ env : Env, starEach [b] env = [(false, eval b env)] := by intro _; rfl) : SI (Cn.mk P w K mg base N sc k) tg (.Call (.Name ("range" : Str) p) [a, b] [] pos) (mRng2 m n) := si_rng2 (sa_cons h (sa_cons h2 sa_nil hs2) (fun env => by rw [hs, hs2])) (gB_of hg) hm hs hs2
theorem zip_ {e e2 : Expr} {m n : M} {p pos tpos : Pos} {elts : List Expr} {kk : Nat} (hm : mg ("zip" : Str) = none) (h : SE (Cn.mk P w K mg base N sc k) e m) (h2 : SE (Cn.mk P w K mg base N sc k) e2 n) (hg : gB sc "zip" = true := by decide +kernel)
    (hs : ∀ env : Env, starEach [e, e2] env = (false, eval e env) :: starEach [e2] env := by intro _; rfl) (hs2 : ∀ env : Env, starEach [e2] env = (false, eval e2 env) :: starEach [] env := by intro _; rfl) (hpl : ∀ env : Env, (backTo pos (starEach [e2] env)).any (·.1) = false := by intro _; rfl) :
    SI (Cn.mk P w K mg base N sc k) (.Tuple elts kk tpos) (.Call (.Name ("zip" : Str) p) [e, e2] [] pos) (mZip m n) := si_zip (sa_cons h (sa_cons h2 sa_nil hs2) hs) (gB_of hg) hm hs hpl
theorem enum_ {e : Expr} {m : M} {p pos tpos : Pos} {elts : List Expr} {kk : Nat} (hm : mg ("enumerate" : Str) = none) (h : SE (Cn.mk P w K mg base N sc k) e m) (hg : gB sc "enumerate" = true := by decide +kernel) (hs : ∀ env : Env, starEach [e] env = [(false, eval e env)] := by intro _; rfl) :
    SI (Cn.mk P w K mg base N sc k) (.Tuple elts kk tpos) (.Call (.Name ("enumerate" : Str) p) [e] [] pos) (mEnum m) := si_enum (sa_cons h sa_nil hs) (gB_of hg) hm hs
theorem app_ {x : Str} {e : Expr} {m : M} {p apos cpos : Pos} (i : Nat) (he : SE (Cn.mk P w K mg base N sc k) e m) (h : varB N sc i x = true := by decide +kernel)
    (hbase : ∀ env : Env, attributeBase (.Name x p) "append" env (eval (.Name x p) env) = eval (.Name x p) env := by intro _; rfl)
    (hfew : ∀ env : Env, ((backTo cpos (starEach [e] env)).all (fun x => !x.1) && (backToKw cpos (keywordEach [] env)).all (fun x => x.1.isSome)
      && decide (([e] : List Expr).length + ([] : List Keyword).length + (if ([] : List Keyword).isEmpty then 0 else 1) < 30)) = true := by intro _; rfl)
    (hline : (apos.endLine == cpos.line) = true := by rfl) (hs : ∀ env : Env, starEach [e] env = (false, eval e env) :: starEach [] env := by intro _; rfl) : SE (Cn.mk P w K mg base N sc k) (.Call (.Attribute (.Name x p) "append" apos) [e] [] cpos) (mApp i m) :=
  let q := varB_of h
  se_app q.1 q.2.1 he q.2.2.1 q.2.2.2 hbase hfew hline hs
theorem pop_ {x : Str} {p apos cpos : Pos} (i : Nat) (h : varB N sc i x = true := by decide +kernel)
    (hbase : ∀ env : Env, attributeBase (.Name x p) "pop" env (eval (.Name x p) env) = eval (.Name x p) env := by intro _; rfl) (hline : (apos.endLine == cpos.line) = true := by rfl) : SE (Cn.mk P w K mg base N sc k) (.Call (.Attribute (.Name x p) "pop" apos) [] [] cpos) (mPop i) :=
  let q := varB_of h
  se_pop q.1 q.2.1 q.2.2.1 q.2.2.2 hbase hline
theorem popAt_ {x : Str} {e : Expr} {m : M} {p apos cpos : Pos} (i : Nat) (he : SE (Cn.mk P w K mg base N sc k) e m) (h : varB N sc i x = true := by decide +kernel)
    (hbase : ∀ env : Env, attributeBase (.Name x p) "pop" env (eval (.Name x p) env) = eval (.Name x p) env := by intro _; rfl)
    (hfew : ∀ env : Env, ((backTo cpos (starEach [e] env)).all (fun x => !x.1) && (backToKw cpos (keywordEach [] env)).all (fun x => x.1.isSome)
      && decide (([e] : List Expr).length + ([] : List Keyword).length + (if ([] : List Keyword).isEmpty then 0 else 1) < 30)) = true := by intro _; rfl)
    (hline : (apos.endLine == cpos.line) = true := by rfl) (hs : ∀ env : Env, starEach [e] env = (false, eval e env) :: starEach [] env := by intro _; rfl) : SE (Cn.mk P w K mg base N sc k) (.Call (.Attribute (.Name x p) "pop" apos) [e] [] cpos) (mPopAt i m) :=
  let q := varB_of h
  se_popAt q.1 q.2.1 he q.2.2.1 q.2.2.2 hbase hfew hline hs
theorem ix_ {x : Str} {a e : Expr} {mi mv : M} {p p2 pos : Pos} (i : Nat) (hi : SE (Cn.mk P w K mg base N sc k) a mi) (he : SE (Cn.mk P w K mg base N sc k) e mv) (h : varB N sc i x = true := by decide +kernel)
    (hs : ∀ env : Env, swapsWithSole [.Subscript (.Name x p) a p2] e pos.line env = pure false := by intro _; rfl) (hw : ∀ env : Env, swappedStores [.Subscript (.Name x p) a p2] e env = pure none := by intro _; rfl)
    (h1 : ∀ env : Env, (assignEach [.Subscript (.Name x p) a p2] env).map (·.2) = [assign (.Subscript (.Name x p) a p2) env] := by intro _; rfl)
    (ha : ∀ (env : Env) (v : Value), assign (.Subscript (.Name x p) a p2) env v = (do
      let ov ← holding [v] (eval (.Name x p) env)
      let iv ← holding [v, ov] (eval a env)
      standAt p2
      holding [v, ov, iv] (setItem ov iv v)
      release [v, ov, iv] []) := by intro _ _; rfl) : SS (Cn.mk P w K mg base N sc k) (.Assign [.Subscript (.Name x p) a p2] e pos) (sIx i mi mv) :=
  let q := varB_of h
  ss_ix q.1 q.2.1 hi he q.2.2.1 q.2.2.2 hs hw h1 ha
theorem set_ {x : Str} {e : Expr} {m : M} {pos pos' : Pos} (i : Nat) (he : SE (Cn.mk P w K mg base N sc k) e m) (h : stoB N sc i x = true := by decide +kernel) (hs : ∀ env : Env, swapsWith e (some (.Name x pos')) pos.line env = pure false := by intro _; rfl) : SS (Cn.mk P w K mg base N sc k) (.Assign [.Name x pos'] e pos) (sSet (.nm i) m) := fun X ok hf =>
  let q := stoB_of h
  (ps_set (X := X) (i := i) (by rw [ok.N]; exact ok.nd) (by rw [ok.N]; exact q.1) (by rw [ok.sc]; exact q.2) (he X ok) (hs _) (loc_fn ok hf q.2)).pre fun D σ H => t_set
theorem own_ {x : Str} {e : Expr} {m : M} {pos pos' : Pos} (i : Nat) (he : SE (Cn.mk P w K mg base N sc k) e m) (h : stoB N sc i x = true := by decide +kernel) (hs : ∀ env : Env, swapsWith e (some (.Name x pos')) pos.line env = pure false := by intro _; rfl) : SS (Cn.mk P w K mg base N sc k) (.Assign [.Name x pos'] e pos) (sOwn i m) := let q := stoB_of h; ss_own q.1 q.2 he hs
theorem cup_ {x : Str} {e : Expr} {m : M} {pos pos' : Pos} (i : Nat) (he : SE (Cn.mk P w K mg base N sc k) e m) (h : stoB N sc i x = true := by decide +kernel) (hs : ∀ env : Env, swapsWith e (some (.Name x pos')) pos.line env = pure false := by intro _; rfl) : SS (Cn.mk P w K mg base N sc k) (.Assign [.Name x pos'] e pos) (sCup i m) := let q := stoB_of h; ss_cup q.1 q.2 he hs
def lcB (N : List Str) (sc : Scope) (i : Nat) (y : Str) (scope : Scope) (l1 l2 : Nat) : Bool := decide (N[i]? = some y) && decide (sc.names.lookup y = some .local) && (match sc.kind with | .function => true | _ => false) && (l1 == l2) && !(scope.names.any fun (n, k) => n == y && (k == .local || k == .cell))
theorem lcB_of {i : Nat} {y : Str} {scope : Scope} {l1 l2 : Nat} (h : lcB N sc i y scope l1 l2 = true) : N[i]? = some y ∧ sc.names.lookup y = some .local ∧ sc.kind = .function ∧ (l1 == l2) = true ∧ (scope.names.any fun (n, k) => n == y && (k == .local || k == .cell)) = false := by
  simp only [lcB, Bool.and_eq_true, decide_eq_true_eq, Bool.not_eq_true'] at h
  refine ⟨h.1.1.1.1, h.1.1.1.2, ?_, h.1.2, h.2⟩
  have := h.1.1.2
  split at this
  · assumption
  · cases this
theorem setLc_ {y : Str} {py : Pos} {elt tg it : Expr} {ifs : List Expr} {scope : Scope} {pos spos : Pos} {mi : MI} {t : Tg} {cm : MT} {m : M} (i : Nat) (own : List (Str × Nat)) (hi : SI (Cn.mk P w K mg base N sc k) tg it mi) (hg : SGb (Cn.mk P w K mg base N (relS scope sc) k) scope (own.map (·.2)) tg t) (ht : STL (Cn.mk P w K mg base N (relS scope sc) k) ifs cm) (he : SE (Cn.mk P w K mg base N (relS scope sc) k) elt m) (h : lcB N sc i y scope py.line pos.line = true := by decide +kernel) (hB : blkC N sc scope own = true := by decide +kernel)
    (hs : ∀ (env : Env) (x : Value), foldedSetIterable it env x = pure x := by intro _ _; rfl) : SS (Cn.mk P w K mg base N sc k) (.Assign [.Name y py] (.ListComp elt [⟨tg, it, ifs, 0⟩] scope pos) spos) (sSet (.nm i) (mLc (own.map (·.2)) t mi cm m)) :=
  let q := lcB_of h
  ss_setLc own q.1 q.2.1 q.2.2.1 q.2.2.2.1 q.2.2.2.2 hi hB hg ht he hs
theorem ownLc_ {y : Str} {py : Pos} {elt tg it : Expr} {ifs : List Expr} {scope : Scope} {pos spos : Pos} {mi : MI} {t : Tg} {cm : MT} {m : M} (i : Nat) (own : List (Str × Nat)) (hi : SI (Cn.mk P w K mg base N sc k) tg it mi) (hg : SGb (Cn.mk P w K mg base N (relS scope sc) k) scope (own.map (·.2)) tg t) (ht : STL (Cn.mk P w K mg base N (relS scope sc) k) ifs cm) (he : SE (Cn.mk P w K mg base N (relS scope sc) k) elt m) (h : lcB N sc i y scope py.line pos.line = true := by decide +kernel) (hB : blkC N sc scope own = true := by decide +kernel)
    (hs : ∀ (env : Env) (x : Value), foldedSetIterable it env x = pure x := by intro _ _; rfl) : SS (Cn.mk P w K mg base N sc k) (.Assign [.Name y py] (.ListComp elt [⟨tg, it, ifs, 0⟩] scope pos) spos) (sOwn i (mLc (own.map (·.2)) t mi cm m)) :=
  let q := lcB_of h
  ss_ownLc own q.1 q.2.1 q.2.2.1 q.2.2.2.1 q.2.2.2.2 hi hB hg ht he hs
theorem lc_ {elt tg it : Expr} {ifs : List Expr} {scope : Scope} {pos : Pos} {mi : MI} {t : Tg} {cm : MT} {m : M} (own : List (Str × Nat)) (hi : SI (Cn.mk P w K mg base N sc k) tg it mi) (hg : SGb (Cn.mk P w K mg base N (relS scope sc) k) scope (own.map (·.2)) tg t) (ht : STL (Cn.mk P w K mg base N (relS scope sc) k) ifs cm) (he : SE (Cn.mk P w K mg base N (relS scope sc) k) elt m) (hB : blkC N sc scope own = true := by decide +kernel)
    (hs : ∀ (env : Env) (x : Value), foldedSetIterable it env x = pure x := by intro _ _; rfl) : SE (Cn.mk P w K mg base N sc k) (.ListComp elt [⟨tg, it, ifs, 0⟩] scope pos) (mLc (own.map (·.2)) t mi cm m) := se_lc own hi hB hg ht he hs
def par2B (N : List Str) (sc : Scope) (i j : Nat) (x y : Str) (ts vs : List Expr) : Bool := decide (N[i]? = some x) && decide (N[j]? = some y) && decide (i ≠ j) && decide (sc.names.lookup x = some .local) && decide (sc.names.lookup y = some .local) && (match sc.kind with | .function => true | _ => false) && decide (parF sc ts vs = some (some [x, y]))
theorem kindB_of {sc : Scope} (h : (match sc.kind with | .function => true | _ => false) = true) : sc.kind = .function := by
  split at h
  · assumption
  · cases h
theorem par2_ {x y : Str} {a b : Expr} {ms : List M} {px py pt pos : Pos} {kt k2 : Nat} {pt2 : Pos} (i j : Nat) (os : List Bool) (ha : SAF (Cn.mk P w K mg base N sc k) os [a, b] ms) (h : par2B N sc i j x y [.Name x px, .Name y py] [a, b] = true := by decide +kernel) (ho : os.length = 2 := by rfl)
    (hs : ∀ env : Env, swapsWithSole [.Tuple [.Name x px, .Name y py] kt pt] (.Tuple [a, b] k2 pt2) pos.line env = pure false := by intro _; rfl) :
    SS (Cn.mk P w K mg base N sc k) (.Assign [.Tuple [.Name x px, .Name y py] kt pt] (.Tuple [a, b] k2 pt2) pos) (sParN [i, j] os ms) := by
  simp only [par2B, Bool.and_eq_true, decide_eq_true_eq] at h
  obtain ⟨⟨⟨⟨⟨⟨h1, h2⟩, h3⟩, h4⟩, h5⟩, h6⟩, h7⟩ := h
  exact ss_par2 os h1 h2 h3 h4 h5 (kindB_of h6) ha h7 ho hs
def par3B (N : List Str) (sc : Scope) (i j l : Nat) (x y z : Str) (ts vs : List Expr) : Bool := decide (N[i]? = some x) && decide (N[j]? = some y) && decide (N[l]? = some z) && decide (i ≠ j ∧ i ≠ l ∧ j ≠ l) && decide (sc.names.lookup x = some .local) && decide (sc.names.lookup y = some .local) && decide (sc.names.lookup z = some .local) && (match sc.kind with | .function => true | _ => false) && decide (parF sc ts vs = some (some [x, y, z]))
theorem par3_ {x y z : Str} {a b e : Expr} {ms : List M} {px py pz pt pos : Pos} {kt k2 : Nat} {pt2 : Pos} (i j l : Nat) (os : List Bool) (ha : SAF (Cn.mk P w K mg base N sc k) os [a, b, e] ms) (h : par3B N sc i j l x y z [.Name x px, .Name y py, .Name z pz] [a, b, e] = true := by decide +kernel) (ho : os.length = 3 := by rfl)
    (hs : ∀ env : Env, swapsWithSole [.Tuple [.Name x px, .Name y py, .Name z pz] kt pt] (.Tuple [a, b, e] k2 pt2) pos.line env = pure false := by intro _; rfl) :
    SS (Cn.mk P w K mg base N sc k) (.Assign [.Tuple [.Name x px, .Name y py, .Name z pz] kt pt] (.Tuple [a, b, e] k2 pt2) pos) (sParN [i, j, l] os ms) := by
  simp only [par3B, Bool.and_eq_true, decide_eq_true_eq] at h
  obtain ⟨⟨⟨⟨⟨⟨⟨⟨h1, h2⟩, h3⟩, h4, h4', h4''⟩, h5⟩, h6⟩, h7⟩, h8⟩, h9⟩ := h
  exact ss_par3 os h1 h2 h3 h4 h4' h4'' h5 h6 h7 (kindB_of h8) ha h9 ho hs
theorem sgmc_ {x : Str} {pos : Pos} {es : List Expr} {ids : List Nat} (i : Nat) (r : SGm (Cn.mk P w K mg base N sc k) es ids) (h : stoB N sc i x = true := by decide +kernel) (hs : ∀ env : Env, (assignEach (.Name x pos :: es) env).map (·.2) = assign (.Name x pos) env :: (assignEach es env).map (·.2) := by intro _; rfl) : SGm (Cn.mk P w K mg base N sc k) (.Name x pos :: es) (i :: ids) :=
  let q := stoB_of h
  sgm_cons q.1 q.2 r hs
theorem tupN_ {ts vs : List Expr} {ids : List Nat} {ms : List M} {kt k2 : Nat} {p p2 pos : Pos} (os : List Bool) (ha : SAF (Cn.mk P w K mg base N sc k) os vs ms) (hg : SGm (Cn.mk P w K mg base N sc k) ts ids) (h : ((match sc.kind with | .function => true | _ => false) && decide (parF sc ts vs = some none)) = true := by decide +kernel) (hl : ms.length = ids.length := by rfl) (hl2 : ms.length ≤ 1000 := by decide) (hs : ∀ env : Env, swapsWithSole [.Tuple ts kt p] (.Tuple vs k2 p2) pos.line env = pure false := by intro _; rfl)
    (h1 : ∀ env : Env, (assignEach [.Tuple ts kt p] env).map (·.2) = [assign (.Tuple ts kt p) env] := by intro _; rfl) (hn : ∀ env : Env, (assignEach ts env).length = ids.length := by intro _; rfl) (hst : ∀ env : Env, (assignEach ts env).findIdx? (·.1) = none := by intro _; rfl) : SS (Cn.mk P w K mg base N sc k) (.Assign [.Tuple ts kt p] (.Tuple vs k2 p2) pos) (sParN ids os ms) := by
  simp only [Bool.and_eq_true, decide_eq_true_eq] at h
  exact ss_tupN os ha hg (kindB_of h.1) h.2 hl hl2 hs h1 hn hst
theorem tup_ {ts vs : List Expr} {t : Tg} {m : M} {kt k2 : Nat} {p p2 pos : Pos} (he : SE (Cn.mk P w K mg base N sc k) (.Tuple vs k2 p2) m) (hg : SG (Cn.mk P w K mg base N sc k) (.Tuple ts kt p) t) (h : ((match sc.kind with | .function => true | _ => false) && decide (parF sc ts vs = some none)) = true := by decide +kernel) (hs : ∀ env : Env, swapsWithSole [.Tuple ts kt p] (.Tuple vs k2 p2) pos.line env = pure false := by intro _; rfl)
    (h1 : ∀ env : Env, (assignEach [.Tuple ts kt p] env).map (·.2) = [assign (.Tuple ts kt p) env] := by intro _; rfl) : SS (Cn.mk P w K mg base N sc k) (.Assign [.Tuple ts kt p] (.Tuple vs k2 p2) pos) (sSet t m) := by
  simp only [Bool.and_eq_true, decide_eq_true_eq] at h
  exact ss_tup he hg (kindB_of h.1) h.2 hs h1
end
end Yd

namespace Yd
open PySem PySem.Spec PyProof.Rows L2
section
variable {c : Cn}
/-- f() -/
theorem se_call0 {n k : Nat} {f : Addr} {fd : FuncData} {ps : List Str} {cal : FnM} {x : Str} {p pos : Pos} (F : FnG c.P c.w c.K c.mg c.base k f fd ps (spEv c.K n cal)) (hk : k ≤ c.lvl) (hg : c.sc.names.lookup x = some .globalImplicit) (hm : c.mg x = some (.ref f))
    (hkp : PySem.W.keepIn c.K (.ref f) = true) (hb : Binds c.K fd ps []) (hn : 0 = n) (hdb : (x == ("__debug__" : Str)) = false := by decide) : SE c (.Call (.Name x p) [] [] pos) (mCall cal []) := fun X ok => by
  obtain ⟨XP, Xw, XK, Xmg, Xb, XN, Xsc, Xnd, Xc, Xr, Xo, Xg⟩ := id ok
  refine ⟨fun pins s σ H Q I h => ?_⟩
  obtain ⟨g, s0, r0, s', R, hm', hq⟩ := h
  obtain ⟨⟨rs, s1⟩, e1, hm'⟩ := bind_ok hm'
  obtain ⟨⟨as, s2⟩, e2, hm'⟩ := bind_ok hm'
  obtain ⟨⟨r, cu⟩, e3, hm'⟩ := bind_ok hm'
  cases hm'
  refine wpAny_Call_Name_kw (ld_glob I (gl_of ok hg) (by rw [Xmg]; exact hm) ?_ hdb)
  have e1' : mL [] s0 = .ok (rs, s1) := e1
  cases e1'
  refine PySem.W.callWith_K0 I.kIn (by rw [XK]; exact hkp) ?_
  have hv : RVzs X.K g.F σ [] [] := rfl
  have R1 := R
  have I1 := I
  obtain ⟨g2, u2, R2, ha2⟩ := R1.args hv e2
  have hspec : spEv c.K n cal [] H (fun v H2 => Q v H2) (fun _ _ _ => False) := by
    rw [← XK]
    refine ⟨{ g2 with pr := prOf g2 H }, as, s2.cup, r, cu, ?_, R2.enter, ?_, e3, fun g3 v H2 u3 R3 hv3 => ?_⟩
    · rw [← ha2.len]
      exact hn
    · exact ha2.up ⟨rfl, fun _ h => h, Sub.refl _⟩ |> fun h => by
        have : ∀ {as : List Arg} {vs : List V}, AReps X.K g2 as vs → AReps X.K { g2 with pr := prOf g2 H } as vs := by
          intro as
          induction as with
          | nil => intro vs h; exact h
          | cons a as ih =>
            intro vs h
            obtain ⟨v, r, h1, h2, h3⟩ := h
            refine ⟨v, r, h1, ?_, ih h3⟩
            cases a with
            | d x => exact h2
            | cup => exact h2
        exact this ha2
    · obtain ⟨u4, R4⟩ := R2.leave u3 R3
      exact hq _ v H2 (u2.trans u4) R4 (RVal.leave R2 u3 hv3)
  have hl : ([] : List Value).length = ps.length := F.len _ _ _ _ hspec
  refine wpAny_call (codeAny_mono ((show FnG X.prog X.w X.K X.mg X.base k f fd ps (spEv c.K n cal) by rw [XP, Xw, XK, Xmg, Xb]; exact F).run X.A X.stack s H ⟨[], []⟩ [] [] Q (fun _ _ _ => False) Xg (Xr.mono hk) I1.env0 (hb s [] (by rw [← XK]; exact I1.kIn) hl) .nil hspec) fun r s' hq' => ?_)
  cases r with
  | error e => exact False.elim hq'
  | ok fl =>
    cases fl with
    | ret u => exact I1.after hq'
    | next => exact False.elim hq'
    | brk => exact False.elim hq'
    | cont => exact False.elim hq'

/-- name = [..] that is no swap -/
def swB (sc : Scope) (y : Str) (scope : Scope) (l1 l2 : Nat) : Bool := sc.names.lookup y == some .local && l1 == l2 && !(scope.names.any fun (n, k) => n == y && (k == .local || k == .cell))
theorem sw_no {env : Env} {sc : Scope} (hs : env.scope = sc) {elt : Expr} {gs : List Comprehension} {scope : Scope} {pos py : Pos} {y : Str} {l : Nat} (h : swB sc y scope py.line pos.line = false) : swapsWith (.ListComp elt gs scope pos) (some (.Name y py)) l env = pure false := by
  subst hs
  have : (env.blockKind == .function && env.kindOf y == some .local && py.line == pos.line && !(scope.names.any fun (n, k) => n == y && (k == .local || k == .cell))) = false := by
    show (env.blockKind == .function && env.scope.names.lookup y == some .local && py.line == pos.line && !(scope.names.any fun (n, k) => n == y && (k == .local || k == .cell))) = false
    unfold swB at h
    cases hb : (env.blockKind == ScopeKind.function)
    · rfl
    · simpa using h
  show (pure (env.blockKind == .function && env.kindOf y == some .local && py.line == pos.line && !(scope.names.any fun (n, k) => n == y && (k == .local || k == .cell))) : Sem Bool) = pure false
  rw [this]
end
section
variable {P : Program} {w : World} {K : PySem.W.Frag} {mg : Str → Option Value} {base : Heap} {N : List Str} {sc : Scope} {k : Nat}
theorem call0_ {j : Nat} {f : Addr} {fd : FuncData} {cal : FnM} {x : Str} {p pos : Pos} (F : FnG P w K mg base j f fd [] (spEv K 0 cal)) (hm : mg x = some (.ref f)) (hkp : PySem.W.keepIn K (.ref f) = true) (hb : Binds K fd [] []) (hk : j ≤ k := by decide)
    (h : (gB sc x && nmB x) = true := by decide +kernel) : SE (Cn.mk P w K mg base N sc k) (.Call (.Name x p) [] [] pos) (mCall cal []) := by
  simp only [Bool.and_eq_true] at h
  exact se_call0 F hk (gB_of h.1) hm hkp hb rfl (nmB_of h.2).1
theorem setC_ {y : Str} {py : Pos} {elt : Expr} {gs : List Comprehension} {scope : Scope} {pos spos : Pos} {m : M} (i : Nat) (he : SE (Cn.mk P w K mg base N sc k) (.ListComp elt gs scope pos) m) (h : (stoB N sc i y && !swB sc y scope py.line pos.line) = true := by decide +kernel) : SS (Cn.mk P w K mg base N sc k) (.Assign [.Name y py] (.ListComp elt gs scope pos) spos) (sSet (.nm i) m) := fun X ok hf => by
  simp only [Bool.and_eq_true, Bool.not_eq_true'] at h
  have q := stoB_of h.1
  exact (ps_set (X := X) (i := i) (by rw [ok.N]; exact ok.nd) (by rw [ok.N]; exact q.1) (by rw [ok.sc]; exact q.2) (he X ok) (sw_no ok.sc h.2) (loc_fn ok hf q.2)).pre fun D σ H => t_set
theorem ownC_ {y : Str} {py : Pos} {elt : Expr} {gs : List Comprehension} {scope : Scope} {pos spos : Pos} {m : M} (i : Nat) (he : SE (Cn.mk P w K mg base N sc k) (.ListComp elt gs scope pos) m) (h : (stoB N sc i y && !swB sc y scope py.line pos.line) = true := by decide +kernel) : SS (Cn.mk P w K mg base N sc k) (.Assign [.Name y py] (.ListComp elt gs scope pos) spos) (sOwn i m) := fun X ok hf => by
  simp only [Bool.and_eq_true, Bool.not_eq_true'] at h
  have q := stoB_of h.1
  exact (ps_set (X := X) (i := i) (by rw [ok.N]; exact ok.nd) (by rw [ok.N]; exact q.1) (by rw [ok.sc]; exact q.2) (he X ok) (sw_no ok.sc h.2) (loc_fn ok hf q.2)).pre fun D σ H => t_own
end
end Yd

namespace Yd
open PySem PySem.Spec PyProof.Rows L2
/-! data that stands in the written part -/
mutual
def repK (K : PySem.W.Frag) : Nat → Value → D → Bool
  | 0, _, _ => false
  | n + 1, u, d => match u, d with
    | .none, .none => true
    | .bool a, .bool b => a == b
    | .int i _, .int j => i == j
    | .str x _, .str y => x == y
    | .ref a, .tuple ds => match K.lookup a with
      | some o => (o.cls == .type "tuple") && (match o.data with
        | .seq its _ => decide (its.size ≤ sizeLine) && repKs K n its.toList ds
        | _ => false)
      | _ => false
    | _, _ => false
def repKs (K : PySem.W.Frag) : Nat → List Value → List D → Bool
  | _, [], [] => true
  | 0, _, _ => false
  | n + 1, u :: us, d :: ds => repK K n u d && repKs K (n + 1) us ds
  | _, _, _ => false
end
mutual
theorem repK_of {K : PySem.W.Frag} : ∀ {n : Nat} {u : Value} {d : D}, repK K n u d = true → ∃ v, RelV v u ∧ ∀ F, Rep K F d v
  | 0, u, d, h => by simp [repK] at h
  | n + 1, u, d, h => by
    unfold repK at h
    split at h
    · exact ⟨.non, rfl, fun F => by simp only [Rep]⟩
    · rename_i a b
      obtain rfl : a = b := by simpa using h
      exact ⟨.bl a, rfl, fun F => by simp only [Rep]⟩
    · rename_i i t j
      obtain rfl : i = j := by simpa using h
      exact ⟨.int i, ⟨t, rfl⟩, fun F => by simp only [Rep]⟩
    · rename_i x t y
      obtain rfl : x = y := by simpa using h
      exact ⟨.str x, ⟨t, rfl⟩, fun F => by simp only [Rep]⟩
    · rename_i a ds
      split at h
      · rename_i o ho
        simp only [Bool.and_eq_true, beq_iff_eq] at h
        obtain ⟨hc, h⟩ := h
        split at h
        · rename_i its m hd
          simp only [Bool.and_eq_true, decide_eq_true_eq] at h
          obtain ⟨vs, h1, h2⟩ := repKs_of h.2
          refine ⟨.ref a, rfl, fun F => ?_⟩
          simp only [Rep]
          exact ⟨a, vs, rfl, .inr ⟨o, its, m, ho, hc, hd, h.1, h1⟩, h2 F⟩
        · cases h
      · cases h
    · cases h
theorem repKs_of {K : PySem.W.Frag} : ∀ {n : Nat} {us : List Value} {ds : List D}, repKs K n us ds = true → ∃ vs, Vals vs us ∧ ∀ F, Reps K F ds vs
  | n, [], [], h => ⟨[], .nil, fun F => by simp only [Reps]⟩
  | 0, u :: us, ds, h => by cases ds <;> simp [repKs] at h
  | 0, [], d :: ds, h => by simp [repKs] at h
  | n + 1, u :: us, d :: ds, h => by
    simp only [repKs, Bool.and_eq_true] at h
    obtain ⟨v, h1, h2⟩ := repK_of h.1
    obtain ⟨vs, h3, h4⟩ := repKs_of h.2
    refine ⟨v :: vs, .cons h1 h3, fun F => ?_⟩
    simp only [Reps]
    exact ⟨v, vs, rfl, h2 F, h4 F⟩
  | n + 1, [], d :: ds, h => by simp [repKs] at h
  | n + 1, u :: us, [], h => by simp [repKs] at h
end
theorem repI {K : PySem.W.Frag} {i : Int} {t : Tok} : ∃ v, RelV v (.int i t) ∧ ∀ F, Rep K F (.int i) v := ⟨.int i, ⟨t, rfl⟩, fun F => by simp only [Rep]⟩
theorem repN {K : PySem.W.Frag} : ∃ vs, Vals vs [] ∧ ∀ F, Reps K F [] vs := ⟨[], .nil, fun F => by simp only [Reps]⟩
theorem repC {K : PySem.W.Frag} {u : Value} {us : List Value} {d : D} {ds : List D} (h1 : ∃ v, RelV v u ∧ ∀ F, Rep K F d v) (h2 : ∃ vs, Vals vs us ∧ ∀ F, Reps K F ds vs) : ∃ vs, Vals vs (u :: us) ∧ ∀ F, Reps K F (d :: ds) vs := by
  obtain ⟨v, a, b⟩ := h1
  obtain ⟨vs, c, d⟩ := h2
  exact ⟨v :: vs, .cons a c, fun F => by simp only [Reps]; exact ⟨v, vs, rfl, b F, d F⟩⟩
theorem repT {K : PySem.W.Frag} {a : Addr} {od : Option Addr} {its : Array Value} {n : Nat} {sl : Array (Option Value)} {ds : List D} (l : K.lookup a = some ⟨.type "tuple", od, .seq its n, sl⟩) {m : Nat} (hm : its.size = m) (hz : m ≤ sizeLine) (h : ∃ vs, Vals vs its.toList ∧ ∀ F, Reps K F ds vs) : ∃ v, RelV v (.ref a) ∧ ∀ F, Rep K F (.tuple ds) v := by
  obtain ⟨vs, h1, h2⟩ := h
  refine ⟨.ref a, rfl, fun F => ?_⟩
  simp only [Rep]
  exact ⟨a, vs, rfl, .inr ⟨_, its, n, l, rfl, rfl, by rw [hm]; exact hz, h1⟩, h2 F⟩
end Yd

namespace Yd
open PySem PySem.Spec PyProof.Rows L2
/-! how the combinators run on written-out states -/
section
variable {s : Sta} {d e : D} {i : Nat} {E : List Slot} {cu : Option (List D)}
@[simp] theorem there_sh : there (some (.sh d)) = true := rfl
@[simp] theorem there_ow : there (some (.ow d)) = true := rfl
@[simp] theorem there_cup : there (some .cup) = true := rfl
@[simp] theorem rdSlot_sh : rdSlot (some (.sh d)) cu = .ok d := rfl
@[simp] theorem rdSlot_ow : rdSlot (some (.ow d)) cu = .ok d := rfl
@[simp] theorem rdSlot_cup {ds : List D} : rdSlot (some .cup) (some ds) = .ok (.list ds) := rfl
@[simp] theorem rd_sh : rd s (.sh d) = .ok d := rfl
@[simp] theorem rd_fr : rd s (.fr d) = .ok d := rfl
@[simp] theorem rd_sl : rd s (.sl i) = rdSlot s.env[i]? s.cup := rfl
@[simp] theorem tkSlot_sh : tkSlot s i (some (.sh d)) = .ok (d, s) := rfl
@[simp] theorem tkSlot_ow : tkSlot s i (some (.ow d)) = .ok (d, { s with env := s.env.set i (.sh d) }) := rfl
@[simp] theorem tk_sh : tk s (.sh d) = .ok (d, s) := rfl
@[simp] theorem tk_fr : tk s (.fr d) = .ok (d, s) := rfl
@[simp] theorem tk_sl : tk s (.sl i) = tkSlot s i s.env[i]? := rfl
@[simp] theorem mCst_e : mCst d s = .ok (.sh d, s) := rfl
@[simp] theorem mVar_e : mVar i s = if there s.env[i]? then .ok (.sl i, s) else .no := rfl
@[simp] theorem m1_e {f : D → Res RV} {a : M} : m1 f a s = (do
  let (r, s1) ← a s
  let d ← rd s1 r
  let v ← f d
  .ok (v, s1)) := rfl
@[simp] theorem m2_e {f : D → D → Res RV} {a b : M} : m2 f a b s = (do
  let (r1, s1) ← a s
  let (r2, s2) ← b s1
  let d1 ← rd s2 r1
  let d2 ← rd s2 r2
  let v ← f d1 d2
  .ok (v, s2)) := rfl
@[simp] theorem mL_nil : mL [] s = .ok ([], s) := rfl
@[simp] theorem mL_cons {m : M} {r : List M} : mL (m :: r) s = (do
    let (v, s1) ← m s
    let (vs, s2) ← mL r s1
    .ok (v :: vs, s2)) := rfl
@[simp] theorem tks_nil : tks [] s = .ok ([], s) := rfl
@[simp] theorem tks_cons {v : RV} {r : List RV} : tks (v :: r) s = (do
    let (d, s1) ← tk s v
    let (ds, s2) ← tks r s1
    .ok (d :: ds, s2)) := rfl
@[simp] theorem rds_nil : rds s [] = .ok [] := rfl
@[simp] theorem rds_cons {v : RV} {r : List RV} : rds s (v :: r) = (do
    let d ← rd s v
    let ds ← rds s r
    .ok (d :: ds)) := rfl
@[simp] theorem mTup_e {ms : List M} : mTup ms s = (do
  let (vs, s1) ← mL ms s
  let (ds, s2) ← tks vs s1
  .ok (.sh (.tuple ds), s2)) := rfl
@[simp] theorem mLst_e {ms : List M} : mLst ms s = (do
  let (vs, s1) ← mL ms s
  let (ds, s2) ← tks vs s1
  .ok (.fr (.list ds), s2)) := rfl
@[simp] theorem mB_e {f : List D → Res RV} {ms : List M} : mB f ms s = (do
  let (vs, s1) ← mL ms s
  let ds ← rds s1 vs
  let v ← f ds
  .ok (v, s1)) := rfl
@[simp] theorem argSlot_cup : argSlot s i (some .cup) = .ok (.cup, s) := rfl
@[simp] theorem argSlot_sh : argSlot s i (some (.sh d)) = .ok (.d d, s) := rfl
@[simp] theorem argSlot_ow : argSlot s i (some (.ow d)) = .ok (.d d, { s with env := s.env.set i (.sh d) }) := rfl
@[simp] theorem arg1_sl : arg1 s (.sl i) = argSlot s i s.env[i]? := rfl
@[simp] theorem arg1_sh : arg1 s (.sh d) = .ok (.d d, s) := rfl
@[simp] theorem arg1_fr : arg1 s (.fr d) = .ok (.d d, s) := rfl
@[simp] theorem args_nil : args [] s = .ok ([], s) := rfl
@[simp] theorem args_cons {v : RV} {r : List RV} : args (v :: r) s = (do
    let (d, s1) ← arg1 s v
    let (ds, s2) ← args r s1
    .ok (d :: ds, s2)) := rfl
@[simp] theorem rvOf_t : rvOf (true, d) = .fr d := rfl
@[simp] theorem rvOf_f : rvOf (false, d) = .sh d := rfl
theorem tOf_e {m : M} : tOf m s = (do
  let (r, s1) ← m s
  match rd s1 r with
  | .ok (.bool b) => .ok (b, s1)
  | _ => .no) := rfl
@[simp] theorem tNot_e {t : MT} : tNot t s = (do
  let (b, s1) ← t s
  .ok (!b, s1)) := rfl
@[simp] theorem tAnd_e {t u : MT} : tAnd t u s = (do
  let (b, s1) ← t s
  if b then u s1 else .ok (false, s1)) := rfl
@[simp] theorem tOr_e {t u : MT} : tOr t u s = (do
  let (b, s1) ← t s
  if b then .ok (true, s1) else u s1) := rfl
@[simp] theorem mIf_e {t : MT} {a b : M} : mIf t a b s = (do
  let (k, s1) ← t s
  if k then a s1 else b s1) := rfl
@[simp] theorem sSkip_e : sSkip s = .ok (.nx, s) := rfl
@[simp] theorem sSeq_e {a b : Yd.St} : sSeq a b s = (do
  let (f, s1) ← a s
  match f with
  | .nx => b s1
  | f => .ok (f, s1)) := rfl
@[simp] theorem putSlot_e {x : Slot} : putSlot s i x = { s with env := s.env.set i x } := rfl
@[simp] theorem put_nm : put (.nm i) d s = .ok { s with env := s.env.set i (.sh d) } := by simp only [put, putSlot_e]
@[simp] theorem put_tp {ts : List Tg} {ds : List D} : put (.tp ts) (.tuple ds) s = puts ts ds s := by simp only [put]
@[simp] theorem puts_nil : puts [] [] s = .ok s := by simp only [puts]
@[simp] theorem puts_cons {t : Tg} {ts : List Tg} {ds : List D} : puts (t :: ts) (d :: ds) s = (do
    let s1 ← put t d s
    puts ts ds s1) := by simp only [puts]
@[simp] theorem sSet_e {t : Tg} {m : M} : sSet t m s = (do
  let (r, s1) ← m s
  let (d, s2) ← tk s1 r
  let s3 ← put t d s2
  .ok (.nx, s3)) := rfl
theorem sOwn_e {m : M} : sOwn i m s = (do
  let (r, s1) ← m s
  match r with
  | .fr d => .ok (.nx, putSlot s1 i (.ow d))
  | _ => .no) := rfl
theorem sCup_e {m : M} : sCup i m s = (do
  let (r, s1) ← m s
  match r, s1.cup with
  | .fr (.list ds), none => .ok (.nx, { env := s1.env.set i .cup, cup := some ds })
  | _, _ => .no) := rfl
@[simp] theorem sExp_e {m : M} : sExp m s = (do
  let (_, s1) ← m s
  .ok (.nx, s1)) := rfl
@[simp] theorem retSlot_ow : retSlot s i (some (.ow d)) = .ok ((true, d), { s with env := s.env.set i .un }) := rfl
@[simp] theorem retSlot_sh : retSlot s i (some (.sh d)) = .ok ((false, d), s) := rfl
@[simp] theorem ret_fr : Yd.ret s (.fr d) = .ok ((true, d), s) := rfl
@[simp] theorem ret_sh : Yd.ret s (.sh d) = .ok ((false, d), s) := rfl
@[simp] theorem ret_sl : Yd.ret s (.sl i) = retSlot s i s.env[i]? := rfl
@[simp] theorem sRet_e {m : M} : sRet m s = (do
  let (r, s1) ← m s
  let (x, s2) ← Yd.ret s1 r
  .ok (.rt x, s2)) := rfl
@[simp] theorem sIf_e {t : MT} {a b : Yd.St} : sIf t a b s = (do
  let (k, s1) ← t s
  if k then a s1 else b s1) := rfl
@[simp] theorem mCall_e {cal : FnM} {ms : List M} : mCall cal ms s = (do
  let (vs, s1) ← mL ms s
  let (as, s2) ← args vs s1
  let (r, c) ← cal as s2.cup
  .ok (rvOf r, { s2 with cup := c })) := rfl
theorem runFn_e {n : Nat} {b : Yd.St} {as : List Arg} : runFn n b as cu = (do
  let (f, s) ← b ⟨as.map slotOf ++ List.replicate (n - as.length) .un, cu⟩
  match f with
  | .rt x => .ok (x, s.cup)
  | .nx => .ok ((false, .none), s.cup)
  | _ => .no) := rfl
@[simp] theorem slotOf_d : slotOf (.d d) = .sh d := rfl
@[simp] theorem slotOf_cup : slotOf .cup = .cup := rfl
@[simp] theorem mIt_e {m : M} : mIt m s = (do
  let (r, s1) ← m s
  let (d, s2) ← tk s1 r
  match d with
  | .list ds => .ok (ds, s2)
  | .tuple ds => .ok (ds, s2)
  | _ => .no) := rfl
@[simp] theorem sFor_e {t : Tg} {it : MI} {b : Yd.St} : sFor t it b s = (do
  let (ds, s1) ← it s
  forL t b ds s1) := rfl
@[simp] theorem forL_nil {t : Tg} {b : Yd.St} : forL t b [] s = .ok (.nx, s) := rfl
theorem forL_cons {t : Tg} {b : Yd.St} {ds : List D} : forL t b (d :: ds) s = (do
    let s1 ← put t d s
    let (f, s2) ← b s1
    match f with
    | .nx => forL t b ds s2
    | .ct => forL t b ds s2
    | .bk => .ok (.nx, s2)
    | .rt r => .ok (.rt r, s2)) := rfl
@[simp] theorem cYes_e : cYes s = .ok (true, s) := rfl
end
/-! the arithmetic -/
section
variable {i j : Int} {a b : D}
@[simp] theorem fAdd_i : fAdd (.int i) (.int j) = .ok (.sh (.int (i + j))) := rfl
@[simp] theorem fSub_i : fSub (.int i) (.int j) = .ok (.sh (.int (i - j))) := rfl
@[simp] theorem fNeg_i : fNeg (.int i) = .ok (.sh (.int (-i))) := rfl
@[simp] theorem fLt_i : fLt (.int i) (.int j) = .ok (.sh (.bool (decide (i < j)))) := rfl
@[simp] theorem fGt_i : fGt (.int i) (.int j) = .ok (.sh (.bool (decide (j < i)))) := rfl
@[simp] theorem fLe_i : fLe (.int i) (.int j) = .ok (.sh (.bool (decide (i ≤ j)))) := rfl
@[simp] theorem fGe_i : fGe (.int i) (.int j) = .ok (.sh (.bool (decide (j ≤ i)))) := rfl
theorem fDiv_i (h : 0 < j) (h2 : j < 1073741824) : fDiv (.int i) (.int j) = .ok (.sh (.int (i / j))) := by
  show (if 0 < j ∧ j < 1073741824 then _ else _) = _
  rw [if_pos ⟨h, h2⟩]
theorem fMod_i (h : 0 < j) : fMod (.int i) (.int j) = .ok (.sh (.int (i % j))) := by
  show (if 0 < j then _ else _) = _
  rw [if_pos h]
theorem fMul_i (h : (smallI i || smallI j) = true) : fMul (.int i) (.int j) = .ok (.sh (.int (i * j))) := by
  show (if smallI i || smallI j then _ else _) = _
  rw [if_pos h]
@[simp] theorem ok_int' : okD (.int i) = true := rfl
@[simp] theorem ok_bool' {x : Bool} : okD (.bool x) = true := rfl
@[simp] theorem ok_none' : okD .none = true := rfl
@[simp] theorem ok_str' {x : Str} : okD (.str x) = true := rfl
end
/-! comprehensions -/
def lcT (vs : List Nat) (t : Tg) (c : MT) (m : M) (s : Sta) (d : D) : Res (Option D × Sta) := do
  let s1 ← put t d s
  let (k, s2) ← c s1
  if k then
    let (r, s3) ← m s2
    let (x, s4) ← tk s3 r
    .ok (some x, { s4 with env := wipes vs s4.env })
  else .ok (none, { s2 with env := wipes vs s2.env })
theorem lcL_cons {vs : List Nat} {t : Tg} {c : MT} {m : M} {s : Sta} {d : D} {ds acc : List D} : lcL vs t c m (d :: ds) acc s = (do
    let (o, s1) ← lcT vs t c m { s with env := wipes vs s.env } d
    lcL vs t c m ds (acc ++ o.toList) s1) := by
  simp only [lcL, lcT]
  cases h1 : put t d { s with env := wipes vs s.env } with
  | no => rfl
  | err x => rfl
  | ok s1 =>
    simp only [Res.bind_ok]
    cases h2 : c s1 with
    | no => rfl
    | err x => rfl
    | ok p =>
      obtain ⟨k, s2⟩ := p
      simp only [Res.bind_ok]
      cases k with
      | false => simp
      | true =>
        simp only [if_true]
        cases h3 : m s2 with
        | no => rfl
        | err x => rfl
        | ok p =>
          obtain ⟨r, s3⟩ := p
          simp only [Res.bind_ok]
          cases h4 : tk s3 r with
          | no => rfl
          | err x => rfl
          | ok p => rfl
/-- a comprehension that leaves all as it is -/
theorem lcL_pure {vs : List Nat} {t : Tg} {c : MT} {m : M} (f : D → Option D) {E : List Slot} {cu : Option (List D)} (hE : wipes vs E = E) : ∀ {ds acc : List D}, (∀ d ∈ ds, lcT vs t c m ⟨E, cu⟩ d = .ok (f d, ⟨E, cu⟩)) → ∀ {s : Sta}, wipes vs s.env = E → s.cup = cu → ∃ s', lcL vs t c m ds acc s = .ok (acc ++ ds.filterMap f, s') ∧ wipes vs s'.env = E ∧ s'.cup = cu ∧ (s' = s ∨ s' = ⟨E, cu⟩)
  | [], acc, h, s, h1, h2 => ⟨s, by simp [lcL], h1, h2, .inl rfl⟩
  | d :: ds, acc, h, s, h1, h2 => by
    obtain ⟨s', e, h3, h4, h5⟩ := lcL_pure f hE (ds := ds) (acc := acc ++ (f d).toList) (fun x hx => h x (by simp [hx])) (s := ⟨E, cu⟩) hE rfl
    refine ⟨s', ?_, h3, h4, ?_⟩
    · rw [lcL_cons, show ({ env := wipes vs s.env, cup := s.cup } : Sta) = ⟨E, cu⟩ by rw [h1, h2], h d (by simp)]
      simp only [Res.bind_ok]
      rw [e]
      cases hf : f d <;> simp [List.filterMap_cons, hf]
    · rcases h5 with h5 | h5
      · exact .inr h5
      · exact .inr h5
def noOw (E0 : List Slot) (vs : List Nat) : Prop := ∀ i ∈ vs, ∀ d, E0[i]? ≠ some (.ow d)
theorem backs_at {E0 E : List Slot} (hl : E.length = E0.length) : ∀ {vs : List Nat}, noOw E0 vs → ∀ j, (backs E0 vs E)[j]? = if j ∈ vs then E0[j]? else E[j]?
  | [], _, j => by simp [backs]
  | v :: vs, hn, j => by
    have ih := backs_at hl (vs := vs) (fun i hi => hn i (by simp [hi])) j
    simp only [backs]
    split
    · rename_i d hd
      exact absurd hd (hn v (by simp) d)
    · rename_i x hx hv
      by_cases hj : v = j
      · subst hj
        have hlt : v < E0.length := (List.getElem?_eq_some_iff.mp hv).1
        rw [List.getElem?_set_self (by rw [backs_length, hl]; exact hlt), if_pos (by simp), hv]
      · rw [List.getElem?_set_ne hj, ih]
        simp [Ne.symm hj]
    · rename_i hv
      rw [ih]
      by_cases hj : j = v
      · subst hj
        have h1 : E0.length ≤ j := List.getElem?_eq_none_iff.mp hv
        have h2 : E[j]? = none := List.getElem?_eq_none (by omega)
        rw [h2, if_pos (show j ∈ j :: vs from List.mem_cons_self)]
        split
        · rfl
        · exact hv.symm
      · have : (j ∈ v :: vs) = (j ∈ vs) := by simp [hj]
        simp only [this]
theorem backs_self {E0 E : List Slot} {vs : List Nat} (hl : E.length = E0.length) (hn : noOw E0 vs) (h : ∀ j, j ∉ vs → E[j]? = E0[j]?) : backs E0 vs E = E0 := by
  apply List.ext_getElem?
  intro j
  rw [backs_at hl hn]
  split
  · rfl
  · exact h j (by assumption)
theorem mLc_pure {vs : List Nat} {t : Tg} {it : MI} {c : MT} {m : M} {s s1 : Sta} {ds : List D} (f : D → Option D) (hit : it s = .ok (ds, s1)) (hl : ds.length ≤ lim) (hn : noOw s1.env vs)
    (h : ∀ d ∈ ds, lcT vs t c m ⟨wipes vs s1.env, s1.cup⟩ d = .ok (f d, ⟨wipes vs s1.env, s1.cup⟩)) : mLc vs t it c m s = .ok (.fr (.list (ds.filterMap f)), s1) := by
  obtain ⟨s', e, h1, h2, h3⟩ := lcL_pure f (wipes_twice s1.env vs) (acc := []) h (s := s1) rfl rfl
  show (do
    let (ds, s1) ← it s
    Res.guard (decide (ds.length ≤ lim))
    let (acc, s2) ← lcL vs t c m ds [] s1
    Res.ok (RV.fr (.list acc), { s2 with env := backs s1.env vs s2.env })) = _
  rw [hit]
  simp only [Res.bind_ok, hl, decide_true, Res.guard_true, e, List.nil_append]
  have : ({ env := backs s1.env vs s'.env, cup := s'.cup } : Sta) = s1 := by
    rw [h2]
    rcases h3 with h3 | h3
    · subst h3
      rw [backs_self rfl hn fun _ _ => rfl]
    · subst h3
      rw [backs_self (wipes_length _ _) hn fun j hj => wipes_out hj]
  rw [this]
/-- a comprehension over a state that turns -/
theorem lcL_inv {vs : List Nat} {t : Tg} {c : MT} {m : M} {E : List Slot} (hE : wipes vs E = E) (I : Option (List D) → Prop) (P : D → D → Prop) : ∀ {ds acc : List D}, (∀ d ∈ ds, ∀ cu, I cu → ∃ x cu', lcT vs t c m ⟨E, cu⟩ d = .ok (some x, ⟨E, cu'⟩) ∧ I cu' ∧ P d x) → ∀ {s : Sta}, wipes vs s.env = E → I s.cup →
    ∃ s' xs, lcL vs t c m ds acc s = .ok (acc ++ xs, s') ∧ wipes vs s'.env = E ∧ I s'.cup ∧ (s'.env = s.env ∨ s'.env = E) ∧ xs.length = ds.length ∧ ∀ (i : Nat) d x, ds[i]? = some d → xs[i]? = some x → P d x
  | [], acc, h, s, h1, h2 => ⟨s, [], by simp [lcL], h1, h2, .inl rfl, rfl, fun i d x h => by simp at h⟩
  | d :: ds, acc, h, s, h1, h2 => by
    obtain ⟨x, cu', e1, i1, p1⟩ := h d (by simp) s.cup h2
    obtain ⟨s', xs, e, h3, h4, h5, h6, h7⟩ := lcL_inv hE I P (ds := ds) (acc := acc ++ [x]) (fun x hx => h x (by simp [hx])) (s := ⟨E, cu'⟩) hE i1
    refine ⟨s', x :: xs, ?_, h3, h4, .inr ?_, by simp [h6], fun i d' x' q1 q2 => ?_⟩
    · rw [lcL_cons, h1, e1]
      simp only [Res.bind_ok, Option.toList]
      rw [e, List.append_assoc]
      rfl
    · rcases h5 with h5 | h5 <;> exact h5
    · cases i with
      | zero => simp at q1 q2; subst q1 q2; exact p1
      | succ i => simp at q1 q2; exact h7 i d' x' q1 q2
theorem mLc_inv {vs : List Nat} {t : Tg} {it : MI} {c : MT} {m : M} {s s1 : Sta} {ds : List D} (I : Option (List D) → Prop) (P : D → D → Prop) (hit : it s = .ok (ds, s1)) (hl : ds.length ≤ lim) (hn : noOw s1.env vs) (hI : I s1.cup)
    (h : ∀ d ∈ ds, ∀ cu, I cu → ∃ x cu', lcT vs t c m ⟨wipes vs s1.env, cu⟩ d = .ok (some x, ⟨wipes vs s1.env, cu'⟩) ∧ I cu' ∧ P d x) :
    ∃ xs cu', mLc vs t it c m s = .ok (.fr (.list xs), ⟨s1.env, cu'⟩) ∧ I cu' ∧ xs.length = ds.length ∧ ∀ (i : Nat) d x, ds[i]? = some d → xs[i]? = some x → P d x := by
  obtain ⟨s', xs, e, h1, h2, h3, h4, h5⟩ := lcL_inv (wipes_twice s1.env vs) I P (acc := []) h (s := s1) rfl hI
  refine ⟨xs, s'.cup, ?_, h2, h4, h5⟩
  show (do
    let (ds, s1) ← it s
    Res.guard (decide (ds.length ≤ lim))
    let (acc, s2) ← lcL vs t c m ds [] s1
    Res.ok (RV.fr (.list acc), { s2 with env := backs s1.env vs s2.env })) = _
  rw [hit]
  simp only [Res.bind_ok, hl, decide_true, Res.guard_true, e, List.nil_append]
  have : backs s1.env vs s'.env = s1.env := by
    rcases h3 with h3 | h3
    · rw [h3, backs_self rfl hn fun _ _ => rfl]
    · rw [h3, backs_self (wipes_length _ _) hn fun j hj => wipes_out hj]
  rw [this]
theorem filterMap_some {α β : Type} (f : α → β) (l : List α) : l.filterMap (fun x => some (f x)) = l.map f := by
  induction l with
  | nil => rfl
  | cons a l ih => simp [ih]
theorem noOw_nil {E : List Slot} : noOw E [] := fun i h => by simp at h
theorem noOw_cons {E : List Slot} {i : Nat} {vs : List Nat} (h : ∀ d, E[i]? ≠ some (.ow d)) (r : noOw E vs) : noOw E (i :: vs) := fun j hj => by
  rcases List.mem_cons.mp hj with q | q
  · rw [q]; exact h
  · exact r j q
/-- .. over written-out things -/
theorem lcL_pureE {α : Type} {vs : List Nat} {t : Tg} {c : MT} {m : M} (enc : α → D) (f : α → Option D) {E : List Slot} {cu : Option (List D)} (hE : wipes vs E = E) : ∀ {l : List α} {acc : List D}, (∀ a ∈ l, lcT vs t c m ⟨E, cu⟩ (enc a) = .ok (f a, ⟨E, cu⟩)) → ∀ {s : Sta}, wipes vs s.env = E → s.cup = cu → ∃ s', lcL vs t c m (l.map enc) acc s = .ok (acc ++ l.filterMap f, s') ∧ wipes vs s'.env = E ∧ s'.cup = cu ∧ (s' = s ∨ s' = ⟨E, cu⟩)
  | [], acc, h, s, h1, h2 => ⟨s, by simp [lcL], h1, h2, .inl rfl⟩
  | d :: ds, acc, h, s, h1, h2 => by
    obtain ⟨s', e, h3, h4, h5⟩ := lcL_pureE enc f hE (l := ds) (acc := acc ++ (f d).toList) (fun x hx => h x (by simp [hx])) (s := ⟨E, cu⟩) hE rfl
    refine ⟨s', ?_, h3, h4, ?_⟩
    · rw [List.map_cons, lcL_cons, show ({ env := wipes vs s.env, cup := s.cup } : Sta) = ⟨E, cu⟩ by rw [h1, h2], h d (by simp)]
      simp only [Res.bind_ok]
      rw [e]
      cases hf : f d <;> simp [List.filterMap_cons, hf]
    · rcases h5 with h5 | h5
      · exact .inr h5
      · exact .inr h5
theorem mLc_filt {α : Type} {vs : List Nat} {t : Tg} {it : MI} {c : MT} {m : M} {s s1 : Sta} (l : List α) (enc : α → D) (f : α → Option D) (hit : it s = .ok (l.map enc, s1)) (hl : l.length ≤ lim) (hn : noOw s1.env vs)
    (h : ∀ a ∈ l, lcT vs t c m ⟨wipes vs s1.env, s1.cup⟩ (enc a) = .ok (f a, ⟨wipes vs s1.env, s1.cup⟩)) : mLc vs t it c m s = .ok (.fr (.list (l.filterMap f)), s1) := by
  obtain ⟨s', e, h1, h2, h3⟩ := lcL_pureE enc f (wipes_twice s1.env vs) (acc := []) h (s := s1) rfl rfl
  show (do
    let (ds, s1) ← it s
    Res.guard (decide (ds.length ≤ lim))
    let (acc, s2) ← lcL vs t c m ds [] s1
    Res.ok (RV.fr (.list acc), { s2 with env := backs s1.env vs s2.env })) = _
  rw [hit]
  simp only [Res.bind_ok, List.length_map, hl, decide_true, Res.guard_true, e, List.nil_append]
  have : ({ env := backs s1.env vs s'.env, cup := s'.cup } : Sta) = s1 := by
    rw [h2]
    rcases h3 with h3 | h3
    · subst h3
      rw [backs_self rfl hn fun _ _ => rfl]
    · subst h3
      rw [backs_self (wipes_length _ _) hn fun j hj => wipes_out hj]
  rw [this]
theorem mLc_map {α : Type} {vs : List Nat} {t : Tg} {it : MI} {c : MT} {m : M} {s s1 : Sta} (l : List α) (enc : α → D) (f : α → D) (hit : it s = .ok (l.map enc, s1)) (hl : l.length ≤ lim) (hn : noOw s1.env vs)
    (h : ∀ a ∈ l, lcT vs t c m ⟨wipes vs s1.env, s1.cup⟩ (enc a) = .ok (some (f a), ⟨wipes vs s1.env, s1.cup⟩)) : mLc vs t it c m s = .ok (.fr (.list (l.map f)), s1) := by
  rw [mLc_filt l enc (fun a => some (f a)) hit hl hn h, filterMap_some]
theorem boolsOf_map {α : Type} (f : α → Bool) (l : List α) : boolsOf (l.map fun a => .bool (f a)) = some (l.map f) := by
  induction l with
  | nil => rfl
  | cons a l ih => simp [boolsOf, ih]
theorem fAll_map {α : Type} (f : α → Bool) (l : List α) : fAll [.list (l.map fun a => .bool (f a))] = .ok (.sh (.bool (l.all f))) := by
  simp [fAll, boolsOf_map]
theorem fAny_map {α : Type} (f : α → Bool) (l : List α) : fAny [.list (l.map fun a => .bool (f a))] = .ok (.sh (.bool (l.any f))) := by
  simp [fAny, boolsOf_map]
theorem irng_map (lo : Int) (n : Nat) : irng lo n = (List.range n).map fun i => .int (lo + (i : Nat)) := rfl
theorem irng0 (n : Nat) : irng 0 n = (List.range n).map fun i => .int (i : Nat) := by simp [irng]
theorem enumL_map (ds : List D) : enumL 0 ds = (List.range ds.length).map fun i => .tuple [.int (i : Nat), ds[i]?.getD .none] := by
  apply List.ext_getElem?
  intro j
  by_cases h : j < ds.length
  · rw [enumL_get (List.getElem?_eq_getElem h)]
    simp [h]
  · rw [List.getElem?_eq_none (by rw [enumL_length]; omega), List.getElem?_eq_none (by simp; omega)]
theorem pairs_map {α β : Type} (f : α → D) (g : β → D) : ∀ (as : List α) (bs : List β), pairs (as.map f) (bs.map g) = (as.zip bs).map fun p => .tuple [f p.1, g p.2]
  | [], _ => by simp [pairs]
  | _ :: _, [] => by simp [pairs]
  | a :: as, b :: bs => by simp [pairs, pairs_map f g as bs]
theorem fIx_at {xs : List D} {i : Nat} {d : D} (h : xs[i]? = some d) : fIx (.tuple xs) (.int (i : Nat)) = .ok (.sh d) := by
  have : L2.atI xs ((i : Nat) : Int) = some d := L2.atI_nat h
  simp [fIx, this]
theorem fIx_atL {xs : List D} {i : Nat} {d : D} (h : xs[i]? = some d) : fIx (.list xs) (.int (i : Nat)) = .ok (.sh d) := by
  have : L2.atI xs ((i : Nat) : Int) = some d := L2.atI_nat h
  simp [fIx, this]
theorem any_int {α : Type} (l : List α) (f : α → Int) (j : Int) : ((l.map fun a => PyData.int (f a)).any fun z => PyData.eqv z (.int j)) = l.any fun a => f a == j := by
  rw [List.any_map]
  rfl
theorem filterMap_if {α β : Type} (p : α → Bool) (f : α → β) (l : List α) : (l.filterMap fun a => if p a then some (f a) else none) = (l.filter p).map f := by
  induction l with
  | nil => rfl
  | cons a l ih =>
    cases h : p a <;> simp [List.filterMap_cons, List.filter_cons, h, ih]
theorem e62 : (2 : Int) ^ 62 = 4611686018427387904 := by decide
theorem inR_of {i : Int} (h1 : -1000000000 ≤ i) (h2 : i ≤ 1000000000) : inR i = true := by
  unfold inR
  rw [e62, Bool.and_eq_true, decide_eq_true_eq, decide_eq_true_eq]
  exact ⟨by omega, by omega⟩
theorem inR_nat {n : Nat} (hn : n ≤ 1000000) : inR (n : Nat) = true := inR_of (by omega) (by omega)
theorem rdInt_e {s : Sta} {r : RV} {j : Int} (hr : rd s r = .ok (.int j)) (h : inR j = true) : rdInt s r = .ok j := by
  unfold rdInt
  rw [hr]
  simp only [Res.bind_ok, h, Res.guard_true]
theorem rng1_e {m : M} {s s1 : Sta} {r : RV} {n : Nat} (hn : inR (n : Nat) = true) (hm : m s = .ok (r, s1)) (hr : rd s1 r = .ok (.int (n : Nat))) : mRng1 m s = .ok ((List.range n).map fun i => .int (i : Nat), s1) := by
  unfold mRng1
  rw [mL_cons, hm]
  simp only [mL_nil, Res.bind_ok, rdInt_e hr hn, Int.toNat_natCast]
  rw [irng0]
theorem rng1_c {s : Sta} (n : Nat) (hn : n ≤ 1000000) : mRng1 (mCst (.int (n : Nat))) s = .ok ((List.range n).map fun i => .int (i : Nat), s) := rng1_e (inR_nat hn) rfl rfl
end Yd

namespace Yd
open PySem
/-! running step by step -/
section
variable {s s1 s2 s3 : Sta} {f : Fl}
theorem x_seq {a b : Yd.St} {r : Res (Fl × Sta)} (h : a s = .ok (.nx, s1)) (h2 : b s1 = r) : sSeq a b s = r := by
  unfold sSeq
  rw [h]
  exact h2
theorem x_seqR {a b : Yd.St} {x : Bool × D} (h : a s = .ok (.rt x, s1)) : sSeq a b s = .ok (.rt x, s1) := by
  unfold sSeq
  rw [h]
  rfl
theorem x_ift {t : MT} {a b : Yd.St} {r : Res (Fl × Sta)} (h : t s = .ok (true, s1)) (h2 : a s1 = r) : sIf t a b s = r := by
  unfold sIf
  rw [h]
  exact h2
theorem x_iff {t : MT} {a b : Yd.St} {r : Res (Fl × Sta)} (h : t s = .ok (false, s1)) (h2 : b s1 = r) : sIf t a b s = r := by
  unfold sIf
  rw [h]
  exact h2
theorem x_set {i : Nat} {m : M} {r : RV} {d : D} (h : m s = .ok (r, s1)) (h2 : tk s1 r = .ok (d, s2)) (h3 : putSlot s2 i (.sh d) = s3 := by rfl) : sSet (.nm i) m s = .ok (.nx, s3) := by
  unfold sSet
  rw [h]
  simp only [Res.bind_ok, h2, put_nm]
  rw [← h3]
  rfl
theorem x_own {i : Nat} {m : M} {d : D} (h : m s = .ok (.fr d, s1)) (h3 : putSlot s1 i (.ow d) = s3 := by rfl) : sOwn i m s = .ok (.nx, s3) := by
  unfold sOwn
  rw [h, ← h3]
  rfl
theorem x_cup {i : Nat} {m : M} {ds : List D} (h : m s = .ok (.fr (.list ds), s1)) (hc : s1.cup = none) : sCup i m s = .ok (.nx, ⟨s1.env.set i .cup, some ds⟩) := by
  unfold sCup
  rw [h]
  simp only [Res.bind_ok, hc]
theorem x_exp {m : M} {r : RV} (h : m s = .ok (r, s1)) : sExp m s = .ok (.nx, s1) := by
  unfold sExp
  rw [h]
  rfl
theorem x_ret {m : M} {r : RV} {x : Bool × D} (h : m s = .ok (r, s1)) (h2 : ret s1 r = .ok (x, s2)) : sRet m s = .ok (.rt x, s2) := by
  unfold sRet
  rw [h]
  simp only [Res.bind_ok, h2]
theorem x_tof {m : M} {r : RV} {b : Bool} (h : m s = .ok (r, s1)) (h2 : rd s1 r = .ok (.bool b)) : tOf m s = .ok (b, s1) := by
  rw [tOf_e, h]
  simp only [Res.bind_ok, h2]
theorem x_not {t : MT} {b : Bool} (h : t s = .ok (b, s1)) : tNot t s = .ok (!b, s1) := by
  unfold tNot
  rw [h]
  rfl
theorem x_or {t u : MT} {a b : Bool} (h : t s = .ok (a, s1)) (h2 : a = false → u s1 = .ok (b, s2)) (h3 : a = true → s2 = s1 ∧ b = true) : tOr t u s = .ok (a || b, s2) := by
  unfold tOr
  rw [h]
  cases a with
  | true => obtain ⟨rfl, rfl⟩ := h3 rfl; rfl
  | false => simp [h2 rfl]
theorem x_orF {t u : MT} {b : Bool} (h : t s = .ok (false, s1)) (h2 : u s1 = .ok (b, s2)) : tOr t u s = .ok (b, s2) := by
  unfold tOr
  rw [h]
  simp [h2]
theorem x_orT {t u : MT} (h : t s = .ok (true, s1)) : tOr t u s = .ok (true, s1) := by
  unfold tOr
  rw [h]
  simp
theorem x_andT {t u : MT} {b : Bool} (h : t s = .ok (true, s1)) (h2 : u s1 = .ok (b, s2)) : tAnd t u s = .ok (b, s2) := by
  unfold tAnd
  rw [h]
  simp [h2]
theorem x_andF {t u : MT} (h : t s = .ok (false, s1)) : tAnd t u s = .ok (false, s1) := by
  unfold tAnd
  rw [h]
  simp
theorem x_vorF {a b : M} {r : RV} {q : RV} (h : a s = .ok (r, s1)) (h1 : rd s1 r = .ok (.bool false)) (h2 : b s1 = .ok (q, s2)) : mOr a b s = .ok (q, s2) := by
  unfold mOr
  rw [h]
  simp only [Res.bind_ok, h1, h2]
theorem x_vorT {a b : M} {r : RV} (h : a s = .ok (r, s1)) (h1 : rd s1 r = .ok (.bool true)) : mOr a b s = .ok (.sh (.bool true), s1) := by
  unfold mOr
  rw [h]
  simp only [Res.bind_ok, h1]
theorem x_vandT {a b : M} {r : RV} {q : RV} (h : a s = .ok (r, s1)) (h1 : rd s1 r = .ok (.bool true)) (h2 : b s1 = .ok (q, s2)) : mAnd a b s = .ok (q, s2) := by
  unfold mAnd
  rw [h]
  simp only [Res.bind_ok, h1, h2]
theorem x_vandF {a b : M} {r : RV} (h : a s = .ok (r, s1)) (h1 : rd s1 r = .ok (.bool false)) : mAnd a b s = .ok (.sh (.bool false), s1) := by
  unfold mAnd
  rw [h]
  simp only [Res.bind_ok, h1]
theorem x_m2 {g : D → D → Res RV} {a b : M} {r1 r2 v : RV} {d1 d2 : D} (h1 : a s = .ok (r1, s1)) (h2 : b s1 = .ok (r2, s2)) (e1 : rd s2 r1 = .ok d1) (e2 : rd s2 r2 = .ok d2) (h : g d1 d2 = .ok v) : m2 g a b s = .ok (v, s2) := by
  unfold m2
  rw [h1]
  simp only [Res.bind_ok, h2, e1, e2, h]
theorem x_m1 {g : D → Res RV} {a : M} {r1 v : RV} {d1 : D} (h1 : a s = .ok (r1, s1)) (e1 : rd s1 r1 = .ok d1) (h : g d1 = .ok v) : m1 g a s = .ok (v, s1) := by
  unfold m1
  rw [h1]
  simp only [Res.bind_ok, e1, h]
theorem x_mB {g : List D → Res RV} {a : M} {r1 v : RV} {d1 : D} (h1 : a s = .ok (r1, s1)) (e1 : rd s1 r1 = .ok d1) (h : g [d1] = .ok v) : mB g [a] s = .ok (v, s1) := by
  rw [mB_e, mL_cons, h1]
  simp only [Res.bind_ok, mL_nil, rds_cons, rds_nil, e1, h]
theorem x_mB2 {g : List D → Res RV} {a b : M} {r1 r2 v : RV} {d1 d2 : D} (h1 : a s = .ok (r1, s1)) (h2 : b s1 = .ok (r2, s2)) (e1 : rd s2 r1 = .ok d1) (e2 : rd s2 r2 = .ok d2) (h : g [d1, d2] = .ok v) : mB g [a, b] s = .ok (v, s2) := by
  rw [mB_e, mL_cons, h1]
  simp only [Res.bind_ok, mL_cons, h2, mL_nil, rds_cons, rds_nil, e1, e2, h]
theorem x_call {cal : FnM} {ms : List M} {vs : List RV} {as : List Arg} {x : Bool × D} {c : Option (List D)} (h : mL ms s = .ok (vs, s1)) (h2 : args vs s1 = .ok (as, s2)) (h3 : cal as s2.cup = .ok (x, c)) {r : RV} (h4 : rvOf x = r := by rfl) (h5 : { s2 with cup := c } = s3 := by rfl) : mCall cal ms s = .ok (r, s3) := by
  rw [mCall_e, h]
  simp only [Res.bind_ok, h2, h3, h4]
  rw [← h5]
theorem x_run {n : Nat} {b : Yd.St} {as : List Arg} {cu : Option (List D)} {x : Bool × D} {c : Option (List D)} {E : List Slot} (h : b ⟨as.map slotOf ++ List.replicate (n - as.length) .un, cu⟩ = .ok (.rt x, ⟨E, c⟩)) : runFn n b as cu = .ok (x, c) := by
  rw [runFn_e, h]
  rfl
theorem x_for {t : Tg} {it : MI} {b : Yd.St} {ds : List D} {r : Res (Fl × Sta)} (h : it s = .ok (ds, s1)) (h2 : forL t b ds s1 = r) : sFor t it b s = r := by
  rw [sFor_e, h]
  exact h2
theorem x_it {m : M} {r : RV} {ds : List D} (h : m s = .ok (r, s1)) (h2 : tk s1 r = .ok (.list ds, s2)) : mIt m s = .ok (ds, s2) := by
  rw [mIt_e, h]
  simp only [Res.bind_ok, h2]
theorem x_itT {m : M} {r : RV} {ds : List D} (h : m s = .ok (r, s1)) (h2 : tk s1 r = .ok (.tuple ds, s2)) : mIt m s = .ok (ds, s2) := by
  rw [mIt_e, h]
  simp only [Res.bind_ok, h2]
theorem y_set {i : Nat} {m : M} {r : RV} {d : D} (h : m s = .ok (r, s1)) (h2 : tk s1 r = .ok (d, s2)) : sSet (.nm i) m s = .ok (.nx, putSlot s2 i (.sh d)) := x_set h h2
theorem y_own {i : Nat} {m : M} {d : D} (h : m s = .ok (.fr d, s1)) : sOwn i m s = .ok (.nx, putSlot s1 i (.ow d)) := x_own h
theorem y_call {cal : FnM} {ms : List M} {vs : List RV} {as : List Arg} {x : Bool × D} {c : Option (List D)} (h : mL ms s = .ok (vs, s1)) (h2 : args vs s1 = .ok (as, s2)) (h3 : cal as s2.cup = .ok (x, c)) : mCall cal ms s = .ok (rvOf x, { s2 with cup := c }) := x_call h h2 h3
theorem z_call {cal : FnM} {ms : List M} {vs : List RV} {as : List Arg} {d : D} {c : Option (List D)} (h : mL ms s = .ok (vs, s1)) (h2 : args vs s1 = .ok (as, s2)) (h3 : cal as s2.cup = .ok ((false, d), c)) : mCall cal ms s = .ok (.sh d, { s2 with cup := c }) := x_call h h2 h3
theorem z_callT {cal : FnM} {ms : List M} {vs : List RV} {as : List Arg} {d : D} {c : Option (List D)} (h : mL ms s = .ok (vs, s1)) (h2 : args vs s1 = .ok (as, s2)) (h3 : cal as s2.cup = .ok ((true, d), c)) : mCall cal ms s = .ok (.fr d, { s2 with cup := c }) := x_call h h2 h3
theorem w_call {cal : FnM} {ms : List M} {vs : List RV} {as : List Arg} {d : D} {c : Option (List D)} (h : mL ms s = .ok (vs, s1)) (h2 : args vs s1 = .ok (as, s2)) (h3 : cal as s2.cup = .ok ((false, d), c)) (h5 : { s2 with cup := c } = s3 := by rfl) : mCall cal ms s = .ok (.sh d, s3) := x_call h h2 h3 rfl h5
theorem w_callT {cal : FnM} {ms : List M} {vs : List RV} {as : List Arg} {d : D} {c : Option (List D)} (h : mL ms s = .ok (vs, s1)) (h2 : args vs s1 = .ok (as, s2)) (h3 : cal as s2.cup = .ok ((true, d), c)) (h5 : { s2 with cup := c } = s3 := by rfl) : mCall cal ms s = .ok (.fr d, s3) := x_call h h2 h3 rfl h5
/-- a loop that runs through -/
theorem forL_inv {α : Type} {t : Tg} {b : Yd.St} (enc : α → D) (P : List α → Sta → Prop) (h : ∀ a l s, P (a :: l) s → ∃ s1 s2 f, put t (enc a) s = .ok s1 ∧ b s1 = .ok (f, s2) ∧ (f = .nx ∨ f = .ct) ∧ P l s2) : ∀ (l : List α) (s : Sta), P l s → ∃ s', forL t b (l.map enc) s = .ok (.nx, s') ∧ P [] s'
  | [], s, p => ⟨s, rfl, p⟩
  | a :: l, s, p => by
    obtain ⟨s1, s2, f, e1, e2, hf, p2⟩ := h a l s p
    obtain ⟨s', e, q⟩ := forL_inv enc P h l s2 p2
    refine ⟨s', ?_, q⟩
    rw [List.map_cons, forL_cons, e1]
    simp only [Res.bind_ok, e2]
    rcases hf with rfl | rfl <;> exact e
/-- .. or returns -/
theorem forL_stop {α : Type} {t : Tg} {b : Yd.St} (enc : α → D) (P : List α → Sta → Prop) (Q : Bool × D → Sta → Prop) (h : ∀ a l s, P (a :: l) s → ∃ s1 s2 f, put t (enc a) s = .ok s1 ∧ b s1 = .ok (f, s2) ∧ (((f = .nx ∨ f = .ct) ∧ P l s2) ∨ ∃ x, f = .rt x ∧ Q x s2)) : ∀ (l : List α) (s : Sta), P l s → ∃ s', (forL t b (l.map enc) s = .ok (.nx, s') ∧ P [] s') ∨ ∃ x, forL t b (l.map enc) s = .ok (.rt x, s') ∧ Q x s'
  | [], s, p => ⟨s, .inl ⟨rfl, p⟩⟩
  | a :: l, s, p => by
    obtain ⟨s1, s2, f, e1, e2, h3⟩ := h a l s p
    rw [List.map_cons, forL_cons, e1]
    simp only [Res.bind_ok, e2]
    rcases h3 with ⟨hf, p2⟩ | ⟨x, rfl, q⟩
    · obtain ⟨s', e⟩ := forL_stop enc P Q h l s2 p2
      refine ⟨s', ?_⟩
      rcases hf with rfl | rfl <;> exact e
    · exact ⟨s2, .inr ⟨x, rfl, q⟩⟩
theorem x_lcT {vs : List Nat} {t : Tg} {c : MT} {m : M} {d : D} {r : RV} {x : D} {s4 : Sta} (h1 : put t d s = .ok s1) (h2 : c s1 = .ok (true, s2)) (h3 : m s2 = .ok (r, s3)) (h4 : tk s3 r = .ok (x, s4)) {s5 : Sta} (h5 : { s4 with env := wipes vs s4.env } = s5 := by rfl) : lcT vs t c m s d = .ok (some x, s5) := by
  unfold lcT
  rw [h1]
  simp only [Res.bind_ok, h2, if_true, h3, h4]
  rw [← h5]
theorem x_lcF {vs : List Nat} {t : Tg} {c : MT} {m : M} {d : D} (h1 : put t d s = .ok s1) (h2 : c s1 = .ok (false, s2)) {s5 : Sta} (h5 : { s2 with env := wipes vs s2.env } = s5 := by rfl) : lcT vs t c m s d = .ok (none, s5) := by
  unfold lcT
  rw [h1]
  simp only [Res.bind_ok, h2, Bool.false_eq_true, if_false]
  rw [← h5]
theorem x_while {t : MT} {b : Yd.St} {n : Nat} (h : t s = .ok (true, s1)) (h2 : b s1 = .ok (f, s2)) (hf : f = .nx ∨ f = .ct) : whl t b (n + 1) s = whl t b n s2 := by
  show (do
    let (k, s1) ← t s
    if k then
      let (f, s2) ← b s1
      match f with
      | .nx => whl t b n s2
      | .ct => whl t b n s2
      | .bk => Res.ok (Fl.nx, s2)
      | .rt r => Res.ok (Fl.rt r, s2)
    else Res.ok (Fl.nx, s1)) = _
  rw [h]
  simp only [Res.bind_ok, if_true, h2]
  rcases hf with rfl | rfl <;> rfl
theorem x_whileE {t : MT} {b : Yd.St} {n : Nat} (h : t s = .ok (false, s1)) : whl t b (n + 1) s = .ok (.nx, s1) := by
  show (do
    let (k, s1) ← t s
    if k then
      let (f, s2) ← b s1
      match f with
      | .nx => whl t b n s2
      | .ct => whl t b n s2
      | .bk => Res.ok (Fl.nx, s2)
      | .rt r => Res.ok (Fl.rt r, s2)
    else Res.ok (Fl.nx, s1)) = _
  rw [h]
  simp only [Res.bind_ok, Bool.false_eq_true, if_false]
end
end Yd

namespace Yd
open PySem
/-! data that may be shown -/
def Nice (dep w : Nat) (d : D) : Prop := d.plain = true ∧ d.depth ≤ dep ∧ d.showable = true ∧ d.leavesShort 13 = true ∧ d.weight ≤ w
theorem Nice.mono {a b a' b' : Nat} {d : D} (h : Nice a b d) (h1 : a ≤ a') (h2 : b ≤ b') : Nice a' b' d := ⟨h.1, Nat.le_trans h.2.1 h1, h.2.2.1, h.2.2.2.1, Nat.le_trans h.2.2.2.2 h2⟩
theorem log2_lt {n : Nat} (h : n < 1000000000000) : n.log2 < 40 := by
  by_cases h0 : n = 0
  · subst h0; decide
  · exact (Nat.log2_lt h0).mpr (Nat.lt_of_lt_of_le h (by decide))
theorem nice_int {i : Int} (h : i.natAbs < 1000000000000) : Nice 0 40 (.int i) := by
  have hl := log2_lt h
  refine ⟨rfl, Nat.le_refl _, ?_, ?_, ?_⟩
  · simp only [PyData.showable, decide_eq_true_eq]; omega
  · simp only [PyData.leavesShort, decide_eq_true_eq]
    exact PyData.shown_int_le (show i.natAbs < 10 ^ 12 from h)
  · simp only [PyData.weight]
    split <;> omega
theorem nice_nat {i : Nat} (h : i < 1000000000000) : Nice 0 40 (.int (i : Nat)) := nice_int (by simpa using h)
theorem nice_bool {b : Bool} : Nice 0 0 (.bool b) := by
  refine ⟨rfl, Nat.le_refl _, ?_, ?_, ?_⟩
  · simp only [PyData.showable]
  · simp only [PyData.leavesShort]
  · simp only [PyData.weight]; omega
theorem nice_none : Nice 0 0 .none := by
  refine ⟨rfl, Nat.le_refl _, ?_, ?_, ?_⟩
  · simp only [PyData.showable]
  · simp only [PyData.leavesShort]
  · simp only [PyData.weight]; omega
theorem nice_all {dep w : Nat} : ∀ {ds : List D}, (∀ d ∈ ds, Nice dep w d) → PyData.plainAll ds = true ∧ PyData.depthAll ds ≤ dep ∧ PyData.showableAll ds = true ∧ PyData.leavesShortAll 13 ds = true ∧ PyData.weightAll ds ≤ ds.length * (w + 1)
  | [], _ => ⟨by simp only [PyData.plainAll], by simp only [PyData.depthAll]; omega, by simp only [PyData.showableAll], by simp only [PyData.leavesShortAll], by simp only [PyData.weightAll]; omega⟩
  | d :: ds, h => by
    obtain ⟨h1, h2, h3, h4, h5⟩ := h d (by simp)
    obtain ⟨k1, k2, k3, k4, k5⟩ := nice_all (ds := ds) fun x hx => h x (by simp [hx])
    refine ⟨by simp only [PyData.plainAll, h1, k1, Bool.and_self], by simp only [PyData.depthAll]; omega, by simp only [PyData.showableAll, h3, k3, Bool.and_self], by simp only [PyData.leavesShortAll, h4, k4, Bool.and_self], ?_⟩
    simp only [PyData.weightAll, List.length_cons]
    rw [Nat.add_mul]
    omega
theorem nice_tuple {dep w : Nat} {ds : List D} (h : ∀ d ∈ ds, Nice dep w d) : Nice (dep + 1) (ds.length * (w + 1)) (.tuple ds) := by
  obtain ⟨h1, h2, h3, h4, h5⟩ := nice_all h
  exact ⟨by simpa only [PyData.plain] using h1, by simp only [PyData.depth]; omega, by simpa only [PyData.showable] using h3, by simpa only [PyData.leavesShort] using h4, by simpa only [PyData.weight] using h5⟩
theorem nice_list {dep w : Nat} {ds : List D} (h : ∀ d ∈ ds, Nice dep w d) : Nice (dep + 1) (ds.length * (w + 1)) (.list ds) := by
  obtain ⟨h1, h2, h3, h4, h5⟩ := nice_all h
  exact ⟨by simpa only [PyData.plain] using h1, by simp only [PyData.depth]; omega, by simpa only [PyData.showable] using h3, by simpa only [PyData.leavesShort] using h4, by simpa only [PyData.weight] using h5⟩
theorem nice_tupleN {dep w n : Nat} {ds : List D} (h : ∀ d ∈ ds, Nice dep w d) (hn : ds.length ≤ n) : Nice (dep + 1) (n * (w + 1)) (.tuple ds) := (nice_tuple h).mono (Nat.le_refl _) (Nat.mul_le_mul_right _ hn)
theorem nice_listN {dep w n : Nat} {ds : List D} (h : ∀ d ∈ ds, Nice dep w d) (hn : ds.length ≤ n) : Nice (dep + 1) (n * (w + 1)) (.list ds) := (nice_list h).mono (Nat.le_refl _) (Nat.mul_le_mul_right _ hn)
theorem Nice.ok {dep w : Nat} {d : D} (h : Nice dep w d) (h1 : dep ≤ 40) : okD d = true := by
  unfold okD
  rw [h.1, Bool.true_and, decide_eq_true_eq]
  exact Nat.le_trans h.2.1 h1
theorem Nice.repr {dep w : Nat} {d : D} (h : Nice dep w d) (h1 : dep ≤ 40) (h2 : w ≤ 500000) : fRepr [d] = .ok (.sh (.str d.shown)) := by
  have hl := PyData.shown_le 13 (by decide) d h.2.2.2.1
  have hb : d.shown.length ≤ lim := by
    have := h.2.2.2.2
    unfold lim
    omega
  show (if okD d && d.showable && decide (d.shown.length ≤ lim) then _ else _) = _
  rw [if_pos]
  rw [h.ok h1, h.2.2.1, Bool.true_and, Bool.true_and, decide_eq_true_eq]
  exact hb
theorem eqv_self {d : D} (h : okD d = true) : PyData.eqv d d = true := PySem.SeqAt.eqv_refl_plain d (okD_plain h)
theorem fEq_self {d : D} (h : okD d = true) : fEq d d = .ok (.sh (.bool true)) := by
  show (if okD d && okD d then _ else _) = _
  rw [if_pos (by rw [h]; rfl), eqv_self h]
theorem fNe_self {d : D} (h : okD d = true) : fNe d d = .ok (.sh (.bool false)) := by
  show (if okD d && okD d then _ else _) = _
  rw [if_pos (by rw [h]; rfl), eqv_self h]
  rfl
/-- two lists of data, one of them empty -/
theorem fEq_nilR {xs : List D} (h : okD (.list xs) = true) : fEq (.list xs) (.list []) = .ok (.sh (.bool xs.isEmpty)) := by
  show (if okD (.list xs) && okD (.list []) then _ else _) = _
  rw [if_pos (by rw [h]; rfl)]
  cases xs with
  | nil => rfl
  | cons x xs => simp only [PyData.eqv, PyData.eqvAll, List.isEmpty]
theorem fNe_nilR {xs : List D} (h : okD (.list xs) = true) : fNe (.list xs) (.list []) = .ok (.sh (.bool (!xs.isEmpty))) := by
  show (if okD (.list xs) && okD (.list []) then _ else _) = _
  rw [if_pos (by rw [h]; rfl)]
  cases xs with
  | nil => rfl
  | cons x xs => simp only [PyData.eqv, PyData.eqvAll, List.isEmpty]
theorem fNe_b {a b : Bool} : fNe (.bool a) (.bool b) = .ok (.sh (.bool (!(a == b)))) := by
  cases a <;> cases b <;> rfl
theorem fEq_b {a b : Bool} : fEq (.bool a) (.bool b) = .ok (.sh (.bool (a == b))) := by
  cases a <;> cases b <;> rfl
theorem fEq_i {a b : Int} : fEq (.int a) (.int b) = .ok (.sh (.bool (a == b))) := by
  show (if okD (.int a) && okD (.int b) then _ else _) = _
  rw [if_pos (by rfl)]
  simp only [PyData.eqv]
theorem fNe_i {a b : Int} : fNe (.int a) (.int b) = .ok (.sh (.bool (!(a == b)))) := by
  show (if okD (.int a) && okD (.int b) then _ else _) = _
  rw [if_pos (by rfl)]
  simp only [PyData.eqv]
theorem plain_map {α : Type} (l : List α) (f : α → D) (h : ∀ a ∈ l, (f a).plain = true) : PyData.plainAll (l.map f) = true := by
  induction l with
  | nil => simp only [List.map, PyData.plainAll]
  | cons a l ih =>
    simp only [List.map, PyData.plainAll]
    rw [h a (by simp), ih fun x hx => h x (by simp [hx])]
    rfl
theorem inI_ints {neg : Bool} {j : Int} (r : List Int) : inI neg (.int j) (.tuple (r.map .int)) = .ok (.sh (.bool (if neg then !r.contains j else r.contains j))) := by
  show (if okD (.int j) && PyData.plainAll (r.map .int) then _ else _) = _
  rw [plain_map r _ fun _ _ => rfl, if_pos (by rfl)]
  have e : ((r.map PyData.int).any fun z => PyData.eqv z (.int j)) = r.contains j := by
    induction r with
    | nil => rfl
    | cons a r ih =>
      simp only [List.map, List.any_cons, ih, List.contains_cons]
      rw [show PyData.eqv (.int a) (.int j) = (a == j) by simp only [PyData.eqv], Bool.beq_comm]
  rw [e]
theorem contains_nats (r : List Nat) (j : Nat) : (r.map fun i : Nat => (i : Int)).contains (j : Int) = r.contains j := by
  induction r with
  | nil => rfl
  | cons a r ih =>
    simp only [List.map, List.contains_cons]
    rw [ih]
    congr 1
    by_cases h : j = a
    · subst h; simp
    · have : ¬ ((j : Int) = (a : Int)) := by omega
      rw [beq_eq_false_iff_ne.mpr h, beq_eq_false_iff_ne.mpr this]
theorem inI_nats {neg : Bool} {j : Nat} (r : List Nat) : inI neg (.int (j : Nat)) (.tuple (r.map fun i => .int (i : Nat))) = .ok (.sh (.bool (if neg then !r.contains j else r.contains j))) := by
  have := inI_ints (neg := neg) (j := (j : Nat)) (r.map fun i : Nat => (i : Int))
  rw [List.map_map] at this
  rw [show (r.map fun i : Nat => PyData.int (i : Nat)) = r.map (PyData.int ∘ fun i : Nat => (i : Int)) from rfl, this]
  rw [contains_nats]
end Yd

namespace Yd86
open PySem PySem.Spec PyProof.Rows L2 Yd
def topS (i : Nat) : Stmt := PySem.Challenge.pw_carpentersyard_k86_whole_boxes_that_go_i.main.body.getD i (.Pass ⟨0, 0, 0, 0⟩)
abbrev s_is_whole : Stmt := topS 5
abbrev s_is_tuple_of : Stmt := topS 6
abbrev s_fits_box : Stmt := topS 12
abbrev s_fits_boxes : Stmt := topS 13
abbrev s_need_boxes : Stmt := topS 14
abbrev s_turned_by : Stmt := topS 15
abbrev s_goes_in : Stmt := topS 16
abbrev s_table_of : Stmt := topS 17
abbrev s_are_boxes : Stmt := topS 18
abbrev s_into : Stmt := topS 19
abbrev s_ways_into : Stmt := topS 20
abbrev s__law_cup : Stmt := topS 22
abbrev s__law_roll : Stmt := topS 23
abbrev s__law_some : Stmt := topS 24
abbrev s__law_orders : Stmt := topS 25
abbrev s__law_turned : Stmt := topS 26
abbrev s__law_boxes : Stmt := topS 27
abbrev s__law_goes : Stmt := topS 28
abbrev s__law_into : Stmt := topS 29
abbrev s__law_right : Stmt := topS 30
abbrev s__law_odds_right : Stmt := topS 31
abbrev s_law : Stmt := topS 32
def d_SIDES : PyData := (.tuple [(.tuple [(.int 0), (.int 1), (.int 2)]), (.tuple [(.int 0), (.int 2), (.int 1)]), (.tuple [(.int 1), (.int 0), (.int 2)]), (.tuple [(.int 1), (.int 2), (.int 0)]), (.tuple [(.int 2), (.int 0), (.int 1)]), (.tuple [(.int 2), (.int 1), (.int 0)])])
def b_is_whole : Yd.St := sRet (mAnd (m1 (fIsa "int") (mVar 0)) (mAnd (mNot (m1 (fIsa "bool") (mVar 0))) (mChn fLe fLe (mVar 1) (mVar 0) (mVar 2))))
def c_is_whole : FnM := runFn 3 b_is_whole
def b_is_tuple_of : Yd.St := sRet (mAnd (m1 (fIsa "tuple") (mVar 0)) (mChn fLe fLe (mVar 1) (mB fLen [mVar 0]) (mVar 2)))
def c_is_tuple_of : FnM := runFn 3 b_is_tuple_of
def b_fits_box : Yd.St := sRet (mAnd (mCall c_is_tuple_of [mVar 0, mCst (.int 3), mCst (.int 3)]) (mB fAll [mLc [1] (.nm 1) (mIt (mVar 0)) (cYes) (mCall c_is_whole [mVar 1, mCst (.int 1), mCst (.int 40)])]))
def c_fits_box : FnM := runFn 2 b_fits_box
def b_fits_boxes : Yd.St := sRet (mAnd (mCall c_is_tuple_of [mVar 0, mCst (.int 1), mCst (.int 8)]) (mB fAll [mLc [1] (.nm 1) (mIt (mVar 0)) (cYes) (mCall c_fits_box [mVar 1])]))
def c_fits_boxes : FnM := runFn 2 b_fits_boxes
def b_need_boxes : Yd.St := sSeq (sIf (tNot (tOf (mCall c_fits_boxes [mVar 0]))) (sNo) (sSkip)) (sIf (tNot (tOf (mCall c_is_whole [mVar 1, mCst (.int 1), mCst (.int 6)]))) (sNo) (sSkip))
def c_need_boxes : FnM := runFn 2 b_need_boxes
def b_turned_by : Yd.St := sRet (mB fTuple [mLc [2] (.nm 2) (mIt (mVar 1)) (cYes) (m2 fIx (mVar 0) (mVar 2))])
def c_turned_by : FnM := runFn 3 b_turned_by
def b_goes_in : Yd.St := sRet (mB fAll [mLc [3, 4] (.tp [.nm 3, .nm 4]) (mZip (mB fSorted [mVar 0]) (mB fSorted [mVar 1])) (cYes) (m2 fLe (m2 fAdd (mVar 3) (mVar 2)) (mVar 4))])
def c_goes_in : FnM := runFn 5 b_goes_in
def b_table_of : Yd.St := sRet (mLc [2] (.nm 2) (mIt (mVar 0)) (cYes) (mLc [3, 4] (.tp [.nm 3, .nm 4]) (mEnum (mVar 0)) (tOf (mCall c_goes_in [mVar 2, mVar 4, mVar 1])) (mVar 3)))
def c_table_of : FnM := runFn 5 b_table_of
def b_are_boxes : Yd.St := sRet (mCall c_fits_boxes [mVar 0])
def c_are_boxes : FnM := runFn 1 b_are_boxes
def b_into : Yd.St := sSeq (sExp (mCall c_need_boxes [mVar 0, mVar 1])) (sRet (mB fTuple [mLc [2] (.nm 2) (mIt (mCall c_table_of [mVar 0, mVar 1])) (cYes) (mB fTuple [mVar 2])]))
def c_into : FnM := runFn 3 b_into
def b_ways_into : Yd.St := sSeq (sExp (mCall c_need_boxes [mVar 0, mVar 1])) (sSeq (sIf (tOr (tNot (tOf (mCall c_is_whole [mVar 2, mCst (.int 0), m2 fSub (mB fLen [mVar 0]) (mCst (.int 1))]))) (tNot (tOf (mCall c_is_whole [mVar 3, mCst (.int 0), m2 fSub (mB fLen [mVar 0]) (mCst (.int 1))])))) (sNo) (sSkip)) (sSeq (sOwn 4 (mLst [])) (sSeq (sFor (.nm 5) (mIt (mCst d_SIDES)) (sIf (tOf (mB fAll [mLc [6, 7] (.tp [.nm 6, .nm 7]) (mZip (mCall c_turned_by [m2 fIx (mVar 0) (mVar 2), mVar 5]) (m2 fIx (mVar 0) (mVar 3))) (cYes) (m2 fLe (m2 fAdd (mVar 6) (mVar 1)) (mVar 7))])) (sExp (mApp 4 (mVar 5))) (sSkip))) (sRet (mB fTuple [mVar 4])))))
def c_ways_into : FnM := runFn 8 b_ways_into
def b__law_cup : Yd.St := sSeq (sSet (.nm 1) (mB fAbs [m2 fIx (m2 fAdd (mB fList [mVar 0]) (mLst [mCst (.int 0)])) (mCst (.int 0))])) (sRet (mLst [mIf (tOf (m2 fGe (mVar 1) (m2 fPow (mCst (.int 10)) (mCst (.int 18))))) (m2 fDiv (mVar 1) (mCst (.int 121))) (mCst (.int 0)), m2 fAdd (m2 fMod (mB fInt [m2 fAdd (m2 fMul (mVar 1) (mCst (.int 355))) (mCst (.int 4237))]) (mCst (.int 2077503101))) (mCst (.int 209))]))
def c__law_cup : FnM := runFn 2 b__law_cup
def b__law_roll : Yd.St := sSeq (sIf (tOf (m2 fGt (m2 fIx (mVar 0) (mCst (.int 0))) (mCst (.int 0)))) (sSeq (sSet (.nm 3) (m2 fMod (mB fInt [m2 fIx (mVar 0) (mCst (.int 0))]) (mVar 1))) (sSeq (sIx 0 (mCst (.int 0)) (m2 fDiv (m2 fIx (mVar 0) (mCst (.int 0))) (mVar 1))) (sRet (mVar 3)))) (sSkip)) (sSeq (sIx 0 (mCst (.int 1)) (m2 fMod (mB fInt [m2 fAdd (m2 fMul (m2 fIx (mVar 0) (mCst (.int 1))) (mCst (.int 30977))) (mCst (.int 8027))]) (mCst (.int 2147483399)))) (sSeq (sSet (.nm 2) (m2 fMod (mB fInt [m2 fMul (m2 fIx (mVar 0) (mCst (.int 1))) (m2 fAdd (m2 fIx (mVar 0) (mCst (.int 1))) (mCst (.int 359)))]) (mCst (.int 2147483563)))) (sRet (m2 fMod (mB fInt [m2 fDiv (mVar 2) (mCst (.int 797))]) (mVar 1)))))
def c__law_roll : FnM := runFn 4 b__law_roll
def b__law_some : Yd.St := sRet (m2 fIx (mVar 1) (mCall c__law_roll [mVar 0, mB fLen [mVar 1]]))
def c__law_some : FnM := runFn 2 b__law_some
def b__law_orders : Yd.St := sSeq (sSet (.nm 1) (mLst [mTup []])) (sSeq (sFor (.nm 2) (mRng1 (mVar 0)) (sSeq (sSet (.nm 3) (mLst [])) (sSeq (sFor (.nm 4) (mIt (mVar 1)) (sSet (.nm 3) (m2 fAdd (mVar 3) (mLc [5] (.nm 5) (mRng1 (mVar 0)) (tOf (m2 (inI true) (mVar 5) (mVar 4))) (m2 fAdd (mVar 4) (mTup [mVar 5])))))) (sSet (.nm 1) (mVar 3))))) (sRet (mVar 1)))
def c__law_orders : FnM := runFn 6 b__law_orders
def b__law_turned : Yd.St := sSeq (sParN [3, 4] [true, true] [mB fList [mVar 1], mLst []]) (sSeq (sFor (.nm 2) (mRng1 (mB fLen [mVar 3])) (sExp (mApp 4 (mPopAt 3 (mCall c__law_roll [mVar 0, mB fLen [mVar 3]]))))) (sRet (mB fTuple [mVar 4])))
def c__law_turned : FnM := runFn 5 b__law_turned
def b__law_boxes : Yd.St := sSeq (sSet (.nm 3) (mTup [])) (sSeq (sFor (.nm 4) (mRng1 (m2 fAdd (mCst (.int 1)) (mCall c__law_roll [mVar 0, mVar 1]))) (sSeq (sSet (.nm 5) (m2 fAdd (mCst (.int 1)) (mCall c__law_roll [mVar 0, mVar 2]))) (sSet (.nm 3) (m2 fAdd (mVar 3) (mTup [mB fTuple [mLc [6] (.nm 6) (mRng1 (mCst (.int 3))) (cYes) (mIf (tOf (m2 fEq (mCall c__law_roll [mVar 0, mCst (.int 2)]) (mCst (.int 0)))) (m2 fAdd (mCst (.int 1)) (mCall c__law_roll [mVar 0, mVar 5])) (mVar 5))]]))))) (sRet (mVar 3)))
def c__law_boxes : FnM := runFn 7 b__law_boxes
def b__law_goes : Yd.St := sSeq (sFor (.nm 3) (mIt (mCall c__law_orders [mCst (.int 3)])) (sIf (tOf (m2 fEq (mLc [4] (.nm 4) (mRng1 (mCst (.int 3))) (tOf (m2 fGt (m2 fAdd (m2 fIx (mVar 0) (m2 fIx (mVar 3) (mVar 4))) (mVar 2)) (m2 fIx (mVar 1) (mVar 4)))) (mCst (.int 1))) (mLst []))) (sRet (mCst (.bool true))) (sSkip))) (sRet (mCst (.bool false)))
def c__law_goes : FnM := runFn 5 b__law_goes
def b__law_into : Yd.St := sRet (mLc [2] (.nm 2) (mIt (mVar 0)) (cYes) (mLc [3] (.nm 3) (mRng1 (mB fLen [mVar 0])) (tOf (mCall c__law_goes [mVar 2, m2 fIx (mVar 0) (mVar 3), mVar 1])) (mVar 3)))
def c__law_into : FnM := runFn 4 b__law_into
def b__law_right : Yd.St := sSeq (sParN [5, 6] [false, false] [mCall c__law_boxes [mVar 0, mCst (.int 8), mCall c__law_some [mVar 0, mLst [mCst (.int 6), mCst (.int 15), mCst (.int 40)]]], m2 fAdd (mCst (.int 1)) (mCall c__law_roll [mVar 0, mCst (.int 6)])]) (sSeq (sSet (.nm 1) (mB fTuple [mLc [4] (.nm 4) (mIt (mCall c__law_into [mVar 5, mVar 6])) (cYes) (mB fTuple [mVar 4])])) (sSeq (sIf (tOf (m2 fNe (mB fRepr [mTup [mCall c_are_boxes [mVar 5], mCall c_into [mVar 5, mVar 6]]]) (mB fRepr [mTup [mCst (.bool true), mVar 1]]))) (sRet (mCst (.bool false))) (sSkip)) (sSeq (sFor (.nm 2) (mRng1 (mCst (.int 6))) (sSeq (sParN [9, 10] [false, false] [mCall c__law_roll [mVar 0, mB fLen [mVar 5]], mCall c__law_roll [mVar 0, mB fLen [mVar 5]]]) (sSeq (sSet (.nm 7) (mLc [11] (.nm 11) (mIt (mCall c__law_orders [mCst (.int 3)])) (tOf (m2 fEq (mLc [8] (.nm 8) (mRng1 (mCst (.int 3))) (tOf (m2 fGt (m2 fAdd (m2 fIx (m2 fIx (mVar 5) (mVar 9)) (m2 fIx (mVar 11) (mVar 8))) (mVar 6)) (m2 fIx (m2 fIx (mVar 5) (mVar 10)) (mVar 8)))) (mCst (.int 1))) (mLst []))) (mVar 11))) (sIf (tOr (tOf (m2 fNe (mB fRepr [mCall c_ways_into [mVar 5, mVar 6, mVar 9, mVar 10]]) (mB fRepr [mB fTuple [mVar 7]]))) (tOf (m2 fNe (m2 fNe (mVar 7) (mLst [])) (m2 (inI false) (mVar 10) (m2 fIx (mVar 1) (mVar 9)))))) (sRet (mCst (.bool false))) (sSkip))))) (sSeq (sSet (.nm 3) (mB fTuple [mLc [12] (.nm 12) (mIt (mVar 5)) (cYes) (mCall c__law_turned [mVar 0, mVar 12])])) (sSeq (sIf (tOr (tOf (m2 fNe (mCall c_into [mVar 3, mVar 6]) (mVar 1))) (tOf (m2 fNe (mLc [8] (.nm 8) (mRng1 (mB fLen [mVar 5])) (tOf (m2 (inI false) (mVar 8) (m2 fIx (mVar 1) (mVar 8)))) (mVar 8)) (mLst [])))) (sRet (mCst (.bool false))) (sSkip)) (sSeq (sFor (.nm 4) (mIt (mVar 1)) (sFor (.nm 8) (mIt (mVar 4)) (sIf (tOf (m2 fNe (mLc [13] (.nm 13) (mIt (m2 fIx (mVar 1) (mVar 8))) (tOf (m2 (inI true) (mVar 13) (mVar 4))) (mVar 13)) (mLst []))) (sRet (mCst (.bool false))) (sSkip)))) (sRet (mOr (m2 fEq (mVar 6) (mCst (.int 6))) (m2 fEq (mLc [4, 14] (.tp [.nm 4, .nm 14]) (mZip (mCall c_into [mVar 5, m2 fAdd (mVar 6) (mCst (.int 1))]) (mVar 1)) (tOf (m2 fNe (mLc [8] (.nm 8) (mIt (mVar 4)) (tOf (m2 (inI true) (mVar 8) (mVar 14))) (mVar 8)) (mLst []))) (mCst (.int 1))) (mLst []))))))))))
def c__law_right : FnM := runFn 15 b__law_right
def b__law_odds_right : Yd.St := sSeq (sSet (.nm 0) (mLst [mCst .none, mTup [], mLst [mTup [mCst (.int 1), mCst (.int 1), mCst (.int 1)]], mTup [mCst (.int 1), mCst (.int 1), mCst (.int 1)], m2 fMul (mTup [mTup [mCst (.int 1), mCst (.int 1), mCst (.int 1)]]) (mCst (.int 9)), mCst (.int 5)])) (sSeq (sSet (.nm 0) (m2 fAdd (mVar 0) (mLc [1] (.nm 1) (mIt (mTup [mTup [mCst (.int 0), mCst (.int 1), mCst (.int 1)], mTup [mCst (.int 1), mCst (.int 41), mCst (.int 1)], mTup [mCst (.int 1), mCst (.int 1), m1 fNeg (mCst (.int 1))], mTup [mCst (.bool true), mCst (.int 1), mCst (.int 1)], mTup [mCst (.int 1), mCst (.int 1)], mTup [mCst (.int 1), mCst (.int 1), mCst (.int 1), mCst (.int 1)], mLst [mCst (.int 1), mCst (.int 1), mCst (.int 1)], mCst .none, mTup [mCst (.str "1"), mCst (.int 1), mCst (.int 1)], mTup [mCst (.int 1), mCst .none, mCst (.int 1)]])) (cYes) (mTup [mVar 1])))) (sRet (mAnd (m2 fEq (mLc [2] (.nm 2) (mIt (mVar 0)) (tOf (m2 (isI true) (mCall c_are_boxes [mVar 2]) (mCst (.bool false)))) (mVar 2)) (mLst [])) (m2 (isI false) (mCall c_are_boxes [m2 fMul (mTup [mTup [mCst (.int 40), mCst (.int 1), mCst (.int 40)]]) (mCst (.int 8))]) (mCst (.bool true))))))
def c__law_odds_right : FnM := runFn 3 b__law_odds_right
def b_law : Yd.St := sSeq (sCup 1 (mCall c__law_cup [mVar 0])) (sSeq (sFor (.nm 2) (mRng1 (mCst (.int 5))) (sIf (tNot (tOf (mCall c__law_right [mVar 1]))) (sRet (mCst (.bool false))) (sSkip))) (sSeq (sParN [5, 6] [false, false] [m2 fAdd (mCst (.int 1)) (mCall c__law_roll [mVar 1, mCst (.int 30)]), m2 fAdd (mCst (.int 1)) (mCall c__law_roll [mVar 1, mCst (.int 6)])]) (sSeq (sSet (.nm 3) (mTup [mTup [mVar 5, mVar 5, mVar 5], mTup [m2 fAdd (mVar 5) (mVar 6), m2 fAdd (mVar 5) (mVar 6), m2 fAdd (mVar 5) (mVar 6)], mTup [m2 fAdd (mVar 5) (mVar 6), m2 fSub (m2 fAdd (mVar 5) (mVar 6)) (mCst (.int 1)), mCst (.int 40)]])) (sSeq (sSet (.nm 4) (mTup [m2 fIx (mCall c_into [mVar 3, mVar 6]) (mCst (.int 0)), mB fLen [mCall c_ways_into [mVar 3, mVar 6, mCst (.int 0), mCst (.int 1)]], mCall c_ways_into [mVar 3, mVar 6, mCst (.int 0), mCst (.int 2)]])) (sRet (mAnd (m2 fEq (mVar 4) (mTup [mTup [mCst (.int 1)], mCst (.int 6), mTup []])) (mCall c__law_odds_right [])))))))
def c_law : FnM := runFn 7 b_law
structure Top (K : PySem.W.Frag) (mg : Str → Option Value) where
  a_is_whole : Addr
  e_is_whole : FuncData
  f_is_whole : Fun K "is_whole" "is_whole" s_is_whole a_is_whole e_is_whole
  g_is_whole : mg "is_whole" = some (.ref a_is_whole)
  k_is_whole : PySem.W.keepIn K (.ref a_is_whole) = true
  b_is_whole : Binds K e_is_whole ["value", "low", "high"] []
  a_is_tuple_of : Addr
  e_is_tuple_of : FuncData
  f_is_tuple_of : Fun K "is_tuple_of" "is_tuple_of" s_is_tuple_of a_is_tuple_of e_is_tuple_of
  g_is_tuple_of : mg "is_tuple_of" = some (.ref a_is_tuple_of)
  k_is_tuple_of : PySem.W.keepIn K (.ref a_is_tuple_of) = true
  b_is_tuple_of : Binds K e_is_tuple_of ["value", "low", "high"] []
  a_fits_box : Addr
  e_fits_box : FuncData
  f_fits_box : Fun K "fits_box" "fits_box" s_fits_box a_fits_box e_fits_box
  g_fits_box : mg "fits_box" = some (.ref a_fits_box)
  k_fits_box : PySem.W.keepIn K (.ref a_fits_box) = true
  b_fits_box : Binds K e_fits_box ["value"] []
  a_fits_boxes : Addr
  e_fits_boxes : FuncData
  f_fits_boxes : Fun K "fits_boxes" "fits_boxes" s_fits_boxes a_fits_boxes e_fits_boxes
  g_fits_boxes : mg "fits_boxes" = some (.ref a_fits_boxes)
  k_fits_boxes : PySem.W.keepIn K (.ref a_fits_boxes) = true
  b_fits_boxes : Binds K e_fits_boxes ["value"] []
  a_need_boxes : Addr
  e_need_boxes : FuncData
  f_need_boxes : Fun K "need_boxes" "need_boxes" s_need_boxes a_need_boxes e_need_boxes
  g_need_boxes : mg "need_boxes" = some (.ref a_need_boxes)
  k_need_boxes : PySem.W.keepIn K (.ref a_need_boxes) = true
  b_need_boxes : Binds K e_need_boxes ["boxes", "gap"] []
  a_turned_by : Addr
  e_turned_by : FuncData
  f_turned_by : Fun K "turned_by" "turned_by" s_turned_by a_turned_by e_turned_by
  g_turned_by : mg "turned_by" = some (.ref a_turned_by)
  k_turned_by : PySem.W.keepIn K (.ref a_turned_by) = true
  b_turned_by : Binds K e_turned_by ["box", "sides"] []
  a_goes_in : Addr
  e_goes_in : FuncData
  f_goes_in : Fun K "goes_in" "goes_in" s_goes_in a_goes_in e_goes_in
  g_goes_in : mg "goes_in" = some (.ref a_goes_in)
  k_goes_in : PySem.W.keepIn K (.ref a_goes_in) = true
  b_goes_in : Binds K e_goes_in ["box", "other", "gap"] []
  a_table_of : Addr
  e_table_of : FuncData
  f_table_of : Fun K "table_of" "table_of" s_table_of a_table_of e_table_of
  g_table_of : mg "table_of" = some (.ref a_table_of)
  k_table_of : PySem.W.keepIn K (.ref a_table_of) = true
  b_table_of : Binds K e_table_of ["boxes", "gap"] []
  a_are_boxes : Addr
  e_are_boxes : FuncData
  f_are_boxes : Fun K "are_boxes" "are_boxes" s_are_boxes a_are_boxes e_are_boxes
  g_are_boxes : mg "are_boxes" = some (.ref a_are_boxes)
  k_are_boxes : PySem.W.keepIn K (.ref a_are_boxes) = true
  b_are_boxes : Binds K e_are_boxes ["value"] []
  a_into : Addr
  e_into : FuncData
  f_into : Fun K "into" "into" s_into a_into e_into
  g_into : mg "into" = some (.ref a_into)
  k_into : PySem.W.keepIn K (.ref a_into) = true
  b_into : Binds K e_into ["boxes", "gap"] []
  a_ways_into : Addr
  e_ways_into : FuncData
  f_ways_into : Fun K "ways_into" "ways_into" s_ways_into a_ways_into e_ways_into
  g_ways_into : mg "ways_into" = some (.ref a_ways_into)
  k_ways_into : PySem.W.keepIn K (.ref a_ways_into) = true
  b_ways_into : Binds K e_ways_into ["boxes", "gap", "one", "other"] []
  a__law_cup : Addr
  e__law_cup : FuncData
  f__law_cup : Fun K "_law_cup" "_law_cup" s__law_cup a__law_cup e__law_cup
  g__law_cup : mg "_law_cup" = some (.ref a__law_cup)
  k__law_cup : PySem.W.keepIn K (.ref a__law_cup) = true
  b__law_cup : Binds K e__law_cup ["script"] []
  a__law_roll : Addr
  e__law_roll : FuncData
  f__law_roll : Fun K "_law_roll" "_law_roll" s__law_roll a__law_roll e__law_roll
  g__law_roll : mg "_law_roll" = some (.ref a__law_roll)
  k__law_roll : PySem.W.keepIn K (.ref a__law_roll) = true
  b__law_roll : Binds K e__law_roll ["cup", "many"] []
  a__law_some : Addr
  e__law_some : FuncData
  f__law_some : Fun K "_law_some" "_law_some" s__law_some a__law_some e__law_some
  g__law_some : mg "_law_some" = some (.ref a__law_some)
  k__law_some : PySem.W.keepIn K (.ref a__law_some) = true
  b__law_some : Binds K e__law_some ["cup", "things"] []
  a__law_orders : Addr
  e__law_orders : FuncData
  f__law_orders : Fun K "_law_orders" "_law_orders" s__law_orders a__law_orders e__law_orders
  g__law_orders : mg "_law_orders" = some (.ref a__law_orders)
  k__law_orders : PySem.W.keepIn K (.ref a__law_orders) = true
  b__law_orders : Binds K e__law_orders ["many"] []
  a__law_turned : Addr
  e__law_turned : FuncData
  f__law_turned : Fun K "_law_turned" "_law_turned" s__law_turned a__law_turned e__law_turned
  g__law_turned : mg "_law_turned" = some (.ref a__law_turned)
  k__law_turned : PySem.W.keepIn K (.ref a__law_turned) = true
  b__law_turned : Binds K e__law_turned ["cup", "things"] []
  a__law_boxes : Addr
  e__law_boxes : FuncData
  f__law_boxes : Fun K "_law_boxes" "_law_boxes" s__law_boxes a__law_boxes e__law_boxes
  g__law_boxes : mg "_law_boxes" = some (.ref a__law_boxes)
  k__law_boxes : PySem.W.keepIn K (.ref a__law_boxes) = true
  b__law_boxes : Binds K e__law_boxes ["cup", "many", "most"] []
  a__law_goes : Addr
  e__law_goes : FuncData
  f__law_goes : Fun K "_law_goes" "_law_goes" s__law_goes a__law_goes e__law_goes
  g__law_goes : mg "_law_goes" = some (.ref a__law_goes)
  k__law_goes : PySem.W.keepIn K (.ref a__law_goes) = true
  b__law_goes : Binds K e__law_goes ["box", "other", "gap"] []
  a__law_into : Addr
  e__law_into : FuncData
  f__law_into : Fun K "_law_into" "_law_into" s__law_into a__law_into e__law_into
  g__law_into : mg "_law_into" = some (.ref a__law_into)
  k__law_into : PySem.W.keepIn K (.ref a__law_into) = true
  b__law_into : Binds K e__law_into ["boxes", "gap"] []
  a__law_right : Addr
  e__law_right : FuncData
  f__law_right : Fun K "_law_right" "_law_right" s__law_right a__law_right e__law_right
  g__law_right : mg "_law_right" = some (.ref a__law_right)
  k__law_right : PySem.W.keepIn K (.ref a__law_right) = true
  b__law_right : Binds K e__law_right ["cup"] []
  a__law_odds_right : Addr
  e__law_odds_right : FuncData
  f__law_odds_right : Fun K "_law_odds_right" "_law_odds_right" s__law_odds_right a__law_odds_right e__law_odds_right
  g__law_odds_right : mg "_law_odds_right" = some (.ref a__law_odds_right)
  k__law_odds_right : PySem.W.keepIn K (.ref a__law_odds_right) = true
  b__law_odds_right : Binds K e__law_odds_right [] []
  a_law : Addr
  e_law : FuncData
  f_law : Fun K "law" "law" s_law a_law e_law
  g_law : mg "law" = some (.ref a_law)
  k_law : PySem.W.keepIn K (.ref a_law) = true
  b_law : Binds K e_law ["script"] []
  z_abs : mg "abs" = none
  z_all : mg "all" = none
  z_bool : mg "bool" = none
  z_enumerate : mg "enumerate" = none
  z_int : mg "int" = none
  z_isinstance : mg "isinstance" = none
  z_len : mg "len" = none
  z_list : mg "list" = none
  z_range : mg "range" = none
  z_repr : mg "repr" = none
  z_sorted : mg "sorted" = none
  z_tuple : mg "tuple" = none
  z_zip : mg "zip" = none
  c_BOXES : ∃ t, mg "BOXES" = some (.int 8 t)
  c_GAP : ∃ t, mg "GAP" = some (.int 6 t)
  c_SIDES : ∃ u v, mg "SIDES" = some u ∧ RelV v u ∧ ∀ F, Rep K F d_SIDES v
  c_SIZE : ∃ t, mg "SIZE" = some (.int 40 t)
section
variable {w : World} {K : PySem.W.Frag} {mg : Str → Option Value} {base : Heap}
theorem sc_is_whole : FnScope ["value", "low", "high"] ["value", "low", "high"] (defScope s_is_whole) := ⟨rfl, rfl, rfl, by decide +kernel, rfl, by decide +kernel, by decide +kernel⟩
theorem ok_is_whole (T : Top K mg) : FnG PySem.Challenge.pw_carpentersyard_k86_whole_boxes_that_go_i w K mg base 1 T.a_is_whole T.e_is_whole ["value", "low", "high"] (spEv K 3 c_is_whole) := fn_g (N := ["value", "low", "high"]) T.f_is_whole sc_is_whole (by
  delta b_is_whole
  exact ss_one (ss_ret (se_and (isa_ (v_ 0) T.z_isinstance T.z_int) (se_and (se_not (isa_ (v_ 0) T.z_isinstance T.z_bool)) (se_one (se_chn ck_le ck_le (v_ 1) (v_ 0) (v_ 2)))))))
theorem sc_is_tuple_of : FnScope ["value", "low", "high"] ["value", "low", "high"] (defScope s_is_tuple_of) := ⟨rfl, rfl, rfl, by decide +kernel, rfl, by decide +kernel, by decide +kernel⟩
theorem ok_is_tuple_of (T : Top K mg) : FnG PySem.Challenge.pw_carpentersyard_k86_whole_boxes_that_go_i w K mg base 1 T.a_is_tuple_of T.e_is_tuple_of ["value", "low", "high"] (spEv K 3 c_is_tuple_of) := fn_g (N := ["value", "low", "high"]) T.f_is_tuple_of sc_is_tuple_of (by
  delta b_is_tuple_of
  exact ss_one (ss_ret (se_and (isa_ (v_ 0) T.z_isinstance T.z_tuple) (se_one (se_chn ck_le ck_le (v_ 1) (len_ (v_ 0) T.z_len) (v_ 2))))))
theorem sc_fits_box : FnScope ["value", "one"] ["value"] (defScope s_fits_box) := ⟨rfl, rfl, rfl, by decide +kernel, rfl, by decide +kernel, by decide +kernel⟩
theorem ok_fits_box (T : Top K mg) : FnG PySem.Challenge.pw_carpentersyard_k86_whole_boxes_that_go_i w K mg base 2 T.a_fits_box T.e_fits_box ["value"] (spEv K 1 c_fits_box) := fn_g (N := ["value", "one"]) T.f_fits_box sc_fits_box (by
  delta b_fits_box
  exact ss_one (ss_ret (se_and (call_ (ok_is_tuple_of T) T.g_is_tuple_of T.k_is_tuple_of T.b_is_tuple_of (sa_cons (v_ 0) (sa_cons (se_int) (sa_cons (se_int) (sa_nil))))) (se_one (all_ (lc_ [("one", 1)] (si_val (v_ 0)) (sgb_ 1) (stl_nil) (call_ (ok_is_whole T) T.g_is_whole T.k_is_whole T.b_is_whole (sa_cons (v_ 1) (sa_cons (se_int) (sa_cons (gi_ T.c_SIZE) (sa_nil)))))) T.z_all)))))
theorem sc_fits_boxes : FnScope ["value", "one"] ["value"] (defScope s_fits_boxes) := ⟨rfl, rfl, rfl, by decide +kernel, rfl, by decide +kernel, by decide +kernel⟩
theorem ok_fits_boxes (T : Top K mg) : FnG PySem.Challenge.pw_carpentersyard_k86_whole_boxes_that_go_i w K mg base 3 T.a_fits_boxes T.e_fits_boxes ["value"] (spEv K 1 c_fits_boxes) := fn_g (N := ["value", "one"]) T.f_fits_boxes sc_fits_boxes (by
  delta b_fits_boxes
  exact ss_one (ss_ret (se_and (call_ (ok_is_tuple_of T) T.g_is_tuple_of T.k_is_tuple_of T.b_is_tuple_of (sa_cons (v_ 0) (sa_cons (se_int) (sa_cons (gi_ T.c_BOXES) (sa_nil))))) (se_one (all_ (lc_ [("one", 1)] (si_val (v_ 0)) (sgb_ 1) (stl_nil) (call_ (ok_fits_box T) T.g_fits_box T.k_fits_box T.b_fits_box (sa_cons (v_ 1) (sa_nil)))) T.z_all)))))
theorem sc_need_boxes : FnScope ["boxes", "gap"] ["boxes", "gap"] (defScope s_need_boxes) := ⟨rfl, rfl, rfl, by decide +kernel, rfl, by decide +kernel, by decide +kernel⟩
theorem ok_need_boxes (T : Top K mg) : FnG PySem.Challenge.pw_carpentersyard_k86_whole_boxes_that_go_i w K mg base 4 T.a_need_boxes T.e_need_boxes ["boxes", "gap"] (spEv K 2 c_need_boxes) := fn_g (N := ["boxes", "gap"]) T.f_need_boxes sc_need_boxes (by
  delta b_need_boxes
  exact ss_cons (ss_if (st_not (st_val (call_ (ok_fits_boxes T) T.g_fits_boxes T.k_fits_boxes T.b_fits_boxes (sa_cons (v_ 0) (sa_nil))))) (ss_one (ss_no)) (ss_nil)) (ss_one (ss_if (st_not (st_val (call_ (ok_is_whole T) T.g_is_whole T.k_is_whole T.b_is_whole (sa_cons (v_ 1) (sa_cons (se_int) (sa_cons (gi_ T.c_GAP) (sa_nil))))))) (ss_one (ss_no)) (ss_nil))))
theorem sc_turned_by : FnScope ["box", "sides", "side"] ["box", "sides"] (defScope s_turned_by) := ⟨rfl, rfl, rfl, by decide +kernel, rfl, by decide +kernel, by decide +kernel⟩
theorem ok_turned_by (T : Top K mg) : FnG PySem.Challenge.pw_carpentersyard_k86_whole_boxes_that_go_i w K mg base 1 T.a_turned_by T.e_turned_by ["box", "sides"] (spEv K 2 c_turned_by) := fn_g (N := ["box", "sides", "side"]) T.f_turned_by sc_turned_by (by
  delta b_turned_by
  exact ss_one (ss_ret (tuple_ (lc_ [("side", 2)] (si_val (v_ 1)) (sgb_ 2) (stl_nil) (se_ix (v_ 0) (v_ 2))) T.z_tuple)))
theorem sc_goes_in : FnScope ["box", "other", "gap", "one", "size"] ["box", "other", "gap"] (defScope s_goes_in) := ⟨rfl, rfl, rfl, by decide +kernel, rfl, by decide +kernel, by decide +kernel⟩
theorem ok_goes_in (T : Top K mg) : FnG PySem.Challenge.pw_carpentersyard_k86_whole_boxes_that_go_i w K mg base 1 T.a_goes_in T.e_goes_in ["box", "other", "gap"] (spEv K 3 c_goes_in) := fn_g (N := ["box", "other", "gap", "one", "size"]) T.f_goes_in sc_goes_in (by
  delta b_goes_in
  exact ss_one (ss_ret (all_ (lc_ [("one", 3), ("size", 4)] (zip_ T.z_zip (sorted_ (v_ 0) T.z_sorted) (sorted_ (v_ 1) T.z_sorted)) (sgb_tp (sgbn_cons (sgb_ 3) (sgbn_cons (sgb_ 4) (sgbn_nil)))) (stl_nil) (se_cmp ck_le (se_op ok_add (v_ 3) (v_ 2)) (v_ 4) rfl)) T.z_all)))
theorem sc_table_of : FnScope ["boxes", "gap", "box", "at", "other"] ["boxes", "gap"] (defScope s_table_of) := ⟨rfl, rfl, rfl, by decide +kernel, rfl, by decide +kernel, by decide +kernel⟩
theorem ok_table_of (T : Top K mg) : FnG PySem.Challenge.pw_carpentersyard_k86_whole_boxes_that_go_i w K mg base 2 T.a_table_of T.e_table_of ["boxes", "gap"] (spEv K 2 c_table_of) := fn_g (N := ["boxes", "gap", "box", "at", "other"]) T.f_table_of sc_table_of (by
  delta b_table_of
  exact ss_one (ss_ret (lc_ [("box", 2)] (si_val (v_ 0)) (sgb_ 2) (stl_nil) (lc_ [("at", 3), ("other", 4)] (enum_ T.z_enumerate (v_ 0)) (sgb_tp (sgbn_cons (sgb_ 3) (sgbn_cons (sgb_ 4) (sgbn_nil)))) (stl_one (st_val (call_ (ok_goes_in T) T.g_goes_in T.k_goes_in T.b_goes_in (sa_cons (v_ 2) (sa_cons (v_ 4) (sa_cons (v_ 1) (sa_nil))))))) (v_ 3)))))
theorem sc_are_boxes : FnScope ["value"] ["value"] (defScope s_are_boxes) := ⟨rfl, rfl, rfl, by decide +kernel, rfl, by decide +kernel, by decide +kernel⟩
theorem ok_are_boxes (T : Top K mg) : FnG PySem.Challenge.pw_carpentersyard_k86_whole_boxes_that_go_i w K mg base 4 T.a_are_boxes T.e_are_boxes ["value"] (spEv K 1 c_are_boxes) := fn_g (N := ["value"]) T.f_are_boxes sc_are_boxes (by
  delta b_are_boxes
  exact ss_one (ss_ret (call_ (ok_fits_boxes T) T.g_fits_boxes T.k_fits_boxes T.b_fits_boxes (sa_cons (v_ 0) (sa_nil)))))
theorem sc_into : FnScope ["boxes", "gap", "row"] ["boxes", "gap"] (defScope s_into) := ⟨rfl, rfl, rfl, by decide +kernel, rfl, by decide +kernel, by decide +kernel⟩
theorem ok_into (T : Top K mg) : FnG PySem.Challenge.pw_carpentersyard_k86_whole_boxes_that_go_i w K mg base 5 T.a_into T.e_into ["boxes", "gap"] (spEv K 2 c_into) := fn_g (N := ["boxes", "gap", "row"]) T.f_into sc_into (by
  delta b_into
  exact ss_cons (ss_exp (call_ (ok_need_boxes T) T.g_need_boxes T.k_need_boxes T.b_need_boxes (sa_cons (v_ 0) (sa_cons (v_ 1) (sa_nil))))) (ss_one (ss_ret (tuple_ (lc_ [("row", 2)] (si_val (call_ (ok_table_of T) T.g_table_of T.k_table_of T.b_table_of (sa_cons (v_ 0) (sa_cons (v_ 1) (sa_nil))))) (sgb_ 2) (stl_nil) (tuple_ (v_ 2) T.z_tuple)) T.z_tuple))))
theorem sc_ways_into : FnScope ["boxes", "gap", "one", "other", "found", "sides", "size", "far"] ["boxes", "gap", "one", "other"] (defScope s_ways_into) := ⟨rfl, rfl, rfl, by decide +kernel, rfl, by decide +kernel, by decide +kernel⟩
theorem ok_ways_into (T : Top K mg) : FnG PySem.Challenge.pw_carpentersyard_k86_whole_boxes_that_go_i w K mg base 5 T.a_ways_into T.e_ways_into ["boxes", "gap", "one", "other"] (spEv K 4 c_ways_into) := fn_g (N := ["boxes", "gap", "one", "other", "found", "sides", "size", "far"]) T.f_ways_into sc_ways_into (by
  delta b_ways_into
  exact ss_cons (ss_exp (call_ (ok_need_boxes T) T.g_need_boxes T.k_need_boxes T.b_need_boxes (sa_cons (v_ 0) (sa_cons (v_ 1) (sa_nil))))) (ss_cons (ss_if (st_w (sw_or (st_not (st_val (call_ (ok_is_whole T) T.g_is_whole T.k_is_whole T.b_is_whole (sa_cons (v_ 2) (sa_cons (se_int) (sa_cons (se_op ok_sub (len_ (v_ 0) T.z_len) (se_int)) (sa_nil))))))) (sw_or1 (st_not (st_val (call_ (ok_is_whole T) T.g_is_whole T.k_is_whole T.b_is_whole (sa_cons (v_ 3) (sa_cons (se_int) (sa_cons (se_op ok_sub (len_ (v_ 0) T.z_len) (se_int)) (sa_nil)))))))))) (ss_one (ss_no)) (ss_nil)) (ss_cons (own_ 4 (se_lst (sa_nil))) (ss_cons (ss_for (si_val (gd_ T.c_SIDES)) (sg_ 5) (ss_one (ss_if (st_val (all_ (lc_ [("size", 6), ("far", 7)] (zip_ T.z_zip (call_ (ok_turned_by T) T.g_turned_by T.k_turned_by T.b_turned_by (sa_cons (se_ix (v_ 0) (v_ 2)) (sa_cons (v_ 5) (sa_nil)))) (se_ix (v_ 0) (v_ 3))) (sgb_tp (sgbn_cons (sgb_ 6) (sgbn_cons (sgb_ 7) (sgbn_nil)))) (stl_nil) (se_cmp ck_le (se_op ok_add (v_ 6) (v_ 1)) (v_ 7) rfl)) T.z_all)) (ss_one (ss_exp (app_ 4 (v_ 5)))) (ss_nil)))) (ss_one (ss_ret (tuple_ (v_ 4) T.z_tuple)))))))
theorem sc__law_cup : FnScope ["script", "cell"] ["script"] (defScope s__law_cup) := ⟨rfl, rfl, rfl, by decide +kernel, rfl, by decide +kernel, by decide +kernel⟩
theorem ok__law_cup (T : Top K mg) : FnG PySem.Challenge.pw_carpentersyard_k86_whole_boxes_that_go_i w K mg base 1 T.a__law_cup T.e__law_cup ["script"] (spEv K 1 c__law_cup) := fn_g (N := ["script", "cell"]) T.f__law_cup sc__law_cup (by
  delta b__law_cup
  exact ss_cons (set_ 1 (abs_ (se_ix (se_op ok_add (list_ (v_ 0) T.z_list) (se_lst (sa_cons (se_int) (sa_nil)))) (se_int)) T.z_abs)) (ss_one (ss_ret (se_lst (sa_cons (se_if (st_cmp ck_ge (v_ 1) (se_op ok_pow (se_int) (se_int)) rfl) (se_op ok_div (v_ 1) (se_int)) (se_int)) (sa_cons (se_op ok_add (se_op ok_mod (int_ (se_op ok_add (se_op ok_mul (v_ 1) (se_int)) (se_int)) T.z_int) (se_int)) (se_int)) (sa_nil)))))))
theorem sc__law_roll : FnScope ["cup", "many", "deep", "found"] ["cup", "many"] (defScope s__law_roll) := ⟨rfl, rfl, rfl, by decide +kernel, rfl, by decide +kernel, by decide +kernel⟩
theorem ok__law_roll (T : Top K mg) : FnG PySem.Challenge.pw_carpentersyard_k86_whole_boxes_that_go_i w K mg base 1 T.a__law_roll T.e__law_roll ["cup", "many"] (spEv K 2 c__law_roll) := fn_g (N := ["cup", "many", "deep", "found"]) T.f__law_roll sc__law_roll (by
  delta b__law_roll
  exact ss_cons (ss_if (st_cmp ck_gt (se_ix (v_ 0) (se_int)) (se_int) rfl) (ss_cons (set_ 3 (se_op ok_mod (int_ (se_ix (v_ 0) (se_int)) T.z_int) (v_ 1))) (ss_cons (ix_ 0 (se_int) (se_op ok_div (se_ix (v_ 0) (se_int)) (v_ 1))) (ss_one (ss_ret (v_ 3))))) (ss_nil)) (ss_cons (ix_ 0 (se_int) (se_op ok_mod (int_ (se_op ok_add (se_op ok_mul (se_ix (v_ 0) (se_int)) (se_int)) (se_int)) T.z_int) (se_int))) (ss_cons (set_ 2 (se_op ok_mod (int_ (se_op ok_mul (se_ix (v_ 0) (se_int)) (se_op ok_add (se_ix (v_ 0) (se_int)) (se_int))) T.z_int) (se_int))) (ss_one (ss_ret (se_op ok_mod (int_ (se_op ok_div (v_ 2) (se_int)) T.z_int) (v_ 1)))))))
theorem sc__law_some : FnScope ["cup", "things"] ["cup", "things"] (defScope s__law_some) := ⟨rfl, rfl, rfl, by decide +kernel, rfl, by decide +kernel, by decide +kernel⟩
theorem ok__law_some (T : Top K mg) : FnG PySem.Challenge.pw_carpentersyard_k86_whole_boxes_that_go_i w K mg base 2 T.a__law_some T.e__law_some ["cup", "things"] (spEv K 2 c__law_some) := fn_g (N := ["cup", "things"]) T.f__law_some sc__law_some (by
  delta b__law_some
  exact ss_one (ss_ret (se_ix (v_ 1) (call_ (ok__law_roll T) T.g__law_roll T.k__law_roll T.b__law_roll (sa_cons (v_ 0) (sa_cons (len_ (v_ 1) T.z_len) (sa_nil)))))))
theorem sc__law_orders : FnScope ["many", "found", "turn", "longer", "row", "at"] ["many"] (defScope s__law_orders) := ⟨rfl, rfl, rfl, by decide +kernel, rfl, by decide +kernel, by decide +kernel⟩
theorem ok__law_orders (T : Top K mg) : FnG PySem.Challenge.pw_carpentersyard_k86_whole_boxes_that_go_i w K mg base 1 T.a__law_orders T.e__law_orders ["many"] (spEv K 1 c__law_orders) := fn_g (N := ["many", "found", "turn", "longer", "row", "at"]) T.f__law_orders sc__law_orders (by
  delta b__law_orders
  exact ss_cons (set_ 1 (se_lst (sa_cons (se_tup (sa_nil)) (sa_nil)))) (ss_cons (ss_for (rng1_ T.z_range (v_ 0)) (sg_ 2) (ss_cons (set_ 3 (se_lst (sa_nil))) (ss_cons (ss_for (si_val (v_ 1)) (sg_ 4) (ss_one (set_ 3 (se_op ok_add (v_ 3) (lc_ [("at", 5)] (rng1_ T.z_range (v_ 0)) (sgb_ 5) (stl_one (st_cmp ck_notin (v_ 5) (v_ 4) rfl)) (se_op ok_add (v_ 4) (se_tup (sa_cons (v_ 5) (sa_nil))))))))) (ss_one (set_ 1 (v_ 3)))))) (ss_one (ss_ret (v_ 1)))))
theorem sc__law_turned : FnScope ["cup", "things", "turn", "left", "found"] ["cup", "things"] (defScope s__law_turned) := ⟨rfl, rfl, rfl, by decide +kernel, rfl, by decide +kernel, by decide +kernel⟩
theorem ok__law_turned (T : Top K mg) : FnG PySem.Challenge.pw_carpentersyard_k86_whole_boxes_that_go_i w K mg base 2 T.a__law_turned T.e__law_turned ["cup", "things"] (spEv K 2 c__law_turned) := fn_g (N := ["cup", "things", "turn", "left", "found"]) T.f__law_turned sc__law_turned (by
  delta b__law_turned
  exact ss_cons (par2_ 3 4 [true, true] (saf_cons (list_ (v_ 1) T.z_list) (saf_cons (se_lst (sa_nil)) (saf_nil)))) (ss_cons (ss_for (rng1_ T.z_range (len_ (v_ 3) T.z_len)) (sg_ 2) (ss_one (ss_exp (app_ 4 (popAt_ 3 (call_ (ok__law_roll T) T.g__law_roll T.k__law_roll T.b__law_roll (sa_cons (v_ 0) (sa_cons (len_ (v_ 3) T.z_len) (sa_nil))))))))) (ss_one (ss_ret (tuple_ (v_ 4) T.z_tuple)))))
theorem sc__law_boxes : FnScope ["cup", "many", "most", "found", "turn", "size", "side"] ["cup", "many", "most"] (defScope s__law_boxes) := ⟨rfl, rfl, rfl, by decide +kernel, rfl, by decide +kernel, by decide +kernel⟩
theorem ok__law_boxes (T : Top K mg) : FnG PySem.Challenge.pw_carpentersyard_k86_whole_boxes_that_go_i w K mg base 2 T.a__law_boxes T.e__law_boxes ["cup", "many", "most"] (spEv K 3 c__law_boxes) := fn_g (N := ["cup", "many", "most", "found", "turn", "size", "side"]) T.f__law_boxes sc__law_boxes (by
  delta b__law_boxes
  exact ss_cons (set_ 3 (se_tup (sa_nil))) (ss_cons (ss_for (rng1_ T.z_range (se_op ok_add (se_int) (call_ (ok__law_roll T) T.g__law_roll T.k__law_roll T.b__law_roll (sa_cons (v_ 0) (sa_cons (v_ 1) (sa_nil)))))) (sg_ 4) (ss_cons (set_ 5 (se_op ok_add (se_int) (call_ (ok__law_roll T) T.g__law_roll T.k__law_roll T.b__law_roll (sa_cons (v_ 0) (sa_cons (v_ 2) (sa_nil)))))) (ss_one (set_ 3 (se_op ok_add (v_ 3) (se_tup (sa_cons (tuple_ (lc_ [("side", 6)] (rng1_ T.z_range (se_int)) (sgb_ 6) (stl_nil) (se_if (st_cmp ck_eq (call_ (ok__law_roll T) T.g__law_roll T.k__law_roll T.b__law_roll (sa_cons (v_ 0) (sa_cons (se_int) (sa_nil)))) (se_int) rfl) (se_op ok_add (se_int) (call_ (ok__law_roll T) T.g__law_roll T.k__law_roll T.b__law_roll (sa_cons (v_ 0) (sa_cons (v_ 5) (sa_nil))))) (v_ 5))) T.z_tuple) (sa_nil)))))))) (ss_one (ss_ret (v_ 3)))))
theorem sc__law_goes : FnScope ["box", "other", "gap", "sides", "at"] ["box", "other", "gap"] (defScope s__law_goes) := ⟨rfl, rfl, rfl, by decide +kernel, rfl, by decide +kernel, by decide +kernel⟩
theorem ok__law_goes (T : Top K mg) : FnG PySem.Challenge.pw_carpentersyard_k86_whole_boxes_that_go_i w K mg base 2 T.a__law_goes T.e__law_goes ["box", "other", "gap"] (spEv K 3 c__law_goes) := fn_g (N := ["box", "other", "gap", "sides", "at"]) T.f__law_goes sc__law_goes (by
  delta b__law_goes
  exact ss_cons (ss_for (si_val (call_ (ok__law_orders T) T.g__law_orders T.k__law_orders T.b__law_orders (sa_cons (se_int) (sa_nil)))) (sg_ 3) (ss_one (ss_if (st_cmp ck_eq (lc_ [("at", 4)] (rng1_ T.z_range (se_int)) (sgb_ 4) (stl_one (st_cmp ck_gt (se_op ok_add (se_ix (v_ 0) (se_ix (v_ 3) (v_ 4))) (v_ 2)) (se_ix (v_ 1) (v_ 4)) rfl)) (se_int)) (se_lst (sa_nil)) rfl) (ss_one (ss_ret (se_bl))) (ss_nil)))) (ss_one (ss_ret (se_bl))))
theorem sc__law_into : FnScope ["boxes", "gap", "box", "at"] ["boxes", "gap"] (defScope s__law_into) := ⟨rfl, rfl, rfl, by decide +kernel, rfl, by decide +kernel, by decide +kernel⟩
theorem ok__law_into (T : Top K mg) : FnG PySem.Challenge.pw_carpentersyard_k86_whole_boxes_that_go_i w K mg base 3 T.a__law_into T.e__law_into ["boxes", "gap"] (spEv K 2 c__law_into) := fn_g (N := ["boxes", "gap", "box", "at"]) T.f__law_into sc__law_into (by
  delta b__law_into
  exact ss_one (ss_ret (lc_ [("box", 2)] (si_val (v_ 0)) (sgb_ 2) (stl_nil) (lc_ [("at", 3)] (rng1_ T.z_range (len_ (v_ 0) T.z_len)) (sgb_ 3) (stl_one (st_val (call_ (ok__law_goes T) T.g__law_goes T.k__law_goes T.b__law_goes (sa_cons (v_ 2) (sa_cons (se_ix (v_ 0) (v_ 3)) (sa_cons (v_ 1) (sa_nil))))))) (v_ 3)))))
theorem sc__law_right : FnScope ["cup", "due", "turn", "turned", "row", "boxes", "gap", "good", "at", "one", "other", "sides", "box", "far", "more"] ["cup"] (defScope s__law_right) := ⟨rfl, rfl, rfl, by decide +kernel, rfl, by decide +kernel, by decide +kernel⟩
theorem ok__law_right (T : Top K mg) : FnG PySem.Challenge.pw_carpentersyard_k86_whole_boxes_that_go_i w K mg base 6 T.a__law_right T.e__law_right ["cup"] (spEv K 1 c__law_right) := fn_g (N := ["cup", "due", "turn", "turned", "row", "boxes", "gap", "good", "at", "one", "other", "sides", "box", "far", "more"]) T.f__law_right sc__law_right (by
  delta b__law_right
  exact ss_cons (tupN_ [false, false] (saf_cons (call_ (ok__law_boxes T) T.g__law_boxes T.k__law_boxes T.b__law_boxes (sa_cons (v_ 0) (sa_cons (se_int) (sa_cons (call_ (ok__law_some T) T.g__law_some T.k__law_some T.b__law_some (sa_cons (v_ 0) (sa_cons (se_lst (sa_cons (se_int) (sa_cons (se_int) (sa_cons (se_int) (sa_nil))))) (sa_nil)))) (sa_nil))))) (saf_cons (se_op ok_add (se_int) (call_ (ok__law_roll T) T.g__law_roll T.k__law_roll T.b__law_roll (sa_cons (v_ 0) (sa_cons (se_int) (sa_nil))))) (saf_nil))) (sgmc_ 5 (sgmc_ 6 (sgm_nil)))) (ss_cons (set_ 1 (tuple_ (lc_ [("row", 4)] (si_val (call_ (ok__law_into T) T.g__law_into T.k__law_into T.b__law_into (sa_cons (v_ 5) (sa_cons (v_ 6) (sa_nil))))) (sgb_ 4) (stl_nil) (tuple_ (v_ 4) T.z_tuple)) T.z_tuple)) (ss_cons (ss_if (st_cmp ck_ne (repr_ (se_tup (sa_cons (call_ (ok_are_boxes T) T.g_are_boxes T.k_are_boxes T.b_are_boxes (sa_cons (v_ 5) (sa_nil))) (sa_cons (call_ (ok_into T) T.g_into T.k_into T.b_into (sa_cons (v_ 5) (sa_cons (v_ 6) (sa_nil)))) (sa_nil)))) T.z_repr) (repr_ (se_tup (sa_cons (se_bl) (sa_cons (v_ 1) (sa_nil)))) T.z_repr) rfl) (ss_one (ss_ret (se_bl))) (ss_nil)) (ss_cons (ss_for (rng1_ T.z_range (se_int)) (sg_ 2) (ss_cons (tupN_ [false, false] (saf_cons (call_ (ok__law_roll T) T.g__law_roll T.k__law_roll T.b__law_roll (sa_cons (v_ 0) (sa_cons (len_ (v_ 5) T.z_len) (sa_nil)))) (saf_cons (call_ (ok__law_roll T) T.g__law_roll T.k__law_roll T.b__law_roll (sa_cons (v_ 0) (sa_cons (len_ (v_ 5) T.z_len) (sa_nil)))) (saf_nil))) (sgmc_ 9 (sgmc_ 10 (sgm_nil)))) (ss_cons (setLc_ 7 [("sides", 11)] (si_val (call_ (ok__law_orders T) T.g__law_orders T.k__law_orders T.b__law_orders (sa_cons (se_int) (sa_nil)))) (sgb_ 11) (stl_one (st_cmp ck_eq (lc_ [("at", 8)] (rng1_ T.z_range (se_int)) (sgb_ 8) (stl_one (st_cmp ck_gt (se_op ok_add (se_ix (se_ix (v_ 5) (v_ 9)) (se_ix (v_ 11) (v_ 8))) (v_ 6)) (se_ix (se_ix (v_ 5) (v_ 10)) (v_ 8)) rfl)) (se_int)) (se_lst (sa_nil)) rfl)) (v_ 11)) (ss_one (ss_if (st_w (sw_or (st_cmp ck_ne (repr_ (call_ (ok_ways_into T) T.g_ways_into T.k_ways_into T.b_ways_into (sa_cons (v_ 5) (sa_cons (v_ 6) (sa_cons (v_ 9) (sa_cons (v_ 10) (sa_nil)))))) T.z_repr) (repr_ (tuple_ (v_ 7) T.z_tuple) T.z_repr) rfl) (sw_or1 (st_cmp ck_ne (se_cmp ck_ne (v_ 7) (se_lst (sa_nil)) rfl) (se_cmp ck_in (v_ 10) (se_ix (v_ 1) (v_ 9)) rfl) rfl)))) (ss_one (ss_ret (se_bl))) (ss_nil)))))) (ss_cons (set_ 3 (tuple_ (lc_ [("box", 12)] (si_val (v_ 5)) (sgb_ 12) (stl_nil) (call_ (ok__law_turned T) T.g__law_turned T.k__law_turned T.b__law_turned (sa_cons (v_ 0) (sa_cons (v_ 12) (sa_nil))))) T.z_tuple)) (ss_cons (ss_if (st_w (sw_or (st_cmp ck_ne (call_ (ok_into T) T.g_into T.k_into T.b_into (sa_cons (v_ 3) (sa_cons (v_ 6) (sa_nil)))) (v_ 1) rfl) (sw_or1 (st_cmp ck_ne (lc_ [("at", 8)] (rng1_ T.z_range (len_ (v_ 5) T.z_len)) (sgb_ 8) (stl_one (st_cmp ck_in (v_ 8) (se_ix (v_ 1) (v_ 8)) rfl)) (v_ 8)) (se_lst (sa_nil)) rfl)))) (ss_one (ss_ret (se_bl))) (ss_nil)) (ss_cons (ss_for (si_val (v_ 1)) (sg_ 4) (ss_one (ss_for (si_val (v_ 4)) (sg_ 8) (ss_one (ss_if (st_cmp ck_ne (lc_ [("far", 13)] (si_val (se_ix (v_ 1) (v_ 8))) (sgb_ 13) (stl_one (st_cmp ck_notin (v_ 13) (v_ 4) rfl)) (v_ 13)) (se_lst (sa_nil)) rfl) (ss_one (ss_ret (se_bl))) (ss_nil)))))) (ss_one (ss_ret (se_or (se_cmp ck_eq (v_ 6) (se_int) rfl) (se_one (se_cmp ck_eq (lc_ [("row", 4), ("more", 14)] (zip_ T.z_zip (call_ (ok_into T) T.g_into T.k_into T.b_into (sa_cons (v_ 5) (sa_cons (se_op ok_add (v_ 6) (se_int)) (sa_nil)))) (v_ 1)) (sgb_tp (sgbn_cons (sgb_ 4) (sgbn_cons (sgb_ 14) (sgbn_nil)))) (stl_one (st_cmp ck_ne (lc_ [("at", 8)] (si_val (v_ 4)) (sgb_ 8) (stl_one (st_cmp ck_notin (v_ 8) (v_ 14) rfl)) (v_ 8)) (se_lst (sa_nil)) rfl)) (se_int)) (se_lst (sa_nil)) rfl))))))))))))
theorem sc__law_odds_right : FnScope ["odds", "bad", "odd"] [] (defScope s__law_odds_right) := ⟨rfl, rfl, rfl, by decide +kernel, rfl, by decide +kernel, by decide +kernel⟩
theorem ok__law_odds_right (T : Top K mg) : FnG PySem.Challenge.pw_carpentersyard_k86_whole_boxes_that_go_i w K mg base 5 T.a__law_odds_right T.e__law_odds_right [] (spEv K 0 c__law_odds_right) := fn_g (N := ["odds", "bad", "odd"]) T.f__law_odds_right sc__law_odds_right (by
  delta b__law_odds_right
  exact ss_cons (set_ 0 (se_lst (sa_cons (se_non) (sa_cons (se_tup (sa_nil)) (sa_cons (se_lst (sa_cons (se_tup (sa_cons (se_int) (sa_cons (se_int) (sa_cons (se_int) (sa_nil))))) (sa_nil))) (sa_cons (se_tup (sa_cons (se_int) (sa_cons (se_int) (sa_cons (se_int) (sa_nil))))) (sa_cons (se_op ok_mul (se_tup (sa_cons (se_tup (sa_cons (se_int) (sa_cons (se_int) (sa_cons (se_int) (sa_nil))))) (sa_nil))) (se_int)) (sa_cons (se_int) (sa_nil))))))))) (ss_cons (set_ 0 (se_op ok_add (v_ 0) (lc_ [("bad", 1)] (si_val (se_tup (sa_cons (se_tup (sa_cons (se_int) (sa_cons (se_int) (sa_cons (se_int) (sa_nil))))) (sa_cons (se_tup (sa_cons (se_int) (sa_cons (se_int) (sa_cons (se_int) (sa_nil))))) (sa_cons (se_tup (sa_cons (se_int) (sa_cons (se_int) (sa_cons (se_neg (se_int)) (sa_nil))))) (sa_cons (se_tup (sa_cons (se_bl) (sa_cons (se_int) (sa_cons (se_int) (sa_nil))))) (sa_cons (se_tup (sa_cons (se_int) (sa_cons (se_int) (sa_nil)))) (sa_cons (se_tup (sa_cons (se_int) (sa_cons (se_int) (sa_cons (se_int) (sa_cons (se_int) (sa_nil)))))) (sa_cons (se_lst (sa_cons (se_int) (sa_cons (se_int) (sa_cons (se_int) (sa_nil))))) (sa_cons (se_non) (sa_cons (se_tup (sa_cons (se_str) (sa_cons (se_int) (sa_cons (se_int) (sa_nil))))) (sa_cons (se_tup (sa_cons (se_int) (sa_cons (se_non) (sa_cons (se_int) (sa_nil))))) (sa_nil))))))))))))) (sgb_ 1) (stl_nil) (se_tup (sa_cons (v_ 1) (sa_nil)))))) (ss_one (ss_ret (se_and (se_cmp ck_eq (lc_ [("odd", 2)] (si_val (v_ 0)) (sgb_ 2) (stl_one (st_cmp ck_isnot (call_ (ok_are_boxes T) T.g_are_boxes T.k_are_boxes T.b_are_boxes (sa_cons (v_ 2) (sa_nil))) (se_bl) rfl)) (v_ 2)) (se_lst (sa_nil)) rfl) (se_one (se_cmp ck_is (call_ (ok_are_boxes T) T.g_are_boxes T.k_are_boxes T.b_are_boxes (sa_cons (se_op ok_mul (se_tup (sa_cons (se_tup (sa_cons (se_int) (sa_cons (se_int) (sa_cons (se_int) (sa_nil))))) (sa_nil))) (se_int)) (sa_nil))) (se_bl) rfl)))))))
theorem sc_law : FnScope ["script", "cup", "turn", "pair", "told", "size", "gap"] ["script"] (defScope s_law) := ⟨rfl, rfl, rfl, by decide +kernel, rfl, by decide +kernel, by decide +kernel⟩
theorem ok_law (T : Top K mg) : FnG PySem.Challenge.pw_carpentersyard_k86_whole_boxes_that_go_i w K mg base 7 T.a_law T.e_law ["script"] (spEv K 1 c_law) := fn_g (N := ["script", "cup", "turn", "pair", "told", "size", "gap"]) T.f_law sc_law (by
  delta b_law
  exact ss_cons (cup_ 1 (call_ (ok__law_cup T) T.g__law_cup T.k__law_cup T.b__law_cup (sa_cons (v_ 0) (sa_nil)))) (ss_cons (ss_for (rng1_ T.z_range (se_int)) (sg_ 2) (ss_one (ss_if (st_not (st_val (call_ (ok__law_right T) T.g__law_right T.k__law_right T.b__law_right (sa_cons (v_ 1) (sa_nil))))) (ss_one (ss_ret (se_bl))) (ss_nil)))) (ss_cons (par2_ 5 6 [false, false] (saf_cons (se_op ok_add (se_int) (call_ (ok__law_roll T) T.g__law_roll T.k__law_roll T.b__law_roll (sa_cons (v_ 1) (sa_cons (se_int) (sa_nil))))) (saf_cons (se_op ok_add (se_int) (call_ (ok__law_roll T) T.g__law_roll T.k__law_roll T.b__law_roll (sa_cons (v_ 1) (sa_cons (se_int) (sa_nil))))) (saf_nil)))) (ss_cons (set_ 3 (se_tup (sa_cons (se_tup (sa_cons (v_ 5) (sa_cons (v_ 5) (sa_cons (v_ 5) (sa_nil))))) (sa_cons (se_tup (sa_cons (se_op ok_add (v_ 5) (v_ 6)) (sa_cons (se_op ok_add (v_ 5) (v_ 6)) (sa_cons (se_op ok_add (v_ 5) (v_ 6)) (sa_nil))))) (sa_cons (se_tup (sa_cons (se_op ok_add (v_ 5) (v_ 6)) (sa_cons (se_op ok_sub (se_op ok_add (v_ 5) (v_ 6)) (se_int)) (sa_cons (se_int) (sa_nil))))) (sa_nil)))))) (ss_cons (set_ 4 (se_tup (sa_cons (se_ix (call_ (ok_into T) T.g_into T.k_into T.b_into (sa_cons (v_ 3) (sa_cons (v_ 6) (sa_nil)))) (se_int)) (sa_cons (len_ (call_ (ok_ways_into T) T.g_ways_into T.k_ways_into T.b_ways_into (sa_cons (v_ 3) (sa_cons (v_ 6) (sa_cons (se_int) (sa_cons (se_int) (sa_nil)))))) T.z_len) (sa_cons (call_ (ok_ways_into T) T.g_ways_into T.k_ways_into T.b_ways_into (sa_cons (v_ 3) (sa_cons (v_ 6) (sa_cons (se_int) (sa_cons (se_int) (sa_nil)))))) (sa_nil)))))) (ss_one (ss_ret (se_and (se_cmp ck_eq (v_ 4) (se_tup (sa_cons (se_tup (sa_cons (se_int) (sa_nil))) (sa_cons (se_int) (sa_cons (se_tup (sa_nil)) (sa_nil))))) rfl) (se_one (call0_ (ok__law_odds_right T) T.g__law_odds_right T.k__law_odds_right T.b__law_odds_right))))))))))
end
def topMk {K : PySem.W.Frag} {h : Heap} {mg : Str → Option Value} {f0 : Addr} {od0 an0 : Option Addr} {sl0 : Array (Option Value)} {oc0 kV0 dc0 pm0 cd0 ct0 : Value} {f1 : Addr} {od1 an1 : Option Addr} {sl1 : Array (Option Value)} {oc1 kV1 dc1 pm1 cd1 ct1 : Value} {f2 : Addr} {od2 an2 : Option Addr} {sl2 : Array (Option Value)} {oc2 kV2 dc2 pm2 cd2 ct2 : Value} {f3 : Addr} {od3 an3 : Option Addr} {sl3 : Array (Option Value)} {oc3 kV3 dc3 pm3 cd3 ct3 : Value} {f4 : Addr} {od4 an4 : Option Addr} {sl4 : Array (Option Value)} {oc4 kV4 dc4 pm4 cd4 ct4 : Value} {f5 : Addr} {od5 an5 : Option Addr} {sl5 : Array (Option Value)} {oc5 kV5 dc5 pm5 cd5 ct5 : Value} {f6 : Addr} {od6 an6 : Option Addr} {sl6 : Array (Option Value)} {oc6 kV6 dc6 pm6 cd6 ct6 : Value} {f7 : Addr} {od7 an7 : Option Addr} {sl7 : Array (Option Value)} {oc7 kV7 dc7 pm7 cd7 ct7 : Value} {f8 : Addr} {od8 an8 : Option Addr} {sl8 : Array (Option Value)} {oc8 kV8 dc8 pm8 cd8 ct8 : Value} {f9 : Addr} {od9 an9 : Option Addr} {sl9 : Array (Option Value)} {oc9 kV9 dc9 pm9 cd9 ct9 : Value} {f10 : Addr} {od10 an10 : Option Addr} {sl10 : Array (Option Value)} {oc10 kV10 dc10 pm10 cd10 ct10 : Value} {f11 : Addr} {od11 an11 : Option Addr} {sl11 : Array (Option Value)} {oc11 kV11 dc11 pm11 cd11 ct11 : Value} {f12 : Addr} {od12 an12 : Option Addr} {sl12 : Array (Option Value)} {oc12 kV12 dc12 pm12 cd12 ct12 : Value} {f13 : Addr} {od13 an13 : Option Addr} {sl13 : Array (Option Value)} {oc13 kV13 dc13 pm13 cd13 ct13 : Value} {f14 : Addr} {od14 an14 : Option Addr} {sl14 : Array (Option Value)} {oc14 kV14 dc14 pm14 cd14 ct14 : Value} {f15 : Addr} {od15 an15 : Option Addr} {sl15 : Array (Option Value)} {oc15 kV15 dc15 pm15 cd15 ct15 : Value} {f16 : Addr} {od16 an16 : Option Addr} {sl16 : Array (Option Value)} {oc16 kV16 dc16 pm16 cd16 ct16 : Value} {f17 : Addr} {od17 an17 : Option Addr} {sl17 : Array (Option Value)} {oc17 kV17 dc17 pm17 cd17 ct17 : Value} {f18 : Addr} {od18 an18 : Option Addr} {sl18 : Array (Option Value)} {oc18 kV18 dc18 pm18 cd18 ct18 : Value} {f19 : Addr} {od19 an19 : Option Addr} {sl19 : Array (Option Value)} {oc19 kV19 dc19 pm19 cd19 ct19 : Value} {f20 : Addr} {od20 an20 : Option Addr} {sl20 : Array (Option Value)} {oc20 kV20 dc20 pm20 cd20 ct20 : Value} {f21 : Addr} {od21 an21 : Option Addr} {sl21 : Array (Option Value)} {oc21 kV21 dc21 pm21 cd21 ct21 : Value} {ti0 : Tok} {ti1 : Tok} {w2_0 : Addr} {wo2_0 : Option Addr} {wn2_0 : Nat} {ws2_0 : Array (Option Value)} {w2_1 : Addr} {wo2_1 : Option Addr} {wn2_1 : Nat} {ws2_1 : Array (Option Value)} {wt2_2 : Tok} {wt2_3 : Tok} {wt2_4 : Tok} {w2_5 : Addr} {wo2_5 : Option Addr} {wn2_5 : Nat} {ws2_5 : Array (Option Value)} {wt2_6 : Tok} {wt2_7 : Tok} {wt2_8 : Tok} {w2_9 : Addr} {wo2_9 : Option Addr} {wn2_9 : Nat} {ws2_9 : Array (Option Value)} {wt2_10 : Tok} {wt2_11 : Tok} {wt2_12 : Tok} {w2_13 : Addr} {wo2_13 : Option Addr} {wn2_13 : Nat} {ws2_13 : Array (Option Value)} {wt2_14 : Tok} {wt2_15 : Tok} {wt2_16 : Tok} {w2_17 : Addr} {wo2_17 : Option Addr} {wn2_17 : Nat} {ws2_17 : Array (Option Value)} {wt2_18 : Tok} {wt2_19 : Tok} {wt2_20 : Tok} {w2_21 : Addr} {wo2_21 : Option Addr} {wn2_21 : Nat} {ws2_21 : Array (Option Value)} {wt2_22 : Tok} {wt2_23 : Tok} {wt2_24 : Tok} {ti3 : Tok} (X : K.In h) (G : h.Ns mainGlobals mg) (a0 : PySem.W.nsIn K mainGlobals "is_whole" = some (some (.ref f0))) (l0 : K.lookup f0 = some ⟨oc0, od0, .func (PySem.W.fnOf "is_whole" "is_whole" (defArgs s_is_whole) (defBody s_is_whole) (defScope s_is_whole) .none kV0 dc0 pm0 an0 cd0 ct0), sl0⟩) (c0 : PySem.W.codeIn K cd0 "is_whole" = true) (k0 : PySem.W.keepIn K (.ref f0) = true) (a1 : PySem.W.nsIn K mainGlobals "is_tuple_of" = some (some (.ref f1))) (l1 : K.lookup f1 = some ⟨oc1, od1, .func (PySem.W.fnOf "is_tuple_of" "is_tuple_of" (defArgs s_is_tuple_of) (defBody s_is_tuple_of) (defScope s_is_tuple_of) .none kV1 dc1 pm1 an1 cd1 ct1), sl1⟩) (c1 : PySem.W.codeIn K cd1 "is_tuple_of" = true) (k1 : PySem.W.keepIn K (.ref f1) = true) (a2 : PySem.W.nsIn K mainGlobals "fits_box" = some (some (.ref f2))) (l2 : K.lookup f2 = some ⟨oc2, od2, .func (PySem.W.fnOf "fits_box" "fits_box" (defArgs s_fits_box) (defBody s_fits_box) (defScope s_fits_box) .none kV2 dc2 pm2 an2 cd2 ct2), sl2⟩) (c2 : PySem.W.codeIn K cd2 "fits_box" = true) (k2 : PySem.W.keepIn K (.ref f2) = true) (a3 : PySem.W.nsIn K mainGlobals "fits_boxes" = some (some (.ref f3))) (l3 : K.lookup f3 = some ⟨oc3, od3, .func (PySem.W.fnOf "fits_boxes" "fits_boxes" (defArgs s_fits_boxes) (defBody s_fits_boxes) (defScope s_fits_boxes) .none kV3 dc3 pm3 an3 cd3 ct3), sl3⟩) (c3 : PySem.W.codeIn K cd3 "fits_boxes" = true) (k3 : PySem.W.keepIn K (.ref f3) = true) (a4 : PySem.W.nsIn K mainGlobals "need_boxes" = some (some (.ref f4))) (l4 : K.lookup f4 = some ⟨oc4, od4, .func (PySem.W.fnOf "need_boxes" "need_boxes" (defArgs s_need_boxes) (defBody s_need_boxes) (defScope s_need_boxes) .none kV4 dc4 pm4 an4 cd4 ct4), sl4⟩) (c4 : PySem.W.codeIn K cd4 "need_boxes" = true) (k4 : PySem.W.keepIn K (.ref f4) = true) (a5 : PySem.W.nsIn K mainGlobals "turned_by" = some (some (.ref f5))) (l5 : K.lookup f5 = some ⟨oc5, od5, .func (PySem.W.fnOf "turned_by" "turned_by" (defArgs s_turned_by) (defBody s_turned_by) (defScope s_turned_by) .none kV5 dc5 pm5 an5 cd5 ct5), sl5⟩) (c5 : PySem.W.codeIn K cd5 "turned_by" = true) (k5 : PySem.W.keepIn K (.ref f5) = true) (a6 : PySem.W.nsIn K mainGlobals "goes_in" = some (some (.ref f6))) (l6 : K.lookup f6 = some ⟨oc6, od6, .func (PySem.W.fnOf "goes_in" "goes_in" (defArgs s_goes_in) (defBody s_goes_in) (defScope s_goes_in) .none kV6 dc6 pm6 an6 cd6 ct6), sl6⟩) (c6 : PySem.W.codeIn K cd6 "goes_in" = true) (k6 : PySem.W.keepIn K (.ref f6) = true) (a7 : PySem.W.nsIn K mainGlobals "table_of" = some (some (.ref f7))) (l7 : K.lookup f7 = some ⟨oc7, od7, .func (PySem.W.fnOf "table_of" "table_of" (defArgs s_table_of) (defBody s_table_of) (defScope s_table_of) .none kV7 dc7 pm7 an7 cd7 ct7), sl7⟩) (c7 : PySem.W.codeIn K cd7 "table_of" = true) (k7 : PySem.W.keepIn K (.ref f7) = true) (a8 : PySem.W.nsIn K mainGlobals "are_boxes" = some (some (.ref f8))) (l8 : K.lookup f8 = some ⟨oc8, od8, .func (PySem.W.fnOf "are_boxes" "are_boxes" (defArgs s_are_boxes) (defBody s_are_boxes) (defScope s_are_boxes) .none kV8 dc8 pm8 an8 cd8 ct8), sl8⟩) (c8 : PySem.W.codeIn K cd8 "are_boxes" = true) (k8 : PySem.W.keepIn K (.ref f8) = true) (a9 : PySem.W.nsIn K mainGlobals "into" = some (some (.ref f9))) (l9 : K.lookup f9 = some ⟨oc9, od9, .func (PySem.W.fnOf "into" "into" (defArgs s_into) (defBody s_into) (defScope s_into) .none kV9 dc9 pm9 an9 cd9 ct9), sl9⟩) (c9 : PySem.W.codeIn K cd9 "into" = true) (k9 : PySem.W.keepIn K (.ref f9) = true) (a10 : PySem.W.nsIn K mainGlobals "ways_into" = some (some (.ref f10))) (l10 : K.lookup f10 = some ⟨oc10, od10, .func (PySem.W.fnOf "ways_into" "ways_into" (defArgs s_ways_into) (defBody s_ways_into) (defScope s_ways_into) .none kV10 dc10 pm10 an10 cd10 ct10), sl10⟩) (c10 : PySem.W.codeIn K cd10 "ways_into" = true) (k10 : PySem.W.keepIn K (.ref f10) = true) (a11 : PySem.W.nsIn K mainGlobals "_law_cup" = some (some (.ref f11))) (l11 : K.lookup f11 = some ⟨oc11, od11, .func (PySem.W.fnOf "_law_cup" "_law_cup" (defArgs s__law_cup) (defBody s__law_cup) (defScope s__law_cup) .none kV11 dc11 pm11 an11 cd11 ct11), sl11⟩) (c11 : PySem.W.codeIn K cd11 "_law_cup" = true) (k11 : PySem.W.keepIn K (.ref f11) = true) (a12 : PySem.W.nsIn K mainGlobals "_law_roll" = some (some (.ref f12))) (l12 : K.lookup f12 = some ⟨oc12, od12, .func (PySem.W.fnOf "_law_roll" "_law_roll" (defArgs s__law_roll) (defBody s__law_roll) (defScope s__law_roll) .none kV12 dc12 pm12 an12 cd12 ct12), sl12⟩) (c12 : PySem.W.codeIn K cd12 "_law_roll" = true) (k12 : PySem.W.keepIn K (.ref f12) = true) (a13 : PySem.W.nsIn K mainGlobals "_law_some" = some (some (.ref f13))) (l13 : K.lookup f13 = some ⟨oc13, od13, .func (PySem.W.fnOf "_law_some" "_law_some" (defArgs s__law_some) (defBody s__law_some) (defScope s__law_some) .none kV13 dc13 pm13 an13 cd13 ct13), sl13⟩) (c13 : PySem.W.codeIn K cd13 "_law_some" = true) (k13 : PySem.W.keepIn K (.ref f13) = true) (a14 : PySem.W.nsIn K mainGlobals "_law_orders" = some (some (.ref f14))) (l14 : K.lookup f14 = some ⟨oc14, od14, .func (PySem.W.fnOf "_law_orders" "_law_orders" (defArgs s__law_orders) (defBody s__law_orders) (defScope s__law_orders) .none kV14 dc14 pm14 an14 cd14 ct14), sl14⟩) (c14 : PySem.W.codeIn K cd14 "_law_orders" = true) (k14 : PySem.W.keepIn K (.ref f14) = true) (a15 : PySem.W.nsIn K mainGlobals "_law_turned" = some (some (.ref f15))) (l15 : K.lookup f15 = some ⟨oc15, od15, .func (PySem.W.fnOf "_law_turned" "_law_turned" (defArgs s__law_turned) (defBody s__law_turned) (defScope s__law_turned) .none kV15 dc15 pm15 an15 cd15 ct15), sl15⟩) (c15 : PySem.W.codeIn K cd15 "_law_turned" = true) (k15 : PySem.W.keepIn K (.ref f15) = true) (a16 : PySem.W.nsIn K mainGlobals "_law_boxes" = some (some (.ref f16))) (l16 : K.lookup f16 = some ⟨oc16, od16, .func (PySem.W.fnOf "_law_boxes" "_law_boxes" (defArgs s__law_boxes) (defBody s__law_boxes) (defScope s__law_boxes) .none kV16 dc16 pm16 an16 cd16 ct16), sl16⟩) (c16 : PySem.W.codeIn K cd16 "_law_boxes" = true) (k16 : PySem.W.keepIn K (.ref f16) = true) (a17 : PySem.W.nsIn K mainGlobals "_law_goes" = some (some (.ref f17))) (l17 : K.lookup f17 = some ⟨oc17, od17, .func (PySem.W.fnOf "_law_goes" "_law_goes" (defArgs s__law_goes) (defBody s__law_goes) (defScope s__law_goes) .none kV17 dc17 pm17 an17 cd17 ct17), sl17⟩) (c17 : PySem.W.codeIn K cd17 "_law_goes" = true) (k17 : PySem.W.keepIn K (.ref f17) = true) (a18 : PySem.W.nsIn K mainGlobals "_law_into" = some (some (.ref f18))) (l18 : K.lookup f18 = some ⟨oc18, od18, .func (PySem.W.fnOf "_law_into" "_law_into" (defArgs s__law_into) (defBody s__law_into) (defScope s__law_into) .none kV18 dc18 pm18 an18 cd18 ct18), sl18⟩) (c18 : PySem.W.codeIn K cd18 "_law_into" = true) (k18 : PySem.W.keepIn K (.ref f18) = true) (a19 : PySem.W.nsIn K mainGlobals "_law_right" = some (some (.ref f19))) (l19 : K.lookup f19 = some ⟨oc19, od19, .func (PySem.W.fnOf "_law_right" "_law_right" (defArgs s__law_right) (defBody s__law_right) (defScope s__law_right) .none kV19 dc19 pm19 an19 cd19 ct19), sl19⟩) (c19 : PySem.W.codeIn K cd19 "_law_right" = true) (k19 : PySem.W.keepIn K (.ref f19) = true) (a20 : PySem.W.nsIn K mainGlobals "_law_odds_right" = some (some (.ref f20))) (l20 : K.lookup f20 = some ⟨oc20, od20, .func (PySem.W.fnOf "_law_odds_right" "_law_odds_right" (defArgs s__law_odds_right) (defBody s__law_odds_right) (defScope s__law_odds_right) .none kV20 dc20 pm20 an20 cd20 ct20), sl20⟩) (c20 : PySem.W.codeIn K cd20 "_law_odds_right" = true) (k20 : PySem.W.keepIn K (.ref f20) = true) (a21 : PySem.W.nsIn K mainGlobals "law" = some (some (.ref f21))) (l21 : K.lookup f21 = some ⟨oc21, od21, .func (PySem.W.fnOf "law" "law" (defArgs s_law) (defBody s_law) (defScope s_law) .none kV21 dc21 pm21 an21 cd21 ct21), sl21⟩) (c21 : PySem.W.codeIn K cd21 "law" = true) (k21 : PySem.W.keepIn K (.ref f21) = true) (z0 : PySem.W.nsIn K mainGlobals "abs" = some none) (z1 : PySem.W.nsIn K mainGlobals "all" = some none) (z2 : PySem.W.nsIn K mainGlobals "bool" = some none) (z3 : PySem.W.nsIn K mainGlobals "enumerate" = some none) (z4 : PySem.W.nsIn K mainGlobals "int" = some none) (z5 : PySem.W.nsIn K mainGlobals "isinstance" = some none) (z6 : PySem.W.nsIn K mainGlobals "len" = some none) (z7 : PySem.W.nsIn K mainGlobals "list" = some none) (z8 : PySem.W.nsIn K mainGlobals "range" = some none) (z9 : PySem.W.nsIn K mainGlobals "repr" = some none) (z10 : PySem.W.nsIn K mainGlobals "sorted" = some none) (z11 : PySem.W.nsIn K mainGlobals "tuple" = some none) (z12 : PySem.W.nsIn K mainGlobals "zip" = some none) (q0 : PySem.W.nsIn K mainGlobals "BOXES" = some (some (.int 8 ti0))) (q1 : PySem.W.nsIn K mainGlobals "GAP" = some (some (.int 6 ti1))) (q2 : PySem.W.nsIn K mainGlobals "SIDES" = some (some (.ref w2_0))) (r2_0 : K.lookup w2_0 = some ⟨.type "tuple", wo2_0, .seq #[.ref w2_1, .ref w2_5, .ref w2_9, .ref w2_13, .ref w2_17, .ref w2_21] wn2_0, ws2_0⟩) (r2_1 : K.lookup w2_1 = some ⟨.type "tuple", wo2_1, .seq #[.int 0 wt2_2, .int 1 wt2_3, .int 2 wt2_4] wn2_1, ws2_1⟩) (r2_5 : K.lookup w2_5 = some ⟨.type "tuple", wo2_5, .seq #[.int 0 wt2_6, .int 2 wt2_7, .int 1 wt2_8] wn2_5, ws2_5⟩) (r2_9 : K.lookup w2_9 = some ⟨.type "tuple", wo2_9, .seq #[.int 1 wt2_10, .int 0 wt2_11, .int 2 wt2_12] wn2_9, ws2_9⟩) (r2_13 : K.lookup w2_13 = some ⟨.type "tuple", wo2_13, .seq #[.int 1 wt2_14, .int 2 wt2_15, .int 0 wt2_16] wn2_13, ws2_13⟩) (r2_17 : K.lookup w2_17 = some ⟨.type "tuple", wo2_17, .seq #[.int 2 wt2_18, .int 0 wt2_19, .int 1 wt2_20] wn2_17, ws2_17⟩) (r2_21 : K.lookup w2_21 = some ⟨.type "tuple", wo2_21, .seq #[.int 2 wt2_22, .int 1 wt2_23, .int 0 wt2_24] wn2_21, ws2_21⟩) (q3 : PySem.W.nsIn K mainGlobals "SIZE" = some (some (.int 40 ti3))) : Top K mg :=
  { a_is_whole := f0, e_is_whole := _, f_is_whole := fun_mk (st := s_is_whole) l0 c0 k0, g_is_whole := PySem.W.mg_of X G a0, k_is_whole := k0, b_is_whole := (fun_mk (st := s_is_whole) l0 c0 k0).binds (ps := ["value", "low", "high"]) fun _ _ _ _ _ _ us hl => match us, hl with | [_, _, _], _ => rfl,
    a_is_tuple_of := f1, e_is_tuple_of := _, f_is_tuple_of := fun_mk (st := s_is_tuple_of) l1 c1 k1, g_is_tuple_of := PySem.W.mg_of X G a1, k_is_tuple_of := k1, b_is_tuple_of := (fun_mk (st := s_is_tuple_of) l1 c1 k1).binds (ps := ["value", "low", "high"]) fun _ _ _ _ _ _ us hl => match us, hl with | [_, _, _], _ => rfl,
    a_fits_box := f2, e_fits_box := _, f_fits_box := fun_mk (st := s_fits_box) l2 c2 k2, g_fits_box := PySem.W.mg_of X G a2, k_fits_box := k2, b_fits_box := (fun_mk (st := s_fits_box) l2 c2 k2).binds (ps := ["value"]) fun _ _ _ _ _ _ us hl => match us, hl with | [_], _ => rfl,
    a_fits_boxes := f3, e_fits_boxes := _, f_fits_boxes := fun_mk (st := s_fits_boxes) l3 c3 k3, g_fits_boxes := PySem.W.mg_of X G a3, k_fits_boxes := k3, b_fits_boxes := (fun_mk (st := s_fits_boxes) l3 c3 k3).binds (ps := ["value"]) fun _ _ _ _ _ _ us hl => match us, hl with | [_], _ => rfl,
    a_need_boxes := f4, e_need_boxes := _, f_need_boxes := fun_mk (st := s_need_boxes) l4 c4 k4, g_need_boxes := PySem.W.mg_of X G a4, k_need_boxes := k4, b_need_boxes := (fun_mk (st := s_need_boxes) l4 c4 k4).binds (ps := ["boxes", "gap"]) fun _ _ _ _ _ _ us hl => match us, hl with | [_, _], _ => rfl,
    a_turned_by := f5, e_turned_by := _, f_turned_by := fun_mk (st := s_turned_by) l5 c5 k5, g_turned_by := PySem.W.mg_of X G a5, k_turned_by := k5, b_turned_by := (fun_mk (st := s_turned_by) l5 c5 k5).binds (ps := ["box", "sides"]) fun _ _ _ _ _ _ us hl => match us, hl with | [_, _], _ => rfl,
    a_goes_in := f6, e_goes_in := _, f_goes_in := fun_mk (st := s_goes_in) l6 c6 k6, g_goes_in := PySem.W.mg_of X G a6, k_goes_in := k6, b_goes_in := (fun_mk (st := s_goes_in) l6 c6 k6).binds (ps := ["box", "other", "gap"]) fun _ _ _ _ _ _ us hl => match us, hl with | [_, _, _], _ => rfl,
    a_table_of := f7, e_table_of := _, f_table_of := fun_mk (st := s_table_of) l7 c7 k7, g_table_of := PySem.W.mg_of X G a7, k_table_of := k7, b_table_of := (fun_mk (st := s_table_of) l7 c7 k7).binds (ps := ["boxes", "gap"]) fun _ _ _ _ _ _ us hl => match us, hl with | [_, _], _ => rfl,
    a_are_boxes := f8, e_are_boxes := _, f_are_boxes := fun_mk (st := s_are_boxes) l8 c8 k8, g_are_boxes := PySem.W.mg_of X G a8, k_are_boxes := k8, b_are_boxes := (fun_mk (st := s_are_boxes) l8 c8 k8).binds (ps := ["value"]) fun _ _ _ _ _ _ us hl => match us, hl with | [_], _ => rfl,
    a_into := f9, e_into := _, f_into := fun_mk (st := s_into) l9 c9 k9, g_into := PySem.W.mg_of X G a9, k_into := k9, b_into := (fun_mk (st := s_into) l9 c9 k9).binds (ps := ["boxes", "gap"]) fun _ _ _ _ _ _ us hl => match us, hl with | [_, _], _ => rfl,
    a_ways_into := f10, e_ways_into := _, f_ways_into := fun_mk (st := s_ways_into) l10 c10 k10, g_ways_into := PySem.W.mg_of X G a10, k_ways_into := k10, b_ways_into := (fun_mk (st := s_ways_into) l10 c10 k10).binds (ps := ["boxes", "gap", "one", "other"]) fun _ _ _ _ _ _ us hl => match us, hl with | [_, _, _, _], _ => rfl,
    a__law_cup := f11, e__law_cup := _, f__law_cup := fun_mk (st := s__law_cup) l11 c11 k11, g__law_cup := PySem.W.mg_of X G a11, k__law_cup := k11, b__law_cup := (fun_mk (st := s__law_cup) l11 c11 k11).binds (ps := ["script"]) fun _ _ _ _ _ _ us hl => match us, hl with | [_], _ => rfl,
    a__law_roll := f12, e__law_roll := _, f__law_roll := fun_mk (st := s__law_roll) l12 c12 k12, g__law_roll := PySem.W.mg_of X G a12, k__law_roll := k12, b__law_roll := (fun_mk (st := s__law_roll) l12 c12 k12).binds (ps := ["cup", "many"]) fun _ _ _ _ _ _ us hl => match us, hl with | [_, _], _ => rfl,
    a__law_some := f13, e__law_some := _, f__law_some := fun_mk (st := s__law_some) l13 c13 k13, g__law_some := PySem.W.mg_of X G a13, k__law_some := k13, b__law_some := (fun_mk (st := s__law_some) l13 c13 k13).binds (ps := ["cup", "things"]) fun _ _ _ _ _ _ us hl => match us, hl with | [_, _], _ => rfl,
    a__law_orders := f14, e__law_orders := _, f__law_orders := fun_mk (st := s__law_orders) l14 c14 k14, g__law_orders := PySem.W.mg_of X G a14, k__law_orders := k14, b__law_orders := (fun_mk (st := s__law_orders) l14 c14 k14).binds (ps := ["many"]) fun _ _ _ _ _ _ us hl => match us, hl with | [_], _ => rfl,
    a__law_turned := f15, e__law_turned := _, f__law_turned := fun_mk (st := s__law_turned) l15 c15 k15, g__law_turned := PySem.W.mg_of X G a15, k__law_turned := k15, b__law_turned := (fun_mk (st := s__law_turned) l15 c15 k15).binds (ps := ["cup", "things"]) fun _ _ _ _ _ _ us hl => match us, hl with | [_, _], _ => rfl,
    a__law_boxes := f16, e__law_boxes := _, f__law_boxes := fun_mk (st := s__law_boxes) l16 c16 k16, g__law_boxes := PySem.W.mg_of X G a16, k__law_boxes := k16, b__law_boxes := (fun_mk (st := s__law_boxes) l16 c16 k16).binds (ps := ["cup", "many", "most"]) fun _ _ _ _ _ _ us hl => match us, hl with | [_, _, _], _ => rfl,
    a__law_goes := f17, e__law_goes := _, f__law_goes := fun_mk (st := s__law_goes) l17 c17 k17, g__law_goes := PySem.W.mg_of X G a17, k__law_goes := k17, b__law_goes := (fun_mk (st := s__law_goes) l17 c17 k17).binds (ps := ["box", "other", "gap"]) fun _ _ _ _ _ _ us hl => match us, hl with | [_, _, _], _ => rfl,
    a__law_into := f18, e__law_into := _, f__law_into := fun_mk (st := s__law_into) l18 c18 k18, g__law_into := PySem.W.mg_of X G a18, k__law_into := k18, b__law_into := (fun_mk (st := s__law_into) l18 c18 k18).binds (ps := ["boxes", "gap"]) fun _ _ _ _ _ _ us hl => match us, hl with | [_, _], _ => rfl,
    a__law_right := f19, e__law_right := _, f__law_right := fun_mk (st := s__law_right) l19 c19 k19, g__law_right := PySem.W.mg_of X G a19, k__law_right := k19, b__law_right := (fun_mk (st := s__law_right) l19 c19 k19).binds (ps := ["cup"]) fun _ _ _ _ _ _ us hl => match us, hl with | [_], _ => rfl,
    a__law_odds_right := f20, e__law_odds_right := _, f__law_odds_right := fun_mk (st := s__law_odds_right) l20 c20 k20, g__law_odds_right := PySem.W.mg_of X G a20, k__law_odds_right := k20, b__law_odds_right := (fun_mk (st := s__law_odds_right) l20 c20 k20).binds (ps := []) fun _ _ _ _ _ _ us hl => match us, hl with | [], _ => rfl,
    a_law := f21, e_law := _, f_law := fun_mk (st := s_law) l21 c21 k21, g_law := PySem.W.mg_of X G a21, k_law := k21, b_law := (fun_mk (st := s_law) l21 c21 k21).binds (ps := ["script"]) fun _ _ _ _ _ _ us hl => match us, hl with | [_], _ => rfl,
    z_abs := PySem.W.mg_none_of X G z0,
    z_all := PySem.W.mg_none_of X G z1,
    z_bool := PySem.W.mg_none_of X G z2,
    z_enumerate := PySem.W.mg_none_of X G z3,
    z_int := PySem.W.mg_none_of X G z4,
    z_isinstance := PySem.W.mg_none_of X G z5,
    z_len := PySem.W.mg_none_of X G z6,
    z_list := PySem.W.mg_none_of X G z7,
    z_range := PySem.W.mg_none_of X G z8,
    z_repr := PySem.W.mg_none_of X G z9,
    z_sorted := PySem.W.mg_none_of X G z10,
    z_tuple := PySem.W.mg_none_of X G z11,
    z_zip := PySem.W.mg_none_of X G z12,
    c_BOXES := ⟨_, PySem.W.mg_of X G q0⟩,
    c_GAP := ⟨_, PySem.W.mg_of X G q1⟩,
    c_SIDES := let ⟨v, h1, h2⟩ := ((repT (m := 6) r2_0 rfl (by decide) (repC (repT (m := 3) r2_1 rfl (by decide) (repC repI (repC repI (repC repI repN)))) (repC (repT (m := 3) r2_5 rfl (by decide) (repC repI (repC repI (repC repI repN)))) (repC (repT (m := 3) r2_9 rfl (by decide) (repC repI (repC repI (repC repI repN)))) (repC (repT (m := 3) r2_13 rfl (by decide) (repC repI (repC repI (repC repI repN)))) (repC (repT (m := 3) r2_17 rfl (by decide) (repC repI (repC repI (repC repI repN)))) (repC (repT (m := 3) r2_21 rfl (by decide) (repC repI (repC repI (repC repI repN)))) repN))))))) : ∃ v, RelV v (.ref w2_0) ∧ ∀ F, Rep K F d_SIDES v); ⟨_, v, PySem.W.mg_of X G q2, h1, h2⟩,
    c_SIZE := ⟨_, PySem.W.mg_of X G q3⟩ }
theorem all_mk {l : PySem.W.OpenLaw} {w : World} {K : PySem.W.Frag} {h : Heap} {mg : Str → Option Value} {fa : Addr} {f0 : Addr} {od0 an0 : Option Addr} {sl0 : Array (Option Value)} {oc0 kV0 dc0 pm0 cd0 ct0 : Value} {f1 : Addr} {od1 an1 : Option Addr} {sl1 : Array (Option Value)} {oc1 kV1 dc1 pm1 cd1 ct1 : Value} {f2 : Addr} {od2 an2 : Option Addr} {sl2 : Array (Option Value)} {oc2 kV2 dc2 pm2 cd2 ct2 : Value} {f3 : Addr} {od3 an3 : Option Addr} {sl3 : Array (Option Value)} {oc3 kV3 dc3 pm3 cd3 ct3 : Value} {f4 : Addr} {od4 an4 : Option Addr} {sl4 : Array (Option Value)} {oc4 kV4 dc4 pm4 cd4 ct4 : Value} {f5 : Addr} {od5 an5 : Option Addr} {sl5 : Array (Option Value)} {oc5 kV5 dc5 pm5 cd5 ct5 : Value} {f6 : Addr} {od6 an6 : Option Addr} {sl6 : Array (Option Value)} {oc6 kV6 dc6 pm6 cd6 ct6 : Value} {f7 : Addr} {od7 an7 : Option Addr} {sl7 : Array (Option Value)} {oc7 kV7 dc7 pm7 cd7 ct7 : Value} {f8 : Addr} {od8 an8 : Option Addr} {sl8 : Array (Option Value)} {oc8 kV8 dc8 pm8 cd8 ct8 : Value} {f9 : Addr} {od9 an9 : Option Addr} {sl9 : Array (Option Value)} {oc9 kV9 dc9 pm9 cd9 ct9 : Value} {f10 : Addr} {od10 an10 : Option Addr} {sl10 : Array (Option Value)} {oc10 kV10 dc10 pm10 cd10 ct10 : Value} {f11 : Addr} {od11 an11 : Option Addr} {sl11 : Array (Option Value)} {oc11 kV11 dc11 pm11 cd11 ct11 : Value} {f12 : Addr} {od12 an12 : Option Addr} {sl12 : Array (Option Value)} {oc12 kV12 dc12 pm12 cd12 ct12 : Value} {f13 : Addr} {od13 an13 : Option Addr} {sl13 : Array (Option Value)} {oc13 kV13 dc13 pm13 cd13 ct13 : Value} {f14 : Addr} {od14 an14 : Option Addr} {sl14 : Array (Option Value)} {oc14 kV14 dc14 pm14 cd14 ct14 : Value} {f15 : Addr} {od15 an15 : Option Addr} {sl15 : Array (Option Value)} {oc15 kV15 dc15 pm15 cd15 ct15 : Value} {f16 : Addr} {od16 an16 : Option Addr} {sl16 : Array (Option Value)} {oc16 kV16 dc16 pm16 cd16 ct16 : Value} {f17 : Addr} {od17 an17 : Option Addr} {sl17 : Array (Option Value)} {oc17 kV17 dc17 pm17 cd17 ct17 : Value} {f18 : Addr} {od18 an18 : Option Addr} {sl18 : Array (Option Value)} {oc18 kV18 dc18 pm18 cd18 ct18 : Value} {f19 : Addr} {od19 an19 : Option Addr} {sl19 : Array (Option Value)} {oc19 kV19 dc19 pm19 cd19 ct19 : Value} {f20 : Addr} {od20 an20 : Option Addr} {sl20 : Array (Option Value)} {oc20 kV20 dc20 pm20 cd20 ct20 : Value} {f21 : Addr} {od21 an21 : Option Addr} {sl21 : Array (Option Value)} {oc21 kV21 dc21 pm21 cd21 ct21 : Value} {ti0 : Tok} {ti1 : Tok} {w2_0 : Addr} {wo2_0 : Option Addr} {wn2_0 : Nat} {ws2_0 : Array (Option Value)} {w2_1 : Addr} {wo2_1 : Option Addr} {wn2_1 : Nat} {ws2_1 : Array (Option Value)} {wt2_2 : Tok} {wt2_3 : Tok} {wt2_4 : Tok} {w2_5 : Addr} {wo2_5 : Option Addr} {wn2_5 : Nat} {ws2_5 : Array (Option Value)} {wt2_6 : Tok} {wt2_7 : Tok} {wt2_8 : Tok} {w2_9 : Addr} {wo2_9 : Option Addr} {wn2_9 : Nat} {ws2_9 : Array (Option Value)} {wt2_10 : Tok} {wt2_11 : Tok} {wt2_12 : Tok} {w2_13 : Addr} {wo2_13 : Option Addr} {wn2_13 : Nat} {ws2_13 : Array (Option Value)} {wt2_14 : Tok} {wt2_15 : Tok} {wt2_16 : Tok} {w2_17 : Addr} {wo2_17 : Option Addr} {wn2_17 : Nat} {ws2_17 : Array (Option Value)} {wt2_18 : Tok} {wt2_19 : Tok} {wt2_20 : Tok} {w2_21 : Addr} {wo2_21 : Option Addr} {wn2_21 : Nat} {ws2_21 : Array (Option Value)} {wt2_22 : Tok} {wt2_23 : Tok} {wt2_24 : Tok} {ti3 : Tok} (hl : l.prog = PySem.Challenge.pw_carpentersyard_k86_whole_boxes_that_go_i) (X : K.In h) (G : h.Ns mainGlobals mg) (hfa : mg "law" = some (.ref fa)) (a0 : PySem.W.nsIn K mainGlobals "is_whole" = some (some (.ref f0))) (l0 : K.lookup f0 = some ⟨oc0, od0, .func (PySem.W.fnOf "is_whole" "is_whole" (defArgs s_is_whole) (defBody s_is_whole) (defScope s_is_whole) .none kV0 dc0 pm0 an0 cd0 ct0), sl0⟩) (c0 : PySem.W.codeIn K cd0 "is_whole" = true) (k0 : PySem.W.keepIn K (.ref f0) = true) (a1 : PySem.W.nsIn K mainGlobals "is_tuple_of" = some (some (.ref f1))) (l1 : K.lookup f1 = some ⟨oc1, od1, .func (PySem.W.fnOf "is_tuple_of" "is_tuple_of" (defArgs s_is_tuple_of) (defBody s_is_tuple_of) (defScope s_is_tuple_of) .none kV1 dc1 pm1 an1 cd1 ct1), sl1⟩) (c1 : PySem.W.codeIn K cd1 "is_tuple_of" = true) (k1 : PySem.W.keepIn K (.ref f1) = true) (a2 : PySem.W.nsIn K mainGlobals "fits_box" = some (some (.ref f2))) (l2 : K.lookup f2 = some ⟨oc2, od2, .func (PySem.W.fnOf "fits_box" "fits_box" (defArgs s_fits_box) (defBody s_fits_box) (defScope s_fits_box) .none kV2 dc2 pm2 an2 cd2 ct2), sl2⟩) (c2 : PySem.W.codeIn K cd2 "fits_box" = true) (k2 : PySem.W.keepIn K (.ref f2) = true) (a3 : PySem.W.nsIn K mainGlobals "fits_boxes" = some (some (.ref f3))) (l3 : K.lookup f3 = some ⟨oc3, od3, .func (PySem.W.fnOf "fits_boxes" "fits_boxes" (defArgs s_fits_boxes) (defBody s_fits_boxes) (defScope s_fits_boxes) .none kV3 dc3 pm3 an3 cd3 ct3), sl3⟩) (c3 : PySem.W.codeIn K cd3 "fits_boxes" = true) (k3 : PySem.W.keepIn K (.ref f3) = true) (a4 : PySem.W.nsIn K mainGlobals "need_boxes" = some (some (.ref f4))) (l4 : K.lookup f4 = some ⟨oc4, od4, .func (PySem.W.fnOf "need_boxes" "need_boxes" (defArgs s_need_boxes) (defBody s_need_boxes) (defScope s_need_boxes) .none kV4 dc4 pm4 an4 cd4 ct4), sl4⟩) (c4 : PySem.W.codeIn K cd4 "need_boxes" = true) (k4 : PySem.W.keepIn K (.ref f4) = true) (a5 : PySem.W.nsIn K mainGlobals "turned_by" = some (some (.ref f5))) (l5 : K.lookup f5 = some ⟨oc5, od5, .func (PySem.W.fnOf "turned_by" "turned_by" (defArgs s_turned_by) (defBody s_turned_by) (defScope s_turned_by) .none kV5 dc5 pm5 an5 cd5 ct5), sl5⟩) (c5 : PySem.W.codeIn K cd5 "turned_by" = true) (k5 : PySem.W.keepIn K (.ref f5) = true) (a6 : PySem.W.nsIn K mainGlobals "goes_in" = some (some (.ref f6))) (l6 : K.lookup f6 = some ⟨oc6, od6, .func (PySem.W.fnOf "goes_in" "goes_in" (defArgs s_goes_in) (defBody s_goes_in) (defScope s_goes_in) .none kV6 dc6 pm6 an6 cd6 ct6), sl6⟩) (c6 : PySem.W.codeIn K cd6 "goes_in" = true) (k6 : PySem.W.keepIn K (.ref f6) = true) (a7 : PySem.W.nsIn K mainGlobals "table_of" = some (some (.ref f7))) (l7 : K.lookup f7 = some ⟨oc7, od7, .func (PySem.W.fnOf "table_of" "table_of" (defArgs s_table_of) (defBody s_table_of) (defScope s_table_of) .none kV7 dc7 pm7 an7 cd7 ct7), sl7⟩) (c7 : PySem.W.codeIn K cd7 "table_of" = true) (k7 : PySem.W.keepIn K (.ref f7) = true) (a8 : PySem.W.nsIn K mainGlobals "are_boxes" = some (some (.ref f8))) (l8 : K.lookup f8 = some ⟨oc8, od8, .func (PySem.W.fnOf "are_boxes" "are_boxes" (defArgs s_are_boxes) (defBody s_are_boxes) (defScope s_are_boxes) .none kV8 dc8 pm8 an8 cd8 ct8), sl8⟩) (c8 : PySem.W.codeIn K cd8 "are_boxes" = true) (k8 : PySem.W.keepIn K (.ref f8) = true) (a9 : PySem.W.nsIn K mainGlobals "into" = some (some (.ref f9))) (l9 : K.lookup f9 = some ⟨oc9, od9, .func (PySem.W.fnOf "into" "into" (defArgs s_into) (defBody s_into) (defScope s_into) .none kV9 dc9 pm9 an9 cd9 ct9), sl9⟩) (c9 : PySem.W.codeIn K cd9 "into" = true) (k9 : PySem.W.keepIn K (.ref f9) = true) (a10 : PySem.W.nsIn K mainGlobals "ways_into" = some (some (.ref f10))) (l10 : K.lookup f10 = some ⟨oc10, od10, .func (PySem.W.fnOf "ways_into" "ways_into" (defArgs s_ways_into) (defBody s_ways_into) (defScope s_ways_into) .none kV10 dc10 pm10 an10 cd10 ct10), sl10⟩) (c10 : PySem.W.codeIn K cd10 "ways_into" = true) (k10 : PySem.W.keepIn K (.ref f10) = true) (a11 : PySem.W.nsIn K mainGlobals "_law_cup" = some (some (.ref f11))) (l11 : K.lookup f11 = some ⟨oc11, od11, .func (PySem.W.fnOf "_law_cup" "_law_cup" (defArgs s__law_cup) (defBody s__law_cup) (defScope s__law_cup) .none kV11 dc11 pm11 an11 cd11 ct11), sl11⟩) (c11 : PySem.W.codeIn K cd11 "_law_cup" = true) (k11 : PySem.W.keepIn K (.ref f11) = true) (a12 : PySem.W.nsIn K mainGlobals "_law_roll" = some (some (.ref f12))) (l12 : K.lookup f12 = some ⟨oc12, od12, .func (PySem.W.fnOf "_law_roll" "_law_roll" (defArgs s__law_roll) (defBody s__law_roll) (defScope s__law_roll) .none kV12 dc12 pm12 an12 cd12 ct12), sl12⟩) (c12 : PySem.W.codeIn K cd12 "_law_roll" = true) (k12 : PySem.W.keepIn K (.ref f12) = true) (a13 : PySem.W.nsIn K mainGlobals "_law_some" = some (some (.ref f13))) (l13 : K.lookup f13 = some ⟨oc13, od13, .func (PySem.W.fnOf "_law_some" "_law_some" (defArgs s__law_some) (defBody s__law_some) (defScope s__law_some) .none kV13 dc13 pm13 an13 cd13 ct13), sl13⟩) (c13 : PySem.W.codeIn K cd13 "_law_some" = true) (k13 : PySem.W.keepIn K (.ref f13) = true) (a14 : PySem.W.nsIn K mainGlobals "_law_orders" = some (some (.ref f14))) (l14 : K.lookup f14 = some ⟨oc14, od14, .func (PySem.W.fnOf "_law_orders" "_law_orders" (defArgs s__law_orders) (defBody s__law_orders) (defScope s__law_orders) .none kV14 dc14 pm14 an14 cd14 ct14), sl14⟩) (c14 : PySem.W.codeIn K cd14 "_law_orders" = true) (k14 : PySem.W.keepIn K (.ref f14) = true) (a15 : PySem.W.nsIn K mainGlobals "_law_turned" = some (some (.ref f15))) (l15 : K.lookup f15 = some ⟨oc15, od15, .func (PySem.W.fnOf "_law_turned" "_law_turned" (defArgs s__law_turned) (defBody s__law_turned) (defScope s__law_turned) .none kV15 dc15 pm15 an15 cd15 ct15), sl15⟩) (c15 : PySem.W.codeIn K cd15 "_law_turned" = true) (k15 : PySem.W.keepIn K (.ref f15) = true) (a16 : PySem.W.nsIn K mainGlobals "_law_boxes" = some (some (.ref f16))) (l16 : K.lookup f16 = some ⟨oc16, od16, .func (PySem.W.fnOf "_law_boxes" "_law_boxes" (defArgs s__law_boxes) (defBody s__law_boxes) (defScope s__law_boxes) .none kV16 dc16 pm16 an16 cd16 ct16), sl16⟩) (c16 : PySem.W.codeIn K cd16 "_law_boxes" = true) (k16 : PySem.W.keepIn K (.ref f16) = true) (a17 : PySem.W.nsIn K mainGlobals "_law_goes" = some (some (.ref f17))) (l17 : K.lookup f17 = some ⟨oc17, od17, .func (PySem.W.fnOf "_law_goes" "_law_goes" (defArgs s__law_goes) (defBody s__law_goes) (defScope s__law_goes) .none kV17 dc17 pm17 an17 cd17 ct17), sl17⟩) (c17 : PySem.W.codeIn K cd17 "_law_goes" = true) (k17 : PySem.W.keepIn K (.ref f17) = true) (a18 : PySem.W.nsIn K mainGlobals "_law_into" = some (some (.ref f18))) (l18 : K.lookup f18 = some ⟨oc18, od18, .func (PySem.W.fnOf "_law_into" "_law_into" (defArgs s__law_into) (defBody s__law_into) (defScope s__law_into) .none kV18 dc18 pm18 an18 cd18 ct18), sl18⟩) (c18 : PySem.W.codeIn K cd18 "_law_into" = true) (k18 : PySem.W.keepIn K (.ref f18) = true) (a19 : PySem.W.nsIn K mainGlobals "_law_right" = some (some (.ref f19))) (l19 : K.lookup f19 = some ⟨oc19, od19, .func (PySem.W.fnOf "_law_right" "_law_right" (defArgs s__law_right) (defBody s__law_right) (defScope s__law_right) .none kV19 dc19 pm19 an19 cd19 ct19), sl19⟩) (c19 : PySem.W.codeIn K cd19 "_law_right" = true) (k19 : PySem.W.keepIn K (.ref f19) = true) (a20 : PySem.W.nsIn K mainGlobals "_law_odds_right" = some (some (.ref f20))) (l20 : K.lookup f20 = some ⟨oc20, od20, .func (PySem.W.fnOf "_law_odds_right" "_law_odds_right" (defArgs s__law_odds_right) (defBody s__law_odds_right) (defScope s__law_odds_right) .none kV20 dc20 pm20 an20 cd20 ct20), sl20⟩) (c20 : PySem.W.codeIn K cd20 "_law_odds_right" = true) (k20 : PySem.W.keepIn K (.ref f20) = true) (a21 : PySem.W.nsIn K mainGlobals "law" = some (some (.ref f21))) (l21 : K.lookup f21 = some ⟨oc21, od21, .func (PySem.W.fnOf "law" "law" (defArgs s_law) (defBody s_law) (defScope s_law) .none kV21 dc21 pm21 an21 cd21 ct21), sl21⟩) (c21 : PySem.W.codeIn K cd21 "law" = true) (k21 : PySem.W.keepIn K (.ref f21) = true) (z0 : PySem.W.nsIn K mainGlobals "abs" = some none) (z1 : PySem.W.nsIn K mainGlobals "all" = some none) (z2 : PySem.W.nsIn K mainGlobals "bool" = some none) (z3 : PySem.W.nsIn K mainGlobals "enumerate" = some none) (z4 : PySem.W.nsIn K mainGlobals "int" = some none) (z5 : PySem.W.nsIn K mainGlobals "isinstance" = some none) (z6 : PySem.W.nsIn K mainGlobals "len" = some none) (z7 : PySem.W.nsIn K mainGlobals "list" = some none) (z8 : PySem.W.nsIn K mainGlobals "range" = some none) (z9 : PySem.W.nsIn K mainGlobals "repr" = some none) (z10 : PySem.W.nsIn K mainGlobals "sorted" = some none) (z11 : PySem.W.nsIn K mainGlobals "tuple" = some none) (z12 : PySem.W.nsIn K mainGlobals "zip" = some none) (q0 : PySem.W.nsIn K mainGlobals "BOXES" = some (some (.int 8 ti0))) (q1 : PySem.W.nsIn K mainGlobals "GAP" = some (some (.int 6 ti1))) (q2 : PySem.W.nsIn K mainGlobals "SIDES" = some (some (.ref w2_0))) (r2_0 : K.lookup w2_0 = some ⟨.type "tuple", wo2_0, .seq #[.ref w2_1, .ref w2_5, .ref w2_9, .ref w2_13, .ref w2_17, .ref w2_21] wn2_0, ws2_0⟩) (r2_1 : K.lookup w2_1 = some ⟨.type "tuple", wo2_1, .seq #[.int 0 wt2_2, .int 1 wt2_3, .int 2 wt2_4] wn2_1, ws2_1⟩) (r2_5 : K.lookup w2_5 = some ⟨.type "tuple", wo2_5, .seq #[.int 0 wt2_6, .int 2 wt2_7, .int 1 wt2_8] wn2_5, ws2_5⟩) (r2_9 : K.lookup w2_9 = some ⟨.type "tuple", wo2_9, .seq #[.int 1 wt2_10, .int 0 wt2_11, .int 2 wt2_12] wn2_9, ws2_9⟩) (r2_13 : K.lookup w2_13 = some ⟨.type "tuple", wo2_13, .seq #[.int 1 wt2_14, .int 2 wt2_15, .int 0 wt2_16] wn2_13, ws2_13⟩) (r2_17 : K.lookup w2_17 = some ⟨.type "tuple", wo2_17, .seq #[.int 2 wt2_18, .int 0 wt2_19, .int 1 wt2_20] wn2_17, ws2_17⟩) (r2_21 : K.lookup w2_21 = some ⟨.type "tuple", wo2_21, .seq #[.int 2 wt2_22, .int 1 wt2_23, .int 0 wt2_24] wn2_21, ws2_21⟩) (q3 : PySem.W.nsIn K mainGlobals "SIZE" = some (some (.int 40 ti3))) :
    ∃ fd : FuncData, (∀ (s : Shared) (v : Value), BindsTo s fd ⟨[v], []⟩ [("script", v)]) ∧ ∀ base : Heap, K.In base → base.Ns mainGlobals mg → FnG l.prog w K mg base 7 fa fd ["script"] (spEv K 1 c_law) := by
  have e := hfa.symm.trans (PySem.W.mg_of X G a21)
  cases e
  rw [hl]
  exact ⟨_, fun s v => .of_eq rfl, fun base _ _ => ok_law (topMk X G a0 l0 c0 k0 a1 l1 c1 k1 a2 l2 c2 k2 a3 l3 c3 k3 a4 l4 c4 k4 a5 l5 c5 k5 a6 l6 c6 k6 a7 l7 c7 k7 a8 l8 c8 k8 a9 l9 c9 k9 a10 l10 c10 k10 a11 l11 c11 k11 a12 l12 c12 k12 a13 l13 c13 k13 a14 l14 c14 k14 a15 l15 c15 k15 a16 l16 c16 k16 a17 l17 c17 k17 a18 l18 c18 k18 a19 l19 c19 k19 a20 l20 c20 k20 a21 l21 c21 k21 z0 z1 z2 z3 z4 z5 z6 z7 z8 z9 z10 z11 z12 q0 q1 q2 r2_0 r2_1 r2_5 r2_9 r2_13 r2_17 r2_21 q3)⟩
end Yd86

namespace Yd86
open PySem Yd
theorem is_whole_i (i lo hi : Int) (c : Option (List D)) : c_is_whole [.d (.int i), .d (.int lo), .d (.int hi)] c = .ok ((false, .bool (decide (lo ≤ i) && decide (i ≤ hi))), c) := by
  simp only [c_is_whole, runFn_e, b_is_whole]
  simp [mAnd, mNot, fIsa, isaD, PyData.plain, mChn]

  by_cases h1 : lo ≤ i <;> by_cases h2 : i ≤ hi <;> simp [h1, h2]
def d_orders : D := .list [.tuple [.int 0, .int 1, .int 2], .tuple [.int 0, .int 2, .int 1], .tuple [.int 1, .int 0, .int 2], .tuple [.int 1, .int 2, .int 0], .tuple [.int 2, .int 0, .int 1], .tuple [.int 2, .int 1, .int 0]]
theorem orders3 (c : Option (List D)) : c__law_orders [.d (.int 3)] c = .ok ((false, d_orders), c) := by
  kernel_rfl
theorem odds (c : Option (List D)) : c__law_odds_right [] c = .ok ((false, .bool true), c) := by
  kernel_rfl
end Yd86

namespace Yd86
open PySem Yd
def srt (xs : List Int) : List Int := xs.mergeSort (fun a b => decide (a ≤ b))
theorem srt3 (a b c : Int) : srt [a,b,c] = if a ≤ b then (if b ≤ c then [a,b,c] else if a ≤ c then [a,c,b] else [c,a,b]) else (if a ≤ c then [b,a,c] else if b ≤ c then [b,c,a] else [c,b,a]) := by
  unfold srt
  simp only [List.mergeSort, List.MergeSort.Internal.splitInTwo]
  simp [List.splitAt, List.splitAt.go, List.merge, List.mergeSort]
  by_cases h1 : a ≤ b <;> by_cases h2 : b ≤ c <;> by_cases h3 : a ≤ c <;> simp [List.merge, h1, h2, h3] <;> omega
abbrev Box := Int × Int × Int
def encB (b : Box) : D := .tuple [.int b.1, .int b.2.1, .int b.2.2]
def okB (b : Box) : Prop := (1 ≤ b.1 ∧ b.1 ≤ 40) ∧ (1 ≤ b.2.1 ∧ b.2.1 ≤ 40) ∧ (1 ≤ b.2.2 ∧ b.2.2 ≤ 40)
theorem tuple_of (xs : List D) (hp : PyData.plainAll xs = true) (lo hi : Int) (c : Option (List D)) : c_is_tuple_of [.d (.tuple xs), .d (.int lo), .d (.int hi)] c = .ok ((false, .bool (decide (lo ≤ xs.length) && decide (xs.length ≤ hi))), c) := by
  simp only [c_is_tuple_of, runFn_e, b_is_tuple_of]
  simp [mAnd, mOr, mNot, mChn, fIsa, isaD, PyData.plain, PyData.plainAll, fLen, fTuple, fList, fAbs, fInt, fIx, tOf_e, sOwn_e, sCup_e, mRng1, mRng2, rdInt, inR, hp]
  by_cases h1 : lo ≤ (xs.length : Int) <;> by_cases h2 : (xs.length : Int) ≤ hi <;> simp [h1, h2]
theorem plain_encs (bs : List Box) : PyData.plainAll (bs.map encB) = true := by
  induction bs with
  | nil => rfl
  | cons b bs ih => simp [PyData.plainAll, ih, encB, PyData.plain]
theorem fits_box {b : Box} (h : okB b) (c : Option (List D)) : c_fits_box [.d (encB b)] c = .ok ((false, .bool true), c) := by
  obtain ⟨a0, a1, a2⟩ := b
  obtain ⟨⟨h1, h2⟩, ⟨h3, h4⟩, h5, h6⟩ := h
  simp only at h1 h2 h3 h4 h5 h6
  have hp : PyData.plainAll [PyData.int a0, .int a1, .int a2] = true := rfl
  simp only [c_fits_box, runFn_e, b_fits_box, encB]
  simp [mAnd, mOr, mNot, mChn, fIsa, isaD, PyData.plain, PyData.plainAll, fLen, fTuple, fList, fAbs, fInt, fIx, tOf_e, sOwn_e, sCup_e, mRng1, mRng2, rdInt, inR, tuple_of _ hp, is_whole_i, mLc, lcL, wipes, backs, lim, fAll, boolsOf, h1, h2, h3, h4, h5, h6]
theorem fits_boxes {bs : List Box} (h : ∀ b ∈ bs, okB b) (h1 : 1 ≤ bs.length) (h8 : bs.length ≤ 8) (c : Option (List D)) : c_fits_boxes [.d (.tuple (bs.map encB))] c = .ok ((false, .bool true), c) := by
  simp only [c_fits_boxes, runFn_e, b_fits_boxes]
  have hl : mLc [1] (.nm 1) (mIt (mVar 0)) cYes (mCall c_fits_box [mVar 1]) ⟨[.sh (.tuple (bs.map encB)), .un], c⟩ = .ok (.fr (.list (bs.map fun _ => .bool true)), ⟨[.sh (.tuple (bs.map encB)), .un], c⟩) := by
    refine mLc_map bs encB _ (by simp) (by simp [lim]; omega) (noOw_cons (by simp) noOw_nil) fun b hb => ?_
    simp [lcT, wipes, fits_box (h b hb)]
  have e1 : (1 : Int) ≤ (bs.length : Int) := by omega
  have e2 : (bs.length : Int) ≤ 8 := by omega
  simp [mAnd, mOr, mNot, mChn, fIsa, isaD, PyData.plain, PyData.plainAll, fLen, fTuple, fList, fAbs, fInt, fIx, tOf_e, sOwn_e, sCup_e, mRng1, mRng2, rdInt, inR, tuple_of _ (plain_encs bs), hl, e1, e2, -List.map_const', fAll_map (fun _ => true) bs]
theorem need_boxes {bs : List Box} (h : ∀ b ∈ bs, okB b) (h1 : 1 ≤ bs.length) (h8 : bs.length ≤ 8) {g : Int} (g1 : 1 ≤ g) (g6 : g ≤ 6) (c : Option (List D)) : c_need_boxes [.d (.tuple (bs.map encB)), .d (.int g)] c = .ok ((false, .none), c) := by
  simp only [c_need_boxes, runFn_e, b_need_boxes]
  simp [mAnd, mOr, mNot, mChn, fIsa, isaD, PyData.plain, PyData.plainAll, fLen, fTuple, fList, fAbs, fInt, fIx, tOf_e, sOwn_e, sCup_e, mRng1, mRng2, rdInt, inR, fits_boxes h h1 h8, is_whole_i, g1, g6]
theorem are_boxes {bs : List Box} (h : ∀ b ∈ bs, okB b) (h1 : 1 ≤ bs.length) (h8 : bs.length ≤ 8) (c : Option (List D)) : c_are_boxes [.d (.tuple (bs.map encB))] c = .ok ((false, .bool true), c) := by
  simp only [c_are_boxes, runFn_e, b_are_boxes]
  simp [fits_boxes h h1 h8]
/-! sorted -/
theorem alike_int (a b : Int) : PySem.W.alike (.int a) (.int b) = true := rfl
theorem sortOk_ints {ns : List Int} (h : ns.length ≤ lim) : sortOk (ns.map .int) = true := by
  simp [sortOk, h, alike_int]
theorem sortD_ints (ns : List Int) : sortD (ns.map .int) = (srt ns).map .int := by
  unfold sortD srt
  rw [List.map_mergeSort]
  intro a _ b _
  have := congrFun (congrFun (PySem.W.dataLe_int (β := Int) id) a) b
  exact this.symm
/-- one box goes into the other, by the sorted sides -/
def gi (g : Int) (b o : Box) : Bool := ((srt [b.1, b.2.1, b.2.2]).zip (srt [o.1, o.2.1, o.2.2])).all fun p => decide (p.1 + g ≤ p.2)
theorem goes_in (b o : Box) (g : Int) (c : Option (List D)) : c_goes_in [.d (encB b), .d (encB o), .d (.int g)] c = .ok ((false, .bool (gi g b o)), c) := by
  obtain ⟨a0, a1, a2⟩ := b
  obtain ⟨o0, o1, o2⟩ := o
  simp only [c_goes_in, runFn_e, b_goes_in, encB]
  have so : ∀ x y z : Int, sortOk [.int x, .int y, .int z] = true := fun x y z => sortOk_ints (ns := [x, y, z]) (by simp [lim])
  have sd : ∀ x y z : Int, sortD [.int x, .int y, .int z] = (srt [x, y, z]).map .int := fun x y z => sortD_ints [x, y, z]
  have sl : ∀ x y z : Int, (srt [x, y, z]).length = 3 := fun x y z => by simp [srt]
  have hl : mLc [3, 4] (.tp [.nm 3, .nm 4]) (mZip (mB fSorted [mVar 0]) (mB fSorted [mVar 1])) cYes (m2 fLe (m2 fAdd (mVar 3) (mVar 2)) (mVar 4)) ⟨[.sh (.tuple [.int a0, .int a1, .int a2]), .sh (.tuple [.int o0, .int o1, .int o2]), .sh (.int g), .un, .un], c⟩ = .ok (.fr (.list (((srt [a0, a1, a2]).zip (srt [o0, o1, o2])).map fun p => .bool (decide (p.1 + g ≤ p.2)))), ⟨[.sh (.tuple [.int a0, .int a1, .int a2]), .sh (.tuple [.int o0, .int o1, .int o2]), .sh (.int g), .un, .un], c⟩) := by
    refine mLc_map ((srt [a0, a1, a2]).zip (srt [o0, o1, o2])) (fun p => .tuple [.int p.1, .int p.2]) _ ?_ (by simp [sl, lim]) (noOw_cons (by simp) (noOw_cons (by simp) noOw_nil)) fun p hp => ?_
    · simp [mZip, fSorted, so, sd, pairs_map]
    · simp [lcT, wipes]
  simp [hl, fAll_map (fun p : Int × Int => decide (p.1 + g ≤ p.2)), gi]
def row (g : Int) (bs : List Box) (b : Box) : List Nat := (List.range bs.length).filter fun i => gi g b (bs.getD i (0, 0, 0))
def encR (r : List Nat) : List D := r.map fun i => .int (i : Nat)
theorem get_enc {bs : List Box} {i : Nat} (h : i < bs.length) : (bs.map encB)[i]? = some (encB (bs.getD i (0, 0, 0))) := by
  simp [h]
theorem table_of (bs : List Box) (h8 : bs.length ≤ 8) (g : Int) (c : Option (List D)) : ∃ b, c_table_of [.d (.tuple (bs.map encB)), .d (.int g)] c = .ok ((b, .list (bs.map fun b => .list (encR (row g bs b)))), c) := by
  simp only [c_table_of, runFn_e, b_table_of]
  have inner : ∀ b : Box, mLc [3, 4] (.tp [.nm 3, .nm 4]) (mEnum (mVar 0)) (tOf (mCall c_goes_in [mVar 2, mVar 4, mVar 1])) (mVar 3) ⟨[.sh (.tuple (bs.map encB)), .sh (.int g), .sh (encB b), .un, .un], c⟩ = .ok (.fr (.list (encR (row g bs b))), ⟨[.sh (.tuple (bs.map encB)), .sh (.int g), .sh (encB b), .un, .un], c⟩) := fun b => by
    rw [mLc_filt (List.range bs.length) (fun i => .tuple [.int (i : Nat), (bs.map encB)[i]?.getD .none]) (fun i => if gi g b (bs.getD i (0, 0, 0)) then some (.int (i : Nat)) else none) (s1 := ⟨[.sh (.tuple (bs.map encB)), .sh (.int g), .sh (encB b), .un, .un], c⟩) ?_ (by simp [lim]; omega) (noOw_cons (by simp) (noOw_cons (by simp) noOw_nil)) fun i hi => ?_]
    · rw [filterMap_if]
      rfl
    · simp [mEnum, enumL_map]
    · have hi' : i < bs.length := by simpa using hi
      rw [get_enc hi']
      cases hg : gi g b (bs.getD i (0, 0, 0)) <;> simp [lcT, wipes, goes_in, mAnd, mOr, mNot, mChn, fIsa, isaD, PyData.plain, PyData.plainAll, fLen, fTuple, fList, fAbs, fInt, fIx, tOf_e, sOwn_e, sCup_e, mRng1, mRng2, rdInt, inR] <;> simpa using hg
  have outer : mLc [2] (.nm 2) (mIt (mVar 0)) cYes (mLc [3, 4] (.tp [.nm 3, .nm 4]) (mEnum (mVar 0)) (tOf (mCall c_goes_in [mVar 2, mVar 4, mVar 1])) (mVar 3)) ⟨[.sh (.tuple (bs.map encB)), .sh (.int g), .un, .un, .un], c⟩ = .ok (.fr (.list (bs.map fun b => .list (encR (row g bs b)))), ⟨[.sh (.tuple (bs.map encB)), .sh (.int g), .un, .un, .un], c⟩) := by
    refine mLc_map bs encB _ (by simp) (by simp [lim]; omega) (noOw_cons (by simp) noOw_nil) fun b hb => ?_
    simp [lcT, wipes, inner]
  exact ⟨true, by simp [outer]⟩
/-- what into tells -/
def due (g : Int) (bs : List Box) : D := .tuple (bs.map fun b => .tuple (encR (row g bs b)))
theorem into {bs : List Box} (h : ∀ b ∈ bs, okB b) (h1 : 1 ≤ bs.length) (h8 : bs.length ≤ 8) {g : Int} (g1 : 1 ≤ g) (g6 : g ≤ 6) (c : Option (List D)) : c_into [.d (.tuple (bs.map encB)), .d (.int g)] c = .ok ((false, due g bs), c) := by
  simp only [c_into, runFn_e, b_into]
  obtain ⟨b0, ht⟩ := table_of bs h8 g c
  have hl : mLc [2] (.nm 2) (mIt (mCall c_table_of [mVar 0, mVar 1])) cYes (mB fTuple [mVar 2]) ⟨[.sh (.tuple (bs.map encB)), .sh (.int g), .un], c⟩ = .ok (.fr (.list (bs.map fun b => .tuple (encR (row g bs b)))), ⟨[.sh (.tuple (bs.map encB)), .sh (.int g), .un], c⟩) := by
    refine mLc_map bs (fun b => .list (encR (row g bs b))) _ ?_ (by simp [lim]; omega) (noOw_cons (by simp) noOw_nil) fun b hb => ?_
    · cases b0 <;> simp [ht]
    · simp [lcT, wipes, fTuple]
  simp [need_boxes h h1 h8 g1 g6, hl, fTuple, due]
/-! the turns of a box -/
def sds : List (Nat × Nat × Nat) := [(0, 1, 2), (0, 2, 1), (1, 0, 2), (1, 2, 0), (2, 0, 1), (2, 1, 0)]
def encS (s : Nat × Nat × Nat) : D := .tuple [.int (s.1 : Nat), .int (s.2.1 : Nat), .int (s.2.2 : Nat)]
def at3 (b : Box) : Nat → Int
  | 0 => b.1
  | 1 => b.2.1
  | _ => b.2.2
def okS (s : Nat × Nat × Nat) : Prop := s.1 < 3 ∧ s.2.1 < 3 ∧ s.2.2 < 3
theorem get3 (b : Box) {i : Nat} (h : i < 3) : fIx (encB b) (.int (i : Nat)) = .ok (.sh (.int (at3 b i))) := by
  have : i = 0 ∨ i = 1 ∨ i = 2 := by omega
  rcases this with rfl | rfl | rfl
  · exact fIx_at (xs := [.int b.1, .int b.2.1, .int b.2.2]) rfl
  · exact fIx_at (xs := [.int b.1, .int b.2.1, .int b.2.2]) rfl
  · exact fIx_at (xs := [.int b.1, .int b.2.1, .int b.2.2]) rfl
/-- turned so, it goes in side by side -/
def fit (g : Int) (b o : Box) (s : Nat × Nat × Nat) : Bool := decide (at3 b s.1 + g ≤ o.1) && decide (at3 b s.2.1 + g ≤ o.2.1) && decide (at3 b s.2.2 + g ≤ o.2.2)
theorem turned_by (b : Box) {s : Nat × Nat × Nat} (hs : okS s) (c : Option (List D)) : c_turned_by [.d (encB b), .d (encS s)] c = .ok ((false, .tuple [.int (at3 b s.1), .int (at3 b s.2.1), .int (at3 b s.2.2)]), c) := by
  simp only [c_turned_by, runFn_e, b_turned_by, encS]
  obtain ⟨h1, h2, h3⟩ := hs
  simp [mLc, lcL, wipes, backs, lim, get3, h1, h2, h3, fTuple]
theorem gi_fit (g : Int) (hg : 1 ≤ g) (b o : Box) : gi g b o = sds.any (fit g b o) := by
  obtain ⟨a0, a1, a2⟩ := b
  obtain ⟨o0, o1, o2⟩ := o
  rw [Bool.eq_iff_iff]
  simp only [gi, srt3, sds, List.any_cons, List.any_nil, fit, at3, Bool.or_eq_true, Bool.and_eq_true, decide_eq_true_eq]
  split <;> split <;> (try split) <;> split <;> (try split) <;> (try split) <;> simp <;> omega
theorem getB {bs : List Box} {i : Nat} (h : i < bs.length) : fIx (.tuple (bs.map encB)) (.int (i : Nat)) = .ok (.sh (encB (bs.getD i (0, 0, 0)))) := fIx_at (get_enc h)
theorem sides_enc : d_SIDES = .tuple (sds.map encS) := rfl
theorem orders_enc : d_orders = .list (sds.map encS) := rfl
theorem sds_ok : ∀ s ∈ sds, okS s := by
  intro s hs
  simp only [sds, List.mem_cons, List.not_mem_nil, or_false] at hs
  rcases hs with rfl | rfl | rfl | rfl | rfl | rfl <;> exact ⟨by decide, by decide, by decide⟩
theorem irng3 : irng 0 3 = [.int 0, .int 1, .int 2] := rfl
theorem is_in {n i : Nat} (h : i < n) : (decide ((0 : Int) ≤ (i : Int)) && decide ((i : Int) ≤ (n : Int) - 1)) = true := by
  simp; omega
theorem ways_into {bs : List Box} (h : ∀ b ∈ bs, okB b) (h1 : 1 ≤ bs.length) (h8 : bs.length ≤ 8) {g : Int} (g1 : 1 ≤ g) (g6 : g ≤ 6) {i j : Nat} (hi : i < bs.length) (hj : j < bs.length) (c : Option (List D)) :
    c_ways_into [.d (.tuple (bs.map encB)), .d (.int g), .d (.int (i : Nat)), .d (.int (j : Nat))] c = .ok ((false, .tuple ((sds.filter (fit g (bs.getD i (0, 0, 0)) (bs.getD j (0, 0, 0)))).map encS)), c) := by
  simp only [c_ways_into, runFn_e, b_ways_into]
  generalize hb : bs.getD i (0, 0, 0) = b
  generalize ho : bs.getD j (0, 0, 0) = o
  have fi : fIx (.tuple (bs.map encB)) (.int (i : Nat)) = .ok (.sh (encB b)) := by rw [← hb]; exact getB hi
  have fj : fIx (.tuple (bs.map encB)) (.int (j : Nat)) = .ok (.sh (encB o)) := by rw [← ho]; exact getB hj
  generalize hB : PyData.tuple (bs.map encB) = B at fi fj
  have tst : ∀ (s : Nat × Nat × Nat) (acc : List D), okS s → tOf (mB fAll [mLc [6, 7] (.tp [.nm 6, .nm 7]) (mZip (mCall c_turned_by [m2 fIx (mVar 0) (mVar 2), mVar 5]) (m2 fIx (mVar 0) (mVar 3))) (cYes) (m2 fLe (m2 fAdd (mVar 6) (mVar 1)) (mVar 7))]) ⟨[.sh B, .sh (.int g), .sh (.int (i : Nat)), .sh (.int (j : Nat)), .ow (.list acc), .sh (encS s), .un, .un], c⟩ =
      .ok (fit g b o s, ⟨[.sh B, .sh (.int g), .sh (.int (i : Nat)), .sh (.int (j : Nat)), .ow (.list acc), .sh (encS s), .un, .un], c⟩) := fun s acc hs => by
    have hl : mLc [6, 7] (.tp [.nm 6, .nm 7]) (mZip (mCall c_turned_by [m2 fIx (mVar 0) (mVar 2), mVar 5]) (m2 fIx (mVar 0) (mVar 3))) (cYes) (m2 fLe (m2 fAdd (mVar 6) (mVar 1)) (mVar 7)) ⟨[.sh B, .sh (.int g), .sh (.int (i : Nat)), .sh (.int (j : Nat)), .ow (.list acc), .sh (encS s), .un, .un], c⟩ =
      .ok (.fr (.list ([(at3 b s.1, o.1), (at3 b s.2.1, o.2.1), (at3 b s.2.2, o.2.2)].map fun p => .bool (decide (p.1 + g ≤ p.2)))), ⟨[.sh B, .sh (.int g), .sh (.int (i : Nat)), .sh (.int (j : Nat)), .ow (.list acc), .sh (encS s), .un, .un], c⟩) := by
      refine mLc_map [(at3 b s.1, o.1), (at3 b s.2.1, o.2.1), (at3 b s.2.2, o.2.2)] (fun p => .tuple [.int p.1, .int p.2]) _ ?_ (by simp [lim]) (noOw_cons (by simp) (noOw_cons (by simp) noOw_nil)) fun p hp => ?_
      · simp [mZip, fi, fj, turned_by b hs]
        simp [encB, pairs]
      · simp [lcT, wipes]
    rw [tOf_e, mB_e, mL_cons, hl]
    simp only [Res.bind_ok, mL_nil, rds_cons, rd_fr, rds_nil]
    rw [fAll_map (fun p : Int × Int => decide (p.1 + g ≤ p.2))]
    simp [fit, Bool.and_assoc]
  have loop : ∀ (l : List (Nat × Nat × Nat)) (acc : List D) (X : Slot), (∀ s ∈ l, okS s) → acc.length + l.length ≤ 6 → ∃ X', forL (.nm 5) (sIf (tOf (mB fAll [mLc [6, 7] (.tp [.nm 6, .nm 7]) (mZip (mCall c_turned_by [m2 fIx (mVar 0) (mVar 2), mVar 5]) (m2 fIx (mVar 0) (mVar 3))) (cYes) (m2 fLe (m2 fAdd (mVar 6) (mVar 1)) (mVar 7))])) (sExp (mApp 4 (mVar 5))) (sSkip)) (l.map encS) ⟨[.sh B, .sh (.int g), .sh (.int (i : Nat)), .sh (.int (j : Nat)), .ow (.list acc), X, .un, .un], c⟩ =
      .ok (.nx, ⟨[.sh B, .sh (.int g), .sh (.int (i : Nat)), .sh (.int (j : Nat)), .ow (.list (acc ++ (l.filter (fit g b o)).map encS)), X', .un, .un], c⟩) := by
    intro l
    induction l with
    | nil => intro acc X _ _; exact ⟨X, by simp⟩
    | cons s l ih =>
      intro acc X hs hl
      have hs0 := hs s (by simp)
      have hlen : acc.length < lim := by simp [lim] at hl ⊢; omega
      cases hf : fit g b o s with
      | true =>
        obtain ⟨X', e⟩ := ih (acc ++ [encS s]) (.sh (encS s)) (fun x hx => hs x (by simp [hx])) (by simp at hl ⊢; omega)
        refine ⟨X', ?_⟩
        simp only [List.map_cons, forL_cons, put_nm, Res.bind_ok, sIf_e, List.set_cons_succ, List.set_cons_zero, tst s _ hs0, hf, if_true]
        simp [mApp, hlen, e, List.filter_cons, hf]
      | false =>
        obtain ⟨X', e⟩ := ih acc (.sh (encS s)) (fun x hx => hs x (by simp [hx])) (by simp at hl ⊢; omega)
        refine ⟨X', ?_⟩
        simp only [List.map_cons, forL_cons, put_nm, Res.bind_ok, sIf_e, List.set_cons_succ, List.set_cons_zero, tst s _ hs0, hf]
        simp [e, List.filter_cons, hf]
  obtain ⟨X', e⟩ := loop sds [] .un sds_ok (by decide)
  have hn := need_boxes h h1 h8 g1 g6 c
  have hlen : fLen [B] = .ok (.sh (.int (bs.length : Nat))) := by rw [← hB]; simp [fLen]
  rw [hB] at hn
  have w1 : ¬ ((bs.length : Int) - 1 < (i : Int)) := by omega
  have w2 : (j : Int) ≤ (bs.length : Int) - 1 := by omega
  simp only [List.map_cons, List.map_nil, slotOf_d, List.cons_append, List.nil_append, sides_enc]
  simp [tOf_e, hn, hlen, is_whole_i, w1, w2, sOwn_e, e, fTuple]
/-! the law's own side -/
theorem orders3' (c : Option (List D)) : c__law_orders [.d (.int 3)] c = .ok ((false, .list (sds.map encS)), c) := orders3 c
theorem eq_nil (n : Nat) (h : n ≤ 3) : fEq (.list (List.replicate n (.int 1))) (.list []) = .ok (.sh (.bool (decide (n = 0)))) := by
  have : n = 0 ∨ n = 1 ∨ n = 2 ∨ n = 3 := by omega
  rcases this with rfl | rfl | rfl | rfl <;> rfl
/-- a test of [1 for at in range(3) if ..] == [] -/
theorem ones3 {vs : List Nat} {t : Tg} {c : MT} {E : List Slot} {cu : Option (List D)} (p : Nat → Bool) (hn : noOw E vs) (h : ∀ i < 3, lcT vs t c (mCst (.int 1)) ⟨wipes vs E, cu⟩ (.int (i : Nat)) = .ok (if p i then some (.int 1) else none, ⟨wipes vs E, cu⟩)) :
    tOf (m2 fEq (mLc vs t (mRng1 (mCst (.int 3))) c (mCst (.int 1))) (mLst [])) ⟨E, cu⟩ = .ok (!p 0 && !p 1 && !p 2, ⟨E, cu⟩) := by
  have hl : mLc vs t (mRng1 (mCst (.int 3))) c (mCst (.int 1)) ⟨E, cu⟩ = .ok (.fr (.list (List.replicate ((List.range 3).filter p).length (.int 1))), ⟨E, cu⟩) := by
    rw [mLc_filt (List.range 3) (fun i => .int (i : Nat)) (fun i => if p i then some (.int 1) else none) (s1 := ⟨E, cu⟩) (show mRng1 (mCst (.int 3)) ⟨E, cu⟩ = _ from rng1_c 3 (by decide)) (by simp [lim]) hn fun i hi => h i (by simpa using hi)]
    rw [filterMap_if, List.map_const']
  rw [tOf_e, m2_e, hl]
  simp only [Res.bind_ok, mLst_e, mL_nil, tks_nil, rd_fr]
  rw [eq_nil _ (by have := List.length_filter_le p (List.range 3); simpa using this)]
  simp only [Res.bind_ok, rd_sh]
  congr 2
  cases h0 : p 0 <;> cases h1 : p 1 <;> cases h2 : p 2 <;> simp [List.range_succ, List.filter_cons, h0, h1, h2]
theorem gt_le (x g y : Int) : (!decide (y < x + g)) = decide (x + g ≤ y) := by
  by_cases h : x + g ≤ y
  · have : ¬ (y < x + g) := by omega
    simp [h, this]
  · have : y < x + g := by omega
    simp [h, this]
def sAt (s : Nat × Nat × Nat) : Nat → Nat
  | 0 => s.1
  | 1 => s.2.1
  | _ => s.2.2
theorem getS (s : Nat × Nat × Nat) {i : Nat} (h : i < 3) : fIx (encS s) (.int (i : Nat)) = .ok (.sh (.int (sAt s i : Nat))) := by
  have : i = 0 ∨ i = 1 ∨ i = 2 := by omega
  rcases this with rfl | rfl | rfl
  · exact fIx_at (xs := [.int (s.1 : Nat), .int (s.2.1 : Nat), .int (s.2.2 : Nat)]) rfl
  · exact fIx_at (xs := [.int (s.1 : Nat), .int (s.2.1 : Nat), .int (s.2.2 : Nat)]) rfl
  · exact fIx_at (xs := [.int (s.1 : Nat), .int (s.2.1 : Nat), .int (s.2.2 : Nat)]) rfl
theorem sAt_lt {s : Nat × Nat × Nat} (h : okS s) (i : Nat) : sAt s i < 3 := by
  obtain ⟨h1, h2, h3⟩ := h
  unfold sAt
  split <;> assumption
end Yd86

namespace Yd86
open PySem Yd
def Lg : Yd.St := (sIf (tOf (m2 fEq (mLc [4] (.nm 4) (mRng1 (mCst (.int 3))) (tOf (m2 fGt (m2 fAdd (m2 fIx (mVar 0) (m2 fIx (mVar 3) (mVar 4))) (mVar 2)) (m2 fIx (mVar 1) (mVar 4)))) (mCst (.int 1))) (mLst []))) (sRet (mCst (.bool true))) (sSkip))
theorem law_goes (b o : Box) (g : Int) (c : Option (List D)) : c__law_goes [.d (encB b), .d (encB o), .d (.int g)] c = .ok ((false, .bool (sds.any (fit g b o))), c) := by
  have tst : ∀ s, okS s → tOf (m2 fEq (mLc [4] (.nm 4) (mRng1 (mCst (.int 3))) (tOf (m2 fGt (m2 fAdd (m2 fIx (mVar 0) (m2 fIx (mVar 3) (mVar 4))) (mVar 2)) (m2 fIx (mVar 1) (mVar 4)))) (mCst (.int 1))) (mLst [])) ⟨[.sh (encB b), .sh (encB o), .sh (.int g), .sh (encS s), .un], c⟩ = .ok (fit g b o s, ⟨[.sh (encB b), .sh (encB o), .sh (.int g), .sh (encS s), .un], c⟩) := fun s hs => by
    have h1 := ones3 (vs := [4]) (t := .nm 4) (c := tOf (m2 fGt (m2 fAdd (m2 fIx (mVar 0) (m2 fIx (mVar 3) (mVar 4))) (mVar 2)) (m2 fIx (mVar 1) (mVar 4)))) (E := [.sh (encB b), .sh (encB o), .sh (.int g), .sh (encS s), .un]) (cu := c) (fun i => decide (at3 o i < at3 b (sAt s i) + g)) (noOw_cons (by simp) noOw_nil) (fun i hi => by
      by_cases hc : at3 o i < at3 b (sAt s i) + g <;> simp [lcT, wipes, tOf_e, getS s hi, get3 b (sAt_lt hs i), get3 o hi, hc])
    rw [h1]
    simp only [gt_le, fit]
    rfl
  obtain ⟨X', e⟩ := forL_stop (t := .nm 3) (b := Lg) encS (fun l s => (∀ x ∈ l, okS x) ∧ (sds.any (fit g b o) = l.any (fit g b o)) ∧ ∃ X, s = ⟨[.sh (encB b), .sh (encB o), .sh (.int g), X, .un], c⟩) (fun x s => sds.any (fit g b o) = true ∧ x = (false, .bool true) ∧ ∃ X, s = ⟨[.sh (encB b), .sh (encB o), .sh (.int g), X, .un], c⟩) (fun a l s h => by
    obtain ⟨h1, h2, X, rfl⟩ := h
    have ht := tst a (h1 a (by simp))
    cases hf : fit g b o a with
    | true =>
      rw [hf] at ht
      exact ⟨_, _, _, put_nm, x_ift ht rfl, .inr ⟨_, rfl, by rw [h2]; simp [hf], rfl, _, rfl⟩⟩
    | false =>
      rw [hf] at ht
      exact ⟨_, _, _, put_nm, x_iff ht rfl, .inl ⟨.inl rfl, fun x hx => h1 x (by simp [hx]), by rw [h2]; simp [hf], _, rfl⟩⟩) sds ⟨[.sh (encB b), .sh (encB o), .sh (.int g), .un, .un], c⟩ ⟨sds_ok, rfl, _, rfl⟩
  have hit : mIt (mCall c__law_orders [mCst (.int 3)]) ⟨[.sh (encB b), .sh (encB o), .sh (.int g), .un, .un], c⟩ = .ok (sds.map encS, ⟨[.sh (encB b), .sh (encB o), .sh (.int g), .un, .un], c⟩) := x_it (y_call rfl rfl (orders3' c)) rfl
  rcases e with ⟨e, h1, h2, X, rfl⟩ | ⟨x, e, h1, rfl, X, rfl⟩
  · rw [h2]
    exact x_run (x_seq (x_for hit e) (x_ret rfl rfl))
  · rw [h1]
    exact x_run (x_seqR (x_for hit e))
theorem law_into1 {bs : List Box} (h8 : bs.length ≤ 8) {g : Int} (g1 : 1 ≤ g) (b : Box) (c : Option (List D)) : mLc [3] (.nm 3) (mRng1 (mB fLen [mVar 0])) (tOf (mCall c__law_goes [mVar 2, m2 fIx (mVar 0) (mVar 3), mVar 1])) (mVar 3) ⟨[.sh (.tuple (bs.map encB)), .sh (.int g), .sh (encB b), .un], c⟩ = .ok (.fr (.list (encR (row g bs b))), ⟨[.sh (.tuple (bs.map encB)), .sh (.int g), .sh (encB b), .un], c⟩) := by
  have hr : mRng1 (mB fLen [mVar 0]) ⟨[.sh (.tuple (bs.map encB)), .sh (.int g), .sh (encB b), .un], c⟩ = .ok ((List.range bs.length).map fun i => .int (i : Nat), ⟨[.sh (.tuple (bs.map encB)), .sh (.int g), .sh (encB b), .un], c⟩) := rng1_e (r := .sh (.int bs.length)) (inR_nat (by omega)) (by simp [fLen]) rd_sh
  rw [mLc_filt (List.range bs.length) (fun i => .int (i : Nat)) (fun i => if gi g b (bs.getD i (0, 0, 0)) then some (.int (i : Nat)) else none) (s1 := ⟨[.sh (.tuple (bs.map encB)), .sh (.int g), .sh (encB b), .un], c⟩) hr (by simp [lim]; omega) (noOw_cons (by simp) noOw_nil) fun i hi => ?_]
  · rw [filterMap_if]
    rfl
  · have hi' : i < bs.length := by simpa using hi
    have e1 : tOf (mCall c__law_goes [mVar 2, m2 fIx (mVar 0) (mVar 3), mVar 1]) ⟨[.sh (.tuple (bs.map encB)), .sh (.int g), .sh (encB b), .sh (.int (i : Nat))], c⟩ = .ok (gi g b (bs.getD i (0, 0, 0)), ⟨[.sh (.tuple (bs.map encB)), .sh (.int g), .sh (encB b), .sh (.int (i : Nat))], c⟩) := by
      rw [gi_fit g g1]
      simp only [tOf_e, mCall_e, mL_cons, mL_nil, m2_e, mVar_e]
      simp [getB hi', law_goes]
    simp only [lcT, put_nm, Res.bind_ok, wipes, List.set_cons_succ, List.set_cons_zero, e1]
    cases gi g b (bs.getD i (0, 0, 0)) <;> simp [wipes]
theorem law_into {bs : List Box} (h8 : bs.length ≤ 8) {g : Int} (g1 : 1 ≤ g) (c : Option (List D)) : c__law_into [.d (.tuple (bs.map encB)), .d (.int g)] c = .ok ((true, .list (bs.map fun b => .list (encR (row g bs b)))), c) := by
  have outer : (mLc [2] (.nm 2) (mIt (mVar 0)) (cYes) (mLc [3] (.nm 3) (mRng1 (mB fLen [mVar 0])) (tOf (mCall c__law_goes [mVar 2, m2 fIx (mVar 0) (mVar 3), mVar 1])) (mVar 3))) ⟨[.sh (.tuple (bs.map encB)), .sh (.int g), .un, .un], c⟩ = .ok (.fr (.list (bs.map fun b => .list (encR (row g bs b)))), ⟨[.sh (.tuple (bs.map encB)), .sh (.int g), .un, .un], c⟩) := by
    refine mLc_map bs encB _ rfl (by simp [lim]; omega) (noOw_cons (by simp) noOw_nil) fun b hb => ?_
    exact x_lcT put_nm rfl (law_into1 h8 g1 b c) rfl
  exact x_run (x_ret outer rfl)
def CupOk (c : Option (List D)) : Prop := ∃ a b : Int, c = some [.int a, .int b] ∧ 0 ≤ a ∧ 0 ≤ b
theorem small_of {i : Int} (h1 : 0 ≤ i) (h2 : i < 18446744073709551616) : smallI i = true := by
  unfold smallI
  rw [show (2 : Int) ^ 64 = 18446744073709551616 by decide, Bool.and_eq_true, decide_eq_true_eq, decide_eq_true_eq]
  exact ⟨by omega, h2⟩
theorem small_r {i j : Int} (h : smallI j = true) : (smallI i || smallI j) = true := by rw [h, Bool.or_true]
theorem small_l {i j : Int} (h : smallI i = true) : (smallI i || smallI j) = true := by rw [h, Bool.true_or]
def cup0 : Yd.St := (sIf (tOf (m2 fGt (m2 fIx (mVar 0) (mCst (.int 0))) (mCst (.int 0)))) (sSeq (sSet (.nm 3) (m2 fMod (mB fInt [m2 fIx (mVar 0) (mCst (.int 0))]) (mVar 1))) (sSeq (sIx 0 (mCst (.int 0)) (m2 fDiv (m2 fIx (mVar 0) (mCst (.int 0))) (mVar 1))) (sRet (mVar 3)))) (sSkip))
theorem roll {c : Option (List D)} (hc : CupOk c) {many : Int} (h0 : 0 < many) (h1 : many < 1073741824) : ∃ r c', 0 ≤ r ∧ r < many ∧ CupOk c' ∧ c__law_roll [.cup, .d (.int many)] c = .ok ((false, .int r), c') := by
  obtain ⟨a, b, rfl, ha, hb⟩ := hc
  by_cases h : 0 < a
  · refine ⟨a % many, some [.int (a / many), .int b], Int.emod_nonneg _ (by omega), Int.emod_lt_of_pos _ h0, ⟨_, _, rfl, Int.ediv_nonneg ha (by omega), hb⟩, ?_⟩
    have e1 : tOf (m2 fGt (m2 fIx (mVar 0) (mCst (.int 0))) (mCst (.int 0))) ⟨[.cup, .sh (.int many), .un, .un], some [.int a, .int b]⟩ = .ok (true, ⟨[.cup, .sh (.int many), .un, .un], some [.int a, .int b]⟩) := x_tof (x_m2 (x_m2 rfl rfl rfl rfl rfl) rfl rfl rfl rfl) (by rw [rd_sh]; simp [h])
    have e2 : sSet (.nm 3) (m2 fMod (mB fInt [m2 fIx (mVar 0) (mCst (.int 0))]) (mVar 1)) ⟨[.cup, .sh (.int many), .un, .un], some [.int a, .int b]⟩ = .ok (.nx, ⟨[.cup, .sh (.int many), .un, .sh (.int (a % many))], some [.int a, .int b]⟩) := x_set (x_m2 (x_mB (x_m2 rfl rfl rfl rfl rfl) rfl rfl) rfl rfl rfl (fMod_i h0)) rfl
    have e3 : sIx 0 (mCst (.int 0)) (m2 fDiv (m2 fIx (mVar 0) (mCst (.int 0))) (mVar 1)) ⟨[.cup, .sh (.int many), .un, .sh (.int (a % many))], some [.int a, .int b]⟩ = .ok (.nx, ⟨[.cup, .sh (.int many), .un, .sh (.int (a % many))], some [.int (a / many), .int b]⟩) := by
      have : m2 fDiv (m2 fIx (mVar 0) (mCst (.int 0))) (mVar 1) ⟨[.cup, .sh (.int many), .un, .sh (.int (a % many))], some [.int a, .int b]⟩ = .ok (.sh (.int (a / many)), ⟨[.cup, .sh (.int many), .un, .sh (.int (a % many))], some [.int a, .int b]⟩) := x_m2 (x_m2 rfl rfl rfl rfl rfl) rfl rfl rfl (fDiv_i h0 h1)
      unfold sIx
      rw [this]
      rfl
    exact x_run (x_seqR (x_ift e1 (x_seq e2 (x_seq e3 (x_ret rfl rfl)))))
  · have hx : 0 ≤ (b * 30977 + 8027) % 2147483399 := Int.emod_nonneg _ (by omega)
    have hx2 : (b * 30977 + 8027) % 2147483399 < 2147483399 := Int.emod_lt_of_pos _ (by omega)
    generalize hX : (b * 30977 + 8027) % 2147483399 = x at hx hx2
    refine ⟨x * (x + 359) % 2147483563 / 797 % many, some [.int a, .int x], Int.emod_nonneg _ (by omega), Int.emod_lt_of_pos _ h0, ⟨_, _, rfl, ha, hx⟩, ?_⟩
    have e1 : tOf (m2 fGt (m2 fIx (mVar 0) (mCst (.int 0))) (mCst (.int 0))) ⟨[.cup, .sh (.int many), .un, .un], some [.int a, .int b]⟩ = .ok (false, ⟨[.cup, .sh (.int many), .un, .un], some [.int a, .int b]⟩) := x_tof (x_m2 (x_m2 rfl rfl rfl rfl rfl) rfl rfl rfl rfl) (by rw [rd_sh]; simp [h])
    have e2 : (sIx 0 (mCst (.int 1)) (m2 fMod (mB fInt [m2 fAdd (m2 fMul (m2 fIx (mVar 0) (mCst (.int 1))) (mCst (.int 30977))) (mCst (.int 8027))]) (mCst (.int 2147483399)))) ⟨[.cup, .sh (.int many), .un, .un], some [.int a, .int b]⟩ = .ok (.nx, ⟨[.cup, .sh (.int many), .un, .un], some [.int a, .int x]⟩) := by
      have : (m2 fMod (mB fInt [m2 fAdd (m2 fMul (m2 fIx (mVar 0) (mCst (.int 1))) (mCst (.int 30977))) (mCst (.int 8027))]) (mCst (.int 2147483399))) ⟨[.cup, .sh (.int many), .un, .un], some [.int a, .int b]⟩ = .ok (.sh (.int x), ⟨[.cup, .sh (.int many), .un, .un], some [.int a, .int b]⟩) := by
        rw [← hX]
        exact x_m2 (x_mB (x_m2 (x_m2 (x_m2 rfl rfl rfl rfl rfl) rfl rfl rfl (fMul_i (small_r (small_of (by decide) (by decide))))) rfl rfl rfl rfl) rfl rfl) rfl rfl rfl (fMod_i (by decide))
      unfold sIx
      rw [this]
      rfl
    have e3 : (sSet (.nm 2) (m2 fMod (mB fInt [m2 fMul (m2 fIx (mVar 0) (mCst (.int 1))) (m2 fAdd (m2 fIx (mVar 0) (mCst (.int 1))) (mCst (.int 359)))]) (mCst (.int 2147483563)))) ⟨[.cup, .sh (.int many), .un, .un], some [.int a, .int x]⟩ = .ok (.nx, ⟨[.cup, .sh (.int many), .sh (.int (x * (x + 359) % 2147483563)), .un], some [.int a, .int x]⟩) := x_set (x_m2 (x_mB (x_m2 (x_m2 rfl rfl rfl rfl rfl) (x_m2 (x_m2 rfl rfl rfl rfl rfl) rfl rfl rfl rfl) rfl rfl (fMul_i (small_l (small_of hx (by omega))))) rfl rfl) rfl rfl rfl (fMod_i (by decide))) rfl
    exact x_run (x_seq (x_iff e1 rfl) (x_seq e2 (x_seq e3 (x_ret (x_m2 (x_mB (x_m2 rfl rfl rfl rfl (fDiv_i (by decide) (by decide))) rfl rfl) rfl rfl rfl (fMod_i h0)) rfl))))
end Yd86

namespace Yd86
open PySem Yd
theorem fAdd_l {a b : List D} (h : a.length + b.length ≤ lim) : fAdd (.list a) (.list b) = .ok (.fr (.list (a ++ b))) := by
  show (if a.length + b.length ≤ lim then _ else _) = _
  rw [if_pos h]
theorem fAdd_t {a b : List D} (h : a.length + b.length ≤ lim) : fAdd (.tuple a) (.tuple b) = .ok (.sh (.tuple (a ++ b))) := by
  show (if a.length + b.length ≤ lim then _ else _) = _
  rw [if_pos h]
theorem law_cup (ns : List Int) (h : ns.length ≤ 63) : ∃ a b : Int, 0 ≤ a ∧ 0 ≤ b ∧ c__law_cup [.d (.list (ns.map .int))] none = .ok ((true, .list [.int a, .int b]), none) := by
  obtain ⟨n, hn⟩ : ∃ n : Int, (ns.map PyData.int ++ [.int 0])[0]? = some (.int n) := by
    cases ns with
    | nil => exact ⟨0, rfl⟩
    | cons n ns => exact ⟨n, rfl⟩
  have e1 : (m2 fIx (m2 fAdd (mB fList [mVar 0]) (mLst [mCst (.int 0)])) (mCst (.int 0))) ⟨[.sh (.list (ns.map .int)), .un], none⟩ = .ok (.sh (.int n), ⟨[.sh (.list (ns.map .int)), .un], none⟩) := x_m2 (x_m2 (x_mB rfl rfl rfl) rfl rfl rfl (fAdd_l (by simp [lim]; omega))) rfl rfl rfl (fIx_atL (i := 0) hn)
  have ha : fAbs [.int n] = .ok (.sh (.int (if n < 0 then -n else n))) := rfl
  have hz : (0 : Int) ≤ if n < 0 then -n else n := by split <;> omega
  generalize (if n < 0 then -n else n) = z at ha hz
  have e2 : (sSet (.nm 1) (mB fAbs [m2 fIx (m2 fAdd (mB fList [mVar 0]) (mLst [mCst (.int 0)])) (mCst (.int 0))])) ⟨[.sh (.list (ns.map .int)), .un], none⟩ = .ok (.nx, ⟨[.sh (.list (ns.map .int)), .sh (.int z)], none⟩) := x_set (x_mB e1 rfl ha) rfl
  have e3 : ∃ a : Int, 0 ≤ a ∧ (mIf (tOf (m2 fGe (mVar 1) (m2 fPow (mCst (.int 10)) (mCst (.int 18))))) (m2 fDiv (mVar 1) (mCst (.int 121))) (mCst (.int 0))) ⟨[.sh (.list (ns.map .int)), .sh (.int z)], none⟩ = .ok (.sh (.int a), ⟨[.sh (.list (ns.map .int)), .sh (.int z)], none⟩) := by
    have t1 : tOf (m2 fGe (mVar 1) (m2 fPow (mCst (.int 10)) (mCst (.int 18)))) ⟨[.sh (.list (ns.map .int)), .sh (.int z)], none⟩ = .ok (decide (10 ^ 18 ≤ z), ⟨[.sh (.list (ns.map .int)), .sh (.int z)], none⟩) := x_tof (x_m2 rfl (x_m2 rfl rfl rfl rfl rfl) rfl rfl rfl) rfl
    rw [mIf_e, t1]
    by_cases hc : (10 : Int) ^ 18 ≤ z
    · refine ⟨z / 121, Int.ediv_nonneg hz (by decide), ?_⟩
      simp only [hc, decide_true, Res.bind_ok, if_true]
      exact x_m2 rfl rfl rfl rfl (fDiv_i (by decide) (by decide))
    · refine ⟨0, by decide, ?_⟩
      simp only [hc, decide_false, Res.bind_ok, Bool.false_eq_true, if_false]
      rfl
  obtain ⟨a, ha0, e3⟩ := e3
  have e4 : (m2 fAdd (m2 fMod (mB fInt [m2 fAdd (m2 fMul (mVar 1) (mCst (.int 355))) (mCst (.int 4237))]) (mCst (.int 2077503101))) (mCst (.int 209))) ⟨[.sh (.list (ns.map .int)), .sh (.int z)], none⟩ = .ok (.sh (.int ((z * 355 + 4237) % 2077503101 + 209)), ⟨[.sh (.list (ns.map .int)), .sh (.int z)], none⟩) := x_m2 (x_m2 (x_mB (x_m2 (x_m2 rfl rfl rfl rfl (fMul_i (small_r (small_of (by decide) (by decide))))) rfl rfl rfl rfl) rfl rfl) rfl rfl rfl (fMod_i (by decide))) rfl rfl rfl rfl
  have hb : 0 ≤ (z * 355 + 4237) % 2077503101 + 209 := by have := Int.emod_nonneg (z * 355 + 4237) (show (2077503101 : Int) ≠ 0 by decide); omega
  refine ⟨a, _, ha0, hb, x_run (x_seq e2 (x_ret (r := .fr (.list [.int a, .int ((z * 355 + 4237) % 2077503101 + 209)])) (s1 := ⟨[.sh (.list (ns.map .int)), .sh (.int z)], none⟩) ?_ rfl))⟩
  rw [mLst_e, mL_cons, e3]
  simp only [Res.bind_ok, mL_cons, e4, mL_nil]
  rfl
/-- a roll as a number -/
theorem rollN {c : Option (List D)} (hc : CupOk c) {many : Nat} (h0 : 0 < many) (h1 : many ≤ 1000000) : ∃ (r : Nat) (c' : Option (List D)), r < many ∧ CupOk c' ∧ c__law_roll [.cup, .d (.int (many : Nat))] c = .ok ((false, .int (r : Nat)), c') := by
  obtain ⟨r, c', h2, h3, h4, e⟩ := roll hc (many := (many : Nat)) (by omega) (by omega)
  obtain ⟨n, rfl⟩ := Int.eq_ofNat_of_zero_le h2
  exact ⟨n, c', by omega, h4, e⟩
theorem law_some {c : Option (List D)} (hc : CupOk c) {xs : List D} (h0 : 0 < xs.length) (h1 : xs.length ≤ 1000000) : ∃ (i : Nat) (x : D) (c' : Option (List D)), xs[i]? = some x ∧ CupOk c' ∧ c__law_some [.cup, .d (.list xs)] c = .ok ((false, x), c') := by
  obtain ⟨i, c', hi, hc', e⟩ := rollN hc h0 h1
  refine ⟨i, xs[i], c', List.getElem?_eq_getElem hi, hc', ?_⟩
  exact x_run (E := [.cup, .sh (.list xs)]) (x_ret (x_m2 (s1 := ⟨[.cup, .sh (.list xs)], c⟩) (s2 := ⟨[.cup, .sh (.list xs)], c'⟩) rfl (x_call (vs := [.sl 0, .sh (.int (xs.length : Nat))]) (as := [.cup, .d (.int (xs.length : Nat))]) (s1 := ⟨[.cup, .sh (.list xs)], c⟩) (s2 := ⟨[.cup, .sh (.list xs)], c⟩) rfl rfl e) rfl rfl (fIx_atL (List.getElem?_eq_getElem hi))) rfl)
theorem erase_perm {α : Type} : ∀ {l : List α} {i : Nat} (h : i < l.length), (l[i] :: l.eraseIdx i).Perm l
  | a :: l, 0, _ => .refl _
  | a :: l, i + 1, h => by
    have h' : i < l.length := by simpa using h
    have := erase_perm h'
    simp only [List.getElem_cons_succ, List.eraseIdx_cons_succ]
    exact (List.Perm.swap _ _ _).trans (this.cons a)
theorem turned {c : Option (List D)} (hc : CupOk c) (xs : List D) (hl : xs.length ≤ 1000) : ∃ (ys : List D) (c' : Option (List D)), ys.Perm xs ∧ CupOk c' ∧ c__law_turned [.cup, .d (.tuple xs)] c = .ok ((false, .tuple ys), c') := by
  have e0 : (sParN [3, 4] [true, true] [mB fList [mVar 1], mLst []]) ⟨[.cup, .sh (.tuple xs), .un, .un, .un], c⟩ = .ok (.nx, ⟨[.cup, .sh (.tuple xs), .un, .ow (.list xs), .ow (.list [])], c⟩) := rfl
  have e1 : (mRng1 (mB fLen [mVar 3])) ⟨[.cup, .sh (.tuple xs), .un, .ow (.list xs), .ow (.list [])], c⟩ = .ok ((List.range xs.length).map fun i => .int (i : Nat), ⟨[.cup, .sh (.tuple xs), .un, .ow (.list xs), .ow (.list [])], c⟩) := rng1_e (r := .sh (.int xs.length)) (inR_nat (by omega)) rfl rfl
  obtain ⟨s', e2, X, left, found, c2, rfl, hc2, hl2, hp⟩ := forL_inv (t := .nm 2) (b := (sExp (mApp 4 (mPopAt 3 (mCall c__law_roll [mVar 0, mB fLen [mVar 3]]))))) (fun i : Nat => .int (i : Nat)) (fun l s => ∃ X left found c, s = ⟨[.cup, .sh (.tuple xs), X, .ow (.list left), .ow (.list found)], c⟩ ∧ CupOk c ∧ left.length = l.length ∧ (left ++ found).Perm xs) (fun a l s h => by
    obtain ⟨X, left, found, c, rfl, hc, hl1, hp⟩ := h
    have hll := hp.length_eq
    simp only [List.length_append] at hll
    simp only [List.length_cons] at hl1
    obtain ⟨i, c', hi, hc', e⟩ := rollN hc (many := left.length) (by omega) (by omega)
    have hx : left[i]? = some left[i] := List.getElem?_eq_getElem hi
    have ep : mPopAt 3 (mCall c__law_roll [mVar 0, mB fLen [mVar 3]]) ⟨[.cup, .sh (.tuple xs), .sh (.int (a : Nat)), .ow (.list left), .ow (.list found)], c⟩ = .ok (.sh left[i], ⟨[.cup, .sh (.tuple xs), .sh (.int (a : Nat)), .ow (.list (left.eraseIdx i)), .ow (.list found)], c'⟩) := by
      have ec : mCall c__law_roll [mVar 0, mB fLen [mVar 3]] ⟨[.cup, .sh (.tuple xs), .sh (.int (a : Nat)), .ow (.list left), .ow (.list found)], c⟩ = .ok (.sh (.int (i : Nat)), ⟨[.cup, .sh (.tuple xs), .sh (.int (a : Nat)), .ow (.list left), .ow (.list found)], c'⟩) := x_call (vs := [.sl 0, .sh (.int (left.length : Nat))]) (as := [.cup, .d (.int (left.length : Nat))]) (s1 := ⟨[.cup, .sh (.tuple xs), .sh (.int (a : Nat)), .ow (.list left), .ow (.list found)], c⟩) (s2 := ⟨[.cup, .sh (.tuple xs), .sh (.int (a : Nat)), .ow (.list left), .ow (.list found)], c⟩) rfl rfl e
      simp only [mPopAt, List.getElem?_cons_succ, List.getElem?_cons_zero, ec, Res.bind_ok, rd_sh, Int.toNat_natCast, hx, putSlot_e, List.set_cons_succ, List.set_cons_zero]
      rw [if_pos ⟨by omega, by omega, by omega⟩]
    have eb : sExp (mApp 4 (mPopAt 3 (mCall c__law_roll [mVar 0, mB fLen [mVar 3]]))) ⟨[.cup, .sh (.tuple xs), .sh (.int (a : Nat)), .ow (.list left), .ow (.list found)], c⟩ = .ok (.nx, ⟨[.cup, .sh (.tuple xs), .sh (.int (a : Nat)), .ow (.list (left.eraseIdx i)), .ow (.list (found ++ [left[i]]))], c'⟩) := by
      refine x_exp (r := .sh .none) ?_
      simp only [mApp, List.getElem?_cons_succ, List.getElem?_cons_zero, ep, Res.bind_ok, tk_sh, putSlot_e, List.set_cons_succ, List.set_cons_zero]
      rw [if_pos (by simp [lim]; omega)]
    refine ⟨_, _, _, put_nm, eb, .inl rfl, _, _, _, _, rfl, hc', ?_, ?_⟩
    · rw [List.length_eraseIdx_of_lt hi]; omega
    · refine List.Perm.trans ?_ hp
      have : (left.eraseIdx i ++ [left[i]]).Perm left := (List.perm_append_singleton _ _).trans (erase_perm hi)
      rw [← List.append_assoc]
      refine List.Perm.trans ?_ (this.append_right found)
      rw [List.append_assoc, List.append_assoc]
      exact (List.perm_append_comm).append_left _) (List.range xs.length) ⟨[.cup, .sh (.tuple xs), .un, .ow (.list xs), .ow (.list [])], c⟩ ⟨_, _, _, _, rfl, hc, by simp, by simp⟩
  refine ⟨found, c2, ?_, hc2, x_run (x_seq e0 (x_seq (x_for e1 e2) (x_ret (x_mB rfl rfl rfl) rfl)))⟩
  have : left = [] := List.eq_nil_of_length_eq_zero (by simpa using hl2)
  rw [this] at hp
  simpa using hp
/-- the boxes that are rolled -/
theorem law_boxes {c : Option (List D)} (hc : CupOk c) {most : Nat} (h0 : 0 < most) (h40 : most ≤ 40) : ∃ (bs : List Box) (c' : Option (List D)), 1 ≤ bs.length ∧ bs.length ≤ 8 ∧ (∀ b ∈ bs, okB b) ∧ CupOk c' ∧ c__law_boxes [.cup, .d (.int 8), .d (.int (most : Nat))] c = .ok ((false, .tuple (bs.map encB)), c') := by
  obtain ⟨n, c1, hn, hc1, e⟩ := rollN hc (many := 8) (by decide) (by decide)
  have e0 : (mRng1 (m2 fAdd (mCst (.int 1)) (mCall c__law_roll [mVar 0, mVar 1]))) ⟨[.cup, .sh (.int 8), .sh (.int (most : Nat)), .sh (.tuple []), .un, .un, .un], c⟩ = .ok ((List.range (n + 1)).map fun i => .int (i : Nat), ⟨[.cup, .sh (.int 8), .sh (.int (most : Nat)), .sh (.tuple []), .un, .un, .un], c1⟩) := by
    refine rng1_e (r := .sh (.int ((n + 1 : Nat) : Int))) (inR_nat (by omega)) (x_m2 (s2 := ⟨[.cup, .sh (.int 8), .sh (.int (most : Nat)), .sh (.tuple []), .un, .un, .un], c1⟩) rfl (x_call (vs := [.sl 0, .sl 1]) (as := [.cup, .d (.int 8)]) (s1 := ⟨[.cup, .sh (.int 8), .sh (.int (most : Nat)), .sh (.tuple []), .un, .un, .un], c⟩) (s2 := ⟨[.cup, .sh (.int 8), .sh (.int (most : Nat)), .sh (.tuple []), .un, .un, .un], c⟩) rfl rfl e) rfl rfl ?_) rfl
    rw [fAdd_i, Int.add_comm]
    rfl
  obtain ⟨s', e2, X, Y, bs, c2, rfl, hc2, hl2, hk⟩ := forL_inv (t := .nm 4) (b := (sSeq (sSet (.nm 5) (m2 fAdd (mCst (.int 1)) (mCall c__law_roll [mVar 0, mVar 2]))) (sSet (.nm 3) (m2 fAdd (mVar 3) (mTup [mB fTuple [mLc [6] (.nm 6) (mRng1 (mCst (.int 3))) (cYes) (mIf (tOf (m2 fEq (mCall c__law_roll [mVar 0, mCst (.int 2)]) (mCst (.int 0)))) (m2 fAdd (mCst (.int 1)) (mCall c__law_roll [mVar 0, mVar 5])) (mVar 5))]]))))) (fun i : Nat => .int (i : Nat)) (fun l s => ∃ X Y bs c, s = ⟨[.cup, .sh (.int 8), .sh (.int (most : Nat)), .sh (.tuple (bs.map encB)), X, Y, .un], c⟩ ∧ CupOk c ∧ bs.length + l.length = n + 1 ∧ ∀ b ∈ bs, okB b) (fun a l s h => by
    obtain ⟨X, Y, bs, c, rfl, hc, hl1, hk⟩ := h
    simp only [List.length_cons] at hl1
    obtain ⟨z, c', hz, hc', e⟩ := rollN hc (many := most) (by omega) (by omega)
    have es : (sSet (.nm 5) (m2 fAdd (mCst (.int 1)) (mCall c__law_roll [mVar 0, mVar 2]))) ⟨[.cup, .sh (.int 8), .sh (.int (most : Nat)), .sh (.tuple (bs.map encB)), .sh (.int (a : Nat)), Y, .un], c⟩ = .ok (.nx, ⟨[.cup, .sh (.int 8), .sh (.int (most : Nat)), .sh (.tuple (bs.map encB)), .sh (.int (a : Nat)), .sh (.int ((z + 1 : Nat) : Int)), .un], c'⟩) := by
      refine x_set (r := .sh (.int ((z + 1 : Nat) : Int))) (s1 := ⟨[.cup, .sh (.int 8), .sh (.int (most : Nat)), .sh (.tuple (bs.map encB)), .sh (.int (a : Nat)), Y, .un], c'⟩) (x_m2 (s2 := ⟨[.cup, .sh (.int 8), .sh (.int (most : Nat)), .sh (.tuple (bs.map encB)), .sh (.int (a : Nat)), Y, .un], c'⟩) rfl (x_call (vs := [.sl 0, .sl 2]) (as := [.cup, .d (.int (most : Nat))]) (s1 := ⟨[.cup, .sh (.int 8), .sh (.int (most : Nat)), .sh (.tuple (bs.map encB)), .sh (.int (a : Nat)), Y, .un], c⟩) (s2 := ⟨[.cup, .sh (.int 8), .sh (.int (most : Nat)), .sh (.tuple (bs.map encB)), .sh (.int (a : Nat)), Y, .un], c⟩) rfl rfl e) rfl rfl ?_) rfl
      rw [fAdd_i, Int.add_comm]
      rfl
    generalize hB : PyData.tuple (bs.map encB) = B at es
    obtain ⟨xs, c3, e3, hc3, hl3, hp⟩ := mLc_inv (vs := [6]) (t := .nm 6) (it := mRng1 (mCst (.int 3))) (c := cYes) (m := (mIf (tOf (m2 fEq (mCall c__law_roll [mVar 0, mCst (.int 2)]) (mCst (.int 0)))) (m2 fAdd (mCst (.int 1)) (mCall c__law_roll [mVar 0, mVar 5])) (mVar 5))) (s := ⟨[.cup, .sh (.int 8), .sh (.int (most : Nat)), .sh B, .sh (.int (a : Nat)), .sh (.int ((z + 1 : Nat) : Int)), .un], c'⟩) CupOk (fun _ x => ∃ j : Int, x = .int j ∧ 1 ≤ j ∧ j ≤ 40) (rng1_c 3 (by decide)) (by simp [lim]) (noOw_cons (by simp) noOw_nil) hc' (fun d hd cu hcu => by
      obtain ⟨r, c4, hr, hc4, e4⟩ := rollN hcu (many := 2) (by decide) (by decide)
      have t1 : ∀ k : Bool, fEq (.int (r : Nat)) (.int 0) = .ok (.sh (.bool k)) → tOf (m2 fEq (mCall c__law_roll [mVar 0, mCst (.int 2)]) (mCst (.int 0))) ⟨[.cup, .sh (.int 8), .sh (.int (most : Nat)), .sh B, .sh (.int (a : Nat)), .sh (.int ((z + 1 : Nat) : Int)), .sh d], cu⟩ = .ok (k, ⟨[.cup, .sh (.int 8), .sh (.int (most : Nat)), .sh B, .sh (.int (a : Nat)), .sh (.int ((z + 1 : Nat) : Int)), .sh d], c4⟩) := fun k hk =>
        x_tof (r := .sh (.bool k)) (x_m2 (s1 := ⟨[.cup, .sh (.int 8), .sh (.int (most : Nat)), .sh B, .sh (.int (a : Nat)), .sh (.int ((z + 1 : Nat) : Int)), .sh d], c4⟩) (x_call (vs := [.sl 0, .sh (.int 2)]) (as := [.cup, .d (.int 2)]) (s1 := ⟨[.cup, .sh (.int 8), .sh (.int (most : Nat)), .sh B, .sh (.int (a : Nat)), .sh (.int ((z + 1 : Nat) : Int)), .sh d], cu⟩) (s2 := ⟨[.cup, .sh (.int 8), .sh (.int (most : Nat)), .sh B, .sh (.int (a : Nat)), .sh (.int ((z + 1 : Nat) : Int)), .sh d], cu⟩) rfl rfl e4) rfl rfl rfl hk) rfl
      have hr2 : r = 0 ∨ r = 1 := by omega
      rcases hr2 with rfl | rfl
      · obtain ⟨q, c5, hq, hc5, e5⟩ := rollN hc4 (many := z + 1) (by omega) (by omega)
        refine ⟨.int ((q + 1 : Nat) : Int), c5, x_lcT put_nm rfl (r := .sh (.int ((q + 1 : Nat) : Int))) (s3 := ⟨[.cup, .sh (.int 8), .sh (.int (most : Nat)), .sh B, .sh (.int (a : Nat)), .sh (.int ((z + 1 : Nat) : Int)), .sh d], c5⟩) ?_ rfl, hc5, _, rfl, by omega, by omega⟩
        show mIf _ _ _ ⟨[.cup, .sh (.int 8), .sh (.int (most : Nat)), .sh B, .sh (.int (a : Nat)), .sh (.int ((z + 1 : Nat) : Int)), .sh d], cu⟩ = _
        rw [mIf_e, t1 true rfl]
        simp only [Res.bind_ok, if_true]
        refine x_m2 (s2 := ⟨[.cup, .sh (.int 8), .sh (.int (most : Nat)), .sh B, .sh (.int (a : Nat)), .sh (.int ((z + 1 : Nat) : Int)), .sh d], c5⟩) rfl (x_call (vs := [.sl 0, .sl 5]) (as := [.cup, .d (.int ((z + 1 : Nat) : Int))]) (s1 := ⟨[.cup, .sh (.int 8), .sh (.int (most : Nat)), .sh B, .sh (.int (a : Nat)), .sh (.int ((z + 1 : Nat) : Int)), .sh d], c4⟩) (s2 := ⟨[.cup, .sh (.int 8), .sh (.int (most : Nat)), .sh B, .sh (.int (a : Nat)), .sh (.int ((z + 1 : Nat) : Int)), .sh d], c4⟩) rfl rfl e5) rfl rfl ?_
        rw [fAdd_i, Int.add_comm]
        rfl
      · refine ⟨.int ((z + 1 : Nat) : Int), c4, x_lcT put_nm rfl (r := .sl 5) (s3 := ⟨[.cup, .sh (.int 8), .sh (.int (most : Nat)), .sh B, .sh (.int (a : Nat)), .sh (.int ((z + 1 : Nat) : Int)), .sh d], c4⟩) ?_ rfl, hc4, _, rfl, by omega, by omega⟩
        show mIf _ _ _ ⟨[.cup, .sh (.int 8), .sh (.int (most : Nat)), .sh B, .sh (.int (a : Nat)), .sh (.int ((z + 1 : Nat) : Int)), .sh d], cu⟩ = _
        rw [mIf_e, t1 false rfl]
        rfl)
    have hl3' : xs.length = 3 := by rw [hl3]; rfl
    obtain ⟨x0, x1, x2, rfl⟩ : ∃ x0 x1 x2, xs = [x0, x1, x2] := by
      match xs, hl3' with
      | [x0, x1, x2], _ => exact ⟨x0, x1, x2, rfl⟩
    obtain ⟨j0, rfl, u0, v0⟩ := hp 0 _ _ rfl rfl
    obtain ⟨j1, rfl, u1, v1⟩ := hp 1 _ _ rfl rfl
    obtain ⟨j2, rfl, u2, v2⟩ := hp 2 _ _ rfl rfl
    have et : (sSet (.nm 3) (m2 fAdd (mVar 3) (mTup [mB fTuple [mLc [6] (.nm 6) (mRng1 (mCst (.int 3))) (cYes) (mIf (tOf (m2 fEq (mCall c__law_roll [mVar 0, mCst (.int 2)]) (mCst (.int 0)))) (m2 fAdd (mCst (.int 1)) (mCall c__law_roll [mVar 0, mVar 5])) (mVar 5))]]))) ⟨[.cup, .sh (.int 8), .sh (.int (most : Nat)), .sh B, .sh (.int (a : Nat)), .sh (.int ((z + 1 : Nat) : Int)), .un], c'⟩ = .ok (.nx, ⟨[.cup, .sh (.int 8), .sh (.int (most : Nat)), .sh (.tuple ((bs ++ [(j0, j1, j2)]).map encB)), .sh (.int (a : Nat)), .sh (.int ((z + 1 : Nat) : Int)), .un], c3⟩) := by
      have ee : mTup ([mB fTuple [mLc [6] (.nm 6) (mRng1 (mCst (.int 3))) (cYes) (mIf (tOf (m2 fEq (mCall c__law_roll [mVar 0, mCst (.int 2)]) (mCst (.int 0)))) (m2 fAdd (mCst (.int 1)) (mCall c__law_roll [mVar 0, mVar 5])) (mVar 5))]]) ⟨[.cup, .sh (.int 8), .sh (.int (most : Nat)), .sh B, .sh (.int (a : Nat)), .sh (.int ((z + 1 : Nat) : Int)), .un], c'⟩ = .ok (.sh (.tuple [encB (j0, j1, j2)]), ⟨[.cup, .sh (.int 8), .sh (.int (most : Nat)), .sh B, .sh (.int (a : Nat)), .sh (.int ((z + 1 : Nat) : Int)), .un], c3⟩) := by
        rw [mTup_e, mL_cons, x_mB e3 rfl rfl]
        rfl
      rw [← hB] at ee ⊢
      refine x_set (r := .sh (.tuple ((bs ++ [(j0, j1, j2)]).map encB))) (x_m2 rfl ee rfl rfl ?_) rfl
      rw [fAdd_t (by simp [lim]; omega)]
      simp
    subst hB
    refine ⟨_, _, _, put_nm, x_seq es et, .inl rfl, _, _, bs ++ [(j0, j1, j2)], _, rfl, hc3, by simp; omega, ?_⟩
    intro b hb
    rcases List.mem_append.mp hb with q | q
    · exact hk b q
    · rw [List.mem_singleton] at q
      subst q
      exact ⟨⟨u0, v0⟩, ⟨u1, v1⟩, u2, v2⟩) (List.range (n + 1)) ⟨[.cup, .sh (.int 8), .sh (.int (most : Nat)), .sh (.tuple []), .un, .un, .un], c1⟩ ⟨_, _, [], _, rfl, hc1, by simp, by simp⟩
  refine ⟨bs, c2, by simp at hl2; omega, by simp at hl2; omega, hk, hc2, x_run (x_seq rfl (x_seq (x_for e0 e2) (x_ret rfl rfl)))⟩
end Yd86

namespace Yd86
open PySem Yd
theorem srt_perm {xs ys : List Int} (h : xs.Perm ys) : srt xs = srt ys := by
  have t : ∀ a b c : Int, decide (a ≤ b) = true → decide (b ≤ c) = true → decide (a ≤ c) = true := by
    intro a b c h1 h2
    simp only [decide_eq_true_eq] at *
    omega
  have u : ∀ a b : Int, (decide (a ≤ b) || decide (b ≤ a)) = true := by
    intro a b
    simp only [Bool.or_eq_true, decide_eq_true_eq]
    omega
  refine List.Perm.eq_of_pairwise (le := fun a b => decide (a ≤ b) = true) ?_ (List.pairwise_mergeSort t u xs) (List.pairwise_mergeSort t u ys) ((List.mergeSort_perm _ _).trans (h.trans (List.mergeSort_perm _ _).symm))
  intro a b _ _ h1 h2
  simp only [decide_eq_true_eq] at h1 h2
  omega
def s3 (b : Box) : List Int := srt [b.1, b.2.1, b.2.2]
theorem s3_ex (b : Box) : ∃ x y z, s3 b = [x, y, z] := by
  have : (s3 b).length = 3 := by simp [s3, srt]
  match h : s3 b, this with
  | [x, y, z], _ => exact ⟨x, y, z, rfl⟩
theorem gi_s3 (g : Int) (b o : Box) : gi g b o = ((s3 b).zip (s3 o)).all fun p => decide (p.1 + g ≤ p.2) := rfl
theorem gi_iff {g : Int} {b o : Box} {x y z u v w : Int} (h : s3 b = [x, y, z]) (k : s3 o = [u, v, w]) : gi g b o = true ↔ x + g ≤ u ∧ y + g ≤ v ∧ z + g ≤ w := by
  rw [gi_s3, h, k]
  simp
theorem gi_irr {g : Int} (hg : 1 ≤ g) (b : Box) : gi g b b = false := by
  obtain ⟨x, y, z, h⟩ := s3_ex b
  rw [Bool.eq_false_iff]
  intro q
  rw [gi_iff h h] at q
  omega
theorem gi_tr {g : Int} (hg : 1 ≤ g) {a b c : Box} (h1 : gi g a b = true) (h2 : gi g b c = true) : gi g a c = true := by
  obtain ⟨x, y, z, h⟩ := s3_ex a
  obtain ⟨u, v, w, k⟩ := s3_ex b
  obtain ⟨l, m, n, e⟩ := s3_ex c
  rw [gi_iff h k] at h1
  rw [gi_iff k e] at h2
  rw [gi_iff h e]
  omega
theorem gi_less {g : Int} {a b : Box} (h1 : gi (g + 1) a b = true) : gi g a b = true := by
  obtain ⟨x, y, z, h⟩ := s3_ex a
  obtain ⟨u, v, w, k⟩ := s3_ex b
  rw [gi_iff h k] at h1 ⊢
  omega
theorem gi_perm {g : Int} {a b a' b' : Box} (h : s3 a' = s3 a) (k : s3 b' = s3 b) : gi g a' b' = gi g a b := by rw [gi_s3, gi_s3, h, k]
/-- a turned box -/
theorem box_perm {b : Box} {ys : List D} (h : ys.Perm [.int b.1, .int b.2.1, .int b.2.2]) (hb : okB b) : ∃ b' : Box, PyData.tuple ys = encB b' ∧ s3 b' = s3 b ∧ okB b' := by
  let pr : D → Int := fun d => match d with | .int i => i | _ => 0
  have hall : ∀ y ∈ ys, y = .int (pr y) := fun y hy => by
    have := h.mem_iff.mp hy
    simp only [List.mem_cons, List.not_mem_nil, or_false] at this
    rcases this with rfl | rfl | rfl <;> rfl
  have hm : (ys.map pr).Perm [b.1, b.2.1, b.2.2] := h.map pr
  have hl : ys.length = 3 := h.length_eq
  obtain ⟨y0, y1, y2, rfl⟩ : ∃ x0 x1 x2, ys = [x0, x1, x2] := by
    match ys, hl with
    | [x0, x1, x2], _ => exact ⟨x0, x1, x2, rfl⟩
  have e0 := hall y0 (by simp)
  have e1 := hall y1 (by simp)
  have e2 := hall y2 (by simp)
  refine ⟨(pr y0, pr y1, pr y2), ?_, srt_perm hm, ?_⟩
  · show PyData.tuple [y0, y1, y2] = .tuple [.int (pr y0), .int (pr y1), .int (pr y2)]
    rw [← e0, ← e1, ← e2]
  · obtain ⟨k1, k2, k3⟩ := hb
    have hin : ∀ j ∈ [y0, y1, y2].map pr, 1 ≤ j ∧ j ≤ 40 := fun j hj => by
      have := hm.mem_iff.mp hj
      simp only [List.mem_cons, List.not_mem_nil, or_false] at this
      rcases this with rfl | rfl | rfl
      · exact k1
      · exact k2
      · exact k3
    exact ⟨hin _ (by simp), hin _ (by simp), hin _ (by simp)⟩
theorem row_ext {g : Int} {bs bs' : List Box} (hl : bs'.length = bs.length) (h : ∀ i < bs.length, s3 (bs'.getD i (0, 0, 0)) = s3 (bs.getD i (0, 0, 0))) {b b' : Box} (hb : s3 b' = s3 b) : row g bs' b' = row g bs b := by
  unfold row
  rw [hl]
  apply List.filter_congr
  intro i hi
  exact gi_perm hb (h i (by simpa using hi))
theorem due_ext {g : Int} {bs bs' : List Box} (hl : bs'.length = bs.length) (h : ∀ i < bs.length, s3 (bs'.getD i (0, 0, 0)) = s3 (bs.getD i (0, 0, 0))) : due g bs' = due g bs := by
  unfold due
  congr 1
  apply List.ext_getElem
  · simp [hl]
  · intro i h1 h2
    have hi : i < bs.length := by simpa using h2
    have hi' : i < bs'.length := by simpa using h1
    have := h i hi
    simp only [List.getD_eq_getElem?_getD, List.getElem?_eq_getElem hi, List.getElem?_eq_getElem hi', Option.getD_some] at this
    simp only [List.getElem_map]
    rw [row_ext hl h this]
theorem row_lt {g : Int} {bs : List Box} {b : Box} {i : Nat} (h : i ∈ row g bs b) : i < bs.length ∧ gi g b (bs.getD i (0, 0, 0)) = true := by
  simpa [row] using h
theorem row_mem {g : Int} {bs : List Box} {b : Box} {i : Nat} (h : i < bs.length) (k : gi g b (bs.getD i (0, 0, 0)) = true) : i ∈ row g bs b := by
  unfold row
  rw [List.mem_filter]
  exact ⟨by simpa using h, k⟩
theorem row_has {g : Int} {bs : List Box} {b : Box} {i : Nat} (h : i < bs.length) : (row g bs b).contains i = gi g b (bs.getD i (0, 0, 0)) := by
  rw [Bool.eq_iff_iff, List.contains_iff_mem]
  exact ⟨fun k => (row_lt k).2, row_mem h⟩
theorem nice_row {g : Int} {bs : List Box} {b : Box} (h8 : bs.length ≤ 8) : Nice 1 (8 * 41) (.tuple (encR (row g bs b))) := by
  refine nice_tupleN (fun d hd => ?_) ?_
  · simp only [encR, List.mem_map] at hd
    obtain ⟨i, hi, rfl⟩ := hd
    have := (row_lt hi).1
    exact nice_nat (by omega)
  · have := List.length_filter_le (fun i => gi g b (bs.getD i (0, 0, 0))) (List.range bs.length)
    simp only [encR, row, List.length_map, List.length_range] at this ⊢
    omega
theorem nice_due {g : Int} {bs : List Box} (h8 : bs.length ≤ 8) : Nice 2 (8 * 329) (due g bs) := by
  refine nice_tupleN (fun d hd => ?_) (by simpa using h8)
  simp only [List.mem_map] at hd
  obtain ⟨b, _, rfl⟩ := hd
  exact nice_row h8
theorem due_at {g : Int} {bs : List Box} {i : Nat} (h : i < bs.length) : fIx (due g bs) (.int (i : Nat)) = .ok (.sh (.tuple (encR (row g bs (bs.getD i (0, 0, 0)))))) := by
  refine fIx_at ?_
  simp [h]
end Yd86

namespace Yd86
open PySem Yd
abbrev ev (T : D) (g : Int) (s1 s2 s3 s4 s7 s8 s9 s10 : Slot) : List Slot := [.cup, s1, s2, s3, s4, .sh T, .sh (.int g), s7, s8, s9, s10, .un, .un, .un, .un]
theorem r0 {c : Option (List D)} (hc : CupOk c) : ∃ (bs : List Box) (g : Int) (c' : Option (List D)), 1 ≤ bs.length ∧ bs.length ≤ 8 ∧ (∀ b ∈ bs, okB b) ∧ 1 ≤ g ∧ g ≤ 6 ∧ CupOk c' ∧
    (sParN [5, 6] [false, false] [mCall c__law_boxes [mVar 0, mCst (.int 8), mCall c__law_some [mVar 0, mLst [mCst (.int 6), mCst (.int 15), mCst (.int 40)]]], m2 fAdd (mCst (.int 1)) (mCall c__law_roll [mVar 0, mCst (.int 6)])]) ⟨[.cup, .un, .un, .un, .un, .un, .un, .un, .un, .un, .un, .un, .un, .un, .un], c⟩ = .ok (.nx, ⟨ev (.tuple (bs.map encB)) g .un .un .un .un .un .un .un .un, c'⟩) := by
  generalize hE : ([.cup, .un, .un, .un, .un, .un, .un, .un, .un, .un, .un, .un, .un, .un, .un] : List Slot) = E
  have ecup : E[0]? = some .cup := by rw [← hE]; rfl
  have vc : ∀ c, mVar 0 ⟨E, c⟩ = .ok (.sl 0, ⟨E, c⟩) := fun c => by rw [mVar_e]; simp only [ecup]; rfl
  have ac : ∀ c, arg1 ⟨E, c⟩ (.sl 0) = .ok (.cup, ⟨E, c⟩) := fun c => by rw [arg1_sl]; simp only [ecup]; rfl
  obtain ⟨i, x, c1, hx, hc1, e1⟩ := law_some hc (xs := [.int 6, .int 15, .int 40]) (by decide) (by decide)
  obtain ⟨most, rfl, m0, m40⟩ : ∃ most : Nat, x = .int (most : Nat) ∧ 0 < most ∧ most ≤ 40 := by
    have : i = 0 ∨ i = 1 ∨ i = 2 := by
      have := (List.getElem?_eq_some_iff.mp hx).1
      simp at this
      omega
    rcases this with rfl | rfl | rfl <;> simp at hx <;> subst hx
    · exact ⟨6, rfl, by decide, by decide⟩
    · exact ⟨15, rfl, by decide, by decide⟩
    · exact ⟨40, rfl, by decide, by decide⟩
  obtain ⟨bs, c2, h1, h8, hk, hc2, e2⟩ := law_boxes hc1 m0 m40
  obtain ⟨z, c3, hz, hc3, e3⟩ := rollN hc2 (many := 6) (by decide) (by decide)
  refine ⟨bs, ((z + 1 : Nat) : Int), c3, h1, h8, hk, by omega, by omega, hc3, ?_⟩
  have f1 : mCall c__law_some [mVar 0, mLst [mCst (.int 6), mCst (.int 15), mCst (.int 40)]] ⟨E, c⟩ = .ok (.sh (.int (most : Nat)), ⟨E, c1⟩) := by
    refine x_call (vs := [.sl 0, .fr (.list [.int 6, .int 15, .int 40])]) (as := [.cup, .d (.list [.int 6, .int 15, .int 40])]) (s1 := ⟨E, c⟩) (s2 := ⟨E, c⟩) ?_ ?_ e1
    · rw [mL_cons, vc]; rfl
    · rw [args_cons, ac]; rfl
  have f2 : (mCall c__law_boxes [mVar 0, mCst (.int 8), mCall c__law_some [mVar 0, mLst [mCst (.int 6), mCst (.int 15), mCst (.int 40)]]]) ⟨E, c⟩ = .ok (.sh (.tuple (bs.map encB)), ⟨E, c2⟩) := by
    refine x_call (vs := [.sl 0, .sh (.int 8), .sh (.int (most : Nat))]) (as := [.cup, .d (.int 8), .d (.int (most : Nat))]) (s1 := ⟨E, c1⟩) (s2 := ⟨E, c1⟩) ?_ ?_ e2
    · rw [mL_cons, vc]; simp only [Res.bind_ok]; rw [mL_cons, mCst_e]; simp only [Res.bind_ok]; rw [mL_cons, f1]; rfl
    · rw [args_cons, ac]; rfl
  have f3 : (m2 fAdd (mCst (.int 1)) (mCall c__law_roll [mVar 0, mCst (.int 6)])) ⟨E, c2⟩ = .ok (.sh (.int ((z + 1 : Nat) : Int)), ⟨E, c3⟩) := by
    refine x_m2 (r1 := .sh (.int 1)) (r2 := .sh (.int (z : Nat))) (s1 := ⟨E, c2⟩) rfl (x_call (vs := [.sl 0, .sh (.int 6)]) (as := [.cup, .d (.int 6)]) (s1 := ⟨E, c2⟩) (s2 := ⟨E, c2⟩) ?_ ?_ e3) rfl rfl ?_
    · rw [mL_cons, vc]; rfl
    · rw [args_cons, ac]; rfl
    · rw [fAdd_i, Int.add_comm]; rfl
  unfold sParN mLO mLO mLO
  rw [f2]
  simp only [Res.bind_ok, tk_sh]
  rw [f3]
  simp only [Res.bind_ok, tk_sh, setsN]
  rw [← hE]
  rfl
section
variable {bs : List Box} {g : Int}
theorem r1 (h8 : bs.length ≤ 8) (g1 : 1 ≤ g) (c : Option (List D)) : (sSet (.nm 1) (mB fTuple [mLc [4] (.nm 4) (mIt (mCall c__law_into [mVar 5, mVar 6])) (cYes) (mB fTuple [mVar 4])])) ⟨ev (.tuple (bs.map encB)) g .un .un .un .un .un .un .un .un, c⟩ = .ok (.nx, ⟨ev (.tuple (bs.map encB)) g (.sh (due g bs)) .un .un .un .un .un .un .un, c⟩) := by
  have hl : (mLc [4] (.nm 4) (mIt (mCall c__law_into [mVar 5, mVar 6])) (cYes) (mB fTuple [mVar 4])) ⟨ev (.tuple (bs.map encB)) g .un .un .un .un .un .un .un .un, c⟩ = .ok (.fr (.list (bs.map fun b => .tuple (encR (row g bs b)))), ⟨ev (.tuple (bs.map encB)) g .un .un .un .un .un .un .un .un, c⟩) := by
    refine mLc_map bs (fun b => .list (encR (row g bs b))) _ (x_it (y_call rfl rfl (law_into h8 g1 c)) rfl) (by simp [lim]; omega) (noOw_cons (by simp) noOw_nil) fun b hb => ?_
    exact x_lcT put_nm rfl (x_mB rfl rfl rfl) rfl
  exact x_set (x_mB hl rfl rfl) rfl
theorem r2 (h : ∀ b ∈ bs, okB b) (h1 : 1 ≤ bs.length) (h8 : bs.length ≤ 8) (g1 : 1 ≤ g) (g6 : g ≤ 6) (c : Option (List D)) : (sIf (tOf (m2 fNe (mB fRepr [mTup [mCall c_are_boxes [mVar 5], mCall c_into [mVar 5, mVar 6]]]) (mB fRepr [mTup [mCst (.bool true), mVar 1]]))) (sRet (mCst (.bool false))) (sSkip)) ⟨ev (.tuple (bs.map encB)) g (.sh (due g bs)) .un .un .un .un .un .un .un, c⟩ = .ok (.nx, ⟨ev (.tuple (bs.map encB)) g (.sh (due g bs)) .un .un .un .un .un .un .un, c⟩) := by
  have hn : Nice 3 (2 * 2633) (.tuple [.bool true, due g bs]) := nice_tupleN (n := 2) (fun d hd => by
    rcases List.mem_cons.mp hd with rfl | hd
    · exact nice_bool.mono (by decide) (by decide)
    · rw [List.mem_singleton] at hd
      subst hd
      exact nice_due h8) (by simp)
  have hr := hn.repr (by decide) (by decide)
  refine x_iff (x_tof (r := .sh (.bool false)) (x_m2 (x_mB (r1 := .sh (.tuple [.bool true, due g bs])) (s1 := ⟨ev (.tuple (bs.map encB)) g (.sh (due g bs)) .un .un .un .un .un .un .un, c⟩) ?_ rfl hr) (x_mB (r1 := .sh (.tuple [.bool true, due g bs])) (s1 := ⟨ev (.tuple (bs.map encB)) g (.sh (due g bs)) .un .un .un .un .un .un .un, c⟩) rfl rfl hr) rfl rfl (fNe_self rfl)) rfl) rfl
  rw [mTup_e, mL_cons, y_call rfl rfl (are_boxes h h1 h8 c)]
  simp only [Res.bind_ok]
  rw [mL_cons, y_call rfl rfl (into h h1 h8 g1 g6 c)]
  rfl
/-- the ways that the law finds -/
theorem r3b (g1 : 1 ≤ g) {i j : Nat} (hi : i < bs.length) (hj : j < bs.length) (s1 s2 s3 s4 s7 : Slot) (c : Option (List D)) : (sSet (.nm 7) (mLc [11] (.nm 11) (mIt (mCall c__law_orders [mCst (.int 3)])) (tOf (m2 fEq (mLc [8] (.nm 8) (mRng1 (mCst (.int 3))) (tOf (m2 fGt (m2 fAdd (m2 fIx (m2 fIx (mVar 5) (mVar 9)) (m2 fIx (mVar 11) (mVar 8))) (mVar 6)) (m2 fIx (m2 fIx (mVar 5) (mVar 10)) (mVar 8)))) (mCst (.int 1))) (mLst []))) (mVar 11))) ⟨ev (.tuple (bs.map encB)) g s1 s2 s3 s4 s7 .un (.sh (.int (i : Nat))) (.sh (.int (j : Nat))), c⟩ =
    .ok (.nx, ⟨ev (.tuple (bs.map encB)) g s1 s2 s3 s4 (.sh (.list ((sds.filter (fit g (bs.getD i (0, 0, 0)) (bs.getD j (0, 0, 0)))).map encS))) .un (.sh (.int (i : Nat))) (.sh (.int (j : Nat))), c⟩) := by
  generalize hb : bs.getD i (0, 0, 0) = b
  generalize ho : bs.getD j (0, 0, 0) = o
  have fi : fIx (.tuple (bs.map encB)) (.int (i : Nat)) = .ok (.sh (encB b)) := by rw [← hb]; exact getB hi
  have fj : fIx (.tuple (bs.map encB)) (.int (j : Nat)) = .ok (.sh (encB o)) := by rw [← ho]; exact getB hj
  generalize PyData.tuple (bs.map encB) = B at fi fj
  have hl : (mLc [11] (.nm 11) (mIt (mCall c__law_orders [mCst (.int 3)])) (tOf (m2 fEq (mLc [8] (.nm 8) (mRng1 (mCst (.int 3))) (tOf (m2 fGt (m2 fAdd (m2 fIx (m2 fIx (mVar 5) (mVar 9)) (m2 fIx (mVar 11) (mVar 8))) (mVar 6)) (m2 fIx (m2 fIx (mVar 5) (mVar 10)) (mVar 8)))) (mCst (.int 1))) (mLst []))) (mVar 11)) ⟨ev B g s1 s2 s3 s4 s7 .un (.sh (.int (i : Nat))) (.sh (.int (j : Nat))), c⟩ = .ok (.fr (.list (sds.filterMap fun s => if fit g b o s then some (encS s) else none)), ⟨ev B g s1 s2 s3 s4 s7 .un (.sh (.int (i : Nat))) (.sh (.int (j : Nat))), c⟩) := by
    refine mLc_filt sds encS _ (x_it (y_call rfl rfl (orders3' c)) rfl) (by decide) (noOw_cons (by simp) noOw_nil) fun s hs => ?_
    have hok := sds_ok s hs
    have tst : (tOf (m2 fEq (mLc [8] (.nm 8) (mRng1 (mCst (.int 3))) (tOf (m2 fGt (m2 fAdd (m2 fIx (m2 fIx (mVar 5) (mVar 9)) (m2 fIx (mVar 11) (mVar 8))) (mVar 6)) (m2 fIx (m2 fIx (mVar 5) (mVar 10)) (mVar 8)))) (mCst (.int 1))) (mLst []))) ⟨[.cup, s1, s2, s3, s4, .sh B, .sh (.int g), s7, .un, .sh (.int (i : Nat)), .sh (.int (j : Nat)), .sh (encS s), .un, .un, .un], c⟩ = .ok (fit g b o s, ⟨[.cup, s1, s2, s3, s4, .sh B, .sh (.int g), s7, .un, .sh (.int (i : Nat)), .sh (.int (j : Nat)), .sh (encS s), .un, .un, .un], c⟩) := by
      have h1 := ones3 (vs := [8]) (t := .nm 8) (c := (tOf (m2 fGt (m2 fAdd (m2 fIx (m2 fIx (mVar 5) (mVar 9)) (m2 fIx (mVar 11) (mVar 8))) (mVar 6)) (m2 fIx (m2 fIx (mVar 5) (mVar 10)) (mVar 8))))) (E := [.cup, s1, s2, s3, s4, .sh B, .sh (.int g), s7, .un, .sh (.int (i : Nat)), .sh (.int (j : Nat)), .sh (encS s), .un, .un, .un]) (cu := c) (fun k => decide (at3 o k < at3 b (sAt s k) + g)) (noOw_cons (by simp) noOw_nil) (fun k hk => by
        have t1 : (tOf (m2 fGt (m2 fAdd (m2 fIx (m2 fIx (mVar 5) (mVar 9)) (m2 fIx (mVar 11) (mVar 8))) (mVar 6)) (m2 fIx (m2 fIx (mVar 5) (mVar 10)) (mVar 8)))) ⟨[.cup, s1, s2, s3, s4, .sh B, .sh (.int g), s7, .sh (.int (k : Nat)), .sh (.int (i : Nat)), .sh (.int (j : Nat)), .sh (encS s), .un, .un, .un], c⟩ = .ok (decide (at3 o k < at3 b (sAt s k) + g), ⟨[.cup, s1, s2, s3, s4, .sh B, .sh (.int g), s7, .sh (.int (k : Nat)), .sh (.int (i : Nat)), .sh (.int (j : Nat)), .sh (encS s), .un, .un, .un], c⟩) :=
          x_tof (x_m2 (x_m2 (x_m2 (x_m2 rfl rfl rfl rfl fi) (x_m2 rfl rfl rfl rfl (getS s hk)) rfl rfl (get3 b (sAt_lt hok k))) rfl rfl rfl rfl) (x_m2 (x_m2 rfl rfl rfl rfl fj) rfl rfl rfl (get3 o hk)) rfl rfl rfl) rfl
        cases hd : decide (at3 o k < at3 b (sAt s k) + g) with
        | true => rw [hd] at t1; exact x_lcT put_nm t1 rfl rfl
        | false => rw [hd] at t1; exact x_lcF put_nm t1)
      rw [h1]
      simp only [gt_le, fit]
      rfl
    cases hd : fit g b o s with
    | true => rw [hd] at tst; exact x_lcT put_nm tst rfl rfl
    | false => rw [hd] at tst; exact x_lcF put_nm tst
  rw [filterMap_if] at hl
  exact x_set hl rfl
theorem not_empty {α β : Type} (p : α → Bool) (f : α → β) (l : List α) : (!((l.filter p).map f).isEmpty) = l.any p := by
  induction l with
  | nil => rfl
  | cons a l ih => cases h : p a <;> simp [List.filter_cons, h, ih] <;> simpa using ih
theorem nice_good (p : Nat × Nat × Nat → Bool) : ∀ d ∈ (sds.filter p).map encS, Nice 1 123 d := by
  intro d hd
  simp only [List.mem_map, List.mem_filter] at hd
  obtain ⟨s, ⟨hs, _⟩, rfl⟩ := hd
  obtain ⟨h1, h2, h3⟩ := sds_ok s hs
  refine nice_tupleN (n := 3) (w := 40) (fun d hd => ?_) (by simp)
  simp only [List.mem_cons, List.not_mem_nil, or_false] at hd
  rcases hd with rfl | rfl | rfl <;> exact nice_nat (by omega)
theorem good_len (p : Nat × Nat × Nat → Bool) : ((sds.filter p).map encS).length ≤ 6 := by
  have := List.length_filter_le p sds
  simpa [sds] using this
theorem r3c (h : ∀ b ∈ bs, okB b) (h1 : 1 ≤ bs.length) (h8 : bs.length ≤ 8) (g1 : 1 ≤ g) (g6 : g ≤ 6) {i j : Nat} (hi : i < bs.length) (hj : j < bs.length) (s2 s3 s4 : Slot) (c : Option (List D)) : (sIf (tOr (tOf (m2 fNe (mB fRepr [mCall c_ways_into [mVar 5, mVar 6, mVar 9, mVar 10]]) (mB fRepr [mB fTuple [mVar 7]]))) (tOf (m2 fNe (m2 fNe (mVar 7) (mLst [])) (m2 (inI false) (mVar 10) (m2 fIx (mVar 1) (mVar 9)))))) (sRet (mCst (.bool false))) (sSkip)) ⟨ev (.tuple (bs.map encB)) g (.sh (due g bs)) s2 s3 s4 (.sh (.list ((sds.filter (fit g (bs.getD i (0, 0, 0)) (bs.getD j (0, 0, 0)))).map encS))) .un (.sh (.int (i : Nat))) (.sh (.int (j : Nat))), c⟩ =
    .ok (.nx, ⟨ev (.tuple (bs.map encB)) g (.sh (due g bs)) s2 s3 s4 (.sh (.list ((sds.filter (fit g (bs.getD i (0, 0, 0)) (bs.getD j (0, 0, 0)))).map encS))) .un (.sh (.int (i : Nat))) (.sh (.int (j : Nat))), c⟩) := by
  have hw := ways_into h h1 h8 g1 g6 hi hj c
  have e1 : (!((sds.filter (fit g (bs.getD i (0, 0, 0)) (bs.getD j (0, 0, 0)))).map encS).isEmpty) = gi g (bs.getD i (0, 0, 0)) (bs.getD j (0, 0, 0)) := by rw [not_empty, gi_fit g g1]
  have hn := nice_good (fit g (bs.getD i (0, 0, 0)) (bs.getD j (0, 0, 0)))
  have hg := good_len (fit g (bs.getD i (0, 0, 0)) (bs.getD j (0, 0, 0)))
  generalize hL : (sds.filter (fit g (bs.getD i (0, 0, 0)) (bs.getD j (0, 0, 0)))).map encS = L at hw e1 hn hg
  have hr := (nice_tupleN (n := 6) hn hg).repr (by decide) (by decide)
  have hok := (nice_listN (n := 6) hn hg).ok (by decide)
  have fr := inI_nats (neg := false) (j := j) (row g bs (bs.getD i (0, 0, 0)))
  rw [row_has hj] at fr
  have fne : fNe (.bool (!L.isEmpty)) (.bool (gi g (bs.getD i (0, 0, 0)) (bs.getD j (0, 0, 0)))) = .ok (.sh (.bool false)) := by rw [e1, fNe_b]; simp
  refine x_iff (x_orF (x_tof (r := .sh (.bool false)) (x_m2 (x_mB (y_call rfl rfl hw) rfl hr) (x_mB (x_mB rfl rfl rfl) rfl hr) rfl rfl (fNe_self rfl)) rfl) (x_tof (r := .sh (.bool false)) (x_m2 (x_m2 rfl rfl rfl rfl (fNe_nilR hok)) (x_m2 rfl (x_m2 rfl rfl rfl rfl (due_at hi)) rfl rfl fr) rfl rfl fne) rfl)) rfl
theorem r3 (h : ∀ b ∈ bs, okB b) (h1 : 1 ≤ bs.length) (h8 : bs.length ≤ 8) (g1 : 1 ≤ g) (g6 : g ≤ 6) {c : Option (List D)} (hc : CupOk c) : ∃ s2 s7 s9 s10 c', CupOk c' ∧ (sFor (.nm 2) (mRng1 (mCst (.int 6))) (sSeq (sParN [9, 10] [false, false] [mCall c__law_roll [mVar 0, mB fLen [mVar 5]], mCall c__law_roll [mVar 0, mB fLen [mVar 5]]]) (sSeq (sSet (.nm 7) (mLc [11] (.nm 11) (mIt (mCall c__law_orders [mCst (.int 3)])) (tOf (m2 fEq (mLc [8] (.nm 8) (mRng1 (mCst (.int 3))) (tOf (m2 fGt (m2 fAdd (m2 fIx (m2 fIx (mVar 5) (mVar 9)) (m2 fIx (mVar 11) (mVar 8))) (mVar 6)) (m2 fIx (m2 fIx (mVar 5) (mVar 10)) (mVar 8)))) (mCst (.int 1))) (mLst []))) (mVar 11))) (sIf (tOr (tOf (m2 fNe (mB fRepr [mCall c_ways_into [mVar 5, mVar 6, mVar 9, mVar 10]]) (mB fRepr [mB fTuple [mVar 7]]))) (tOf (m2 fNe (m2 fNe (mVar 7) (mLst [])) (m2 (inI false) (mVar 10) (m2 fIx (mVar 1) (mVar 9)))))) (sRet (mCst (.bool false))) (sSkip))))) ⟨ev (.tuple (bs.map encB)) g (.sh (due g bs)) .un .un .un .un .un .un .un, c⟩ = .ok (.nx, ⟨ev (.tuple (bs.map encB)) g (.sh (due g bs)) s2 .un .un s7 .un s9 s10, c'⟩) := by
  obtain ⟨s', e, s2, s7, s9, s10, c', rfl, hc'⟩ := forL_inv (t := .nm 2) (b := (sSeq (sParN [9, 10] [false, false] [mCall c__law_roll [mVar 0, mB fLen [mVar 5]], mCall c__law_roll [mVar 0, mB fLen [mVar 5]]]) (sSeq (sSet (.nm 7) (mLc [11] (.nm 11) (mIt (mCall c__law_orders [mCst (.int 3)])) (tOf (m2 fEq (mLc [8] (.nm 8) (mRng1 (mCst (.int 3))) (tOf (m2 fGt (m2 fAdd (m2 fIx (m2 fIx (mVar 5) (mVar 9)) (m2 fIx (mVar 11) (mVar 8))) (mVar 6)) (m2 fIx (m2 fIx (mVar 5) (mVar 10)) (mVar 8)))) (mCst (.int 1))) (mLst []))) (mVar 11))) (sIf (tOr (tOf (m2 fNe (mB fRepr [mCall c_ways_into [mVar 5, mVar 6, mVar 9, mVar 10]]) (mB fRepr [mB fTuple [mVar 7]]))) (tOf (m2 fNe (m2 fNe (mVar 7) (mLst [])) (m2 (inI false) (mVar 10) (m2 fIx (mVar 1) (mVar 9)))))) (sRet (mCst (.bool false))) (sSkip))))) (fun i : Nat => .int (i : Nat)) (fun l s => ∃ s2 s7 s9 s10 c, s = ⟨ev (.tuple (bs.map encB)) g (.sh (due g bs)) s2 .un .un s7 .un s9 s10, c⟩ ∧ CupOk c) (fun a l s hs => by
    obtain ⟨s2, s7, s9, s10, c, rfl, hc⟩ := hs
    obtain ⟨i, c1, hi, hc1, e1⟩ := rollN hc (many := bs.length) (by omega) (by omega)
    obtain ⟨j, c2, hj, hc2, e2⟩ := rollN hc1 (many := bs.length) (by omega) (by omega)
    have lenB : fLen [.tuple (bs.map encB)] = .ok (.sh (.int (bs.length : Nat))) := by simp [fLen]
    have f1 : ∀ (c c' : Option (List D)) (i : Nat), c__law_roll [.cup, .d (.int (bs.length : Nat))] c = .ok ((false, .int (i : Nat)), c') → mCall c__law_roll [mVar 0, mB fLen [mVar 5]] ⟨ev (.tuple (bs.map encB)) g (.sh (due g bs)) (.sh (.int (a : Nat))) .un .un s7 .un s9 s10, c⟩ = .ok (.sh (.int (i : Nat)), ⟨ev (.tuple (bs.map encB)) g (.sh (due g bs)) (.sh (.int (a : Nat))) .un .un s7 .un s9 s10, c'⟩) := fun c c' i e => by
      refine x_call (vs := [.sl 0, .sh (.int (bs.length : Nat))]) (as := [.cup, .d (.int (bs.length : Nat))]) (s1 := ⟨ev (.tuple (bs.map encB)) g (.sh (due g bs)) (.sh (.int (a : Nat))) .un .un s7 .un s9 s10, c⟩) (s2 := ⟨ev (.tuple (bs.map encB)) g (.sh (due g bs)) (.sh (.int (a : Nat))) .un .un s7 .un s9 s10, c⟩) ?_ rfl e
      rw [mL_cons]
      show (do
        let (vs, s2) ← mL [mB fLen [mVar 5]] ⟨ev (.tuple (bs.map encB)) g (.sh (due g bs)) (.sh (.int (a : Nat))) .un .un s7 .un s9 s10, c⟩
        Res.ok (RV.sl 0 :: vs, s2)) = _
      rw [mL_cons, x_mB rfl rfl lenB]
      rfl
    have ea : (sParN [9, 10] [false, false] [mCall c__law_roll [mVar 0, mB fLen [mVar 5]], mCall c__law_roll [mVar 0, mB fLen [mVar 5]]]) ⟨ev (.tuple (bs.map encB)) g (.sh (due g bs)) (.sh (.int (a : Nat))) .un .un s7 .un s9 s10, c⟩ = .ok (.nx, ⟨ev (.tuple (bs.map encB)) g (.sh (due g bs)) (.sh (.int (a : Nat))) .un .un s7 .un (.sh (.int (i : Nat))) (.sh (.int (j : Nat))), c2⟩) := by
      unfold sParN mLO mLO mLO
      rw [f1 _ _ _ e1]
      simp only [Res.bind_ok, tk_sh]
      rw [f1 _ _ _ e2]
      rfl
    exact ⟨_, _, _, put_nm, x_seq ea (x_seq (r3b g1 hi hj _ _ _ _ _ c2) (r3c h h1 h8 g1 g6 hi hj _ _ _ c2)), .inl rfl, _, _, _, _, _, rfl, hc2⟩) (List.range 6) ⟨ev (.tuple (bs.map encB)) g (.sh (due g bs)) .un .un .un .un .un .un .un, c⟩ ⟨_, _, _, _, _, rfl, hc⟩
  exact ⟨_, _, _, _, _, hc', x_for (rng1_c 6 (by decide)) e⟩
end
end Yd86

namespace Yd86
open PySem Yd
theorem boxes_of : ∀ {bs : List Box} {xs : List D}, xs.length = bs.length → (∀ (i : Nat) b x, bs[i]? = some b → xs[i]? = some x → ∃ b', x = encB b' ∧ s3 b' = s3 b ∧ okB b') → ∃ bs' : List Box, xs = bs'.map encB ∧ bs'.length = bs.length ∧ (∀ i < bs.length, s3 (bs'.getD i (0, 0, 0)) = s3 (bs.getD i (0, 0, 0))) ∧ ∀ b ∈ bs', okB b
  | [], xs, hl, h => by
    have : xs = [] := List.eq_nil_of_length_eq_zero hl
    subst this
    exact ⟨[], rfl, rfl, by simp, by simp⟩
  | b :: bs, [], hl, h => by simp at hl
  | b :: bs, x :: xs, hl, h => by
    obtain ⟨b', rfl, h2, h3⟩ := h 0 b x rfl rfl
    obtain ⟨bs', rfl, k2, k3, k4⟩ := boxes_of (bs := bs) (xs := xs) (by simpa using hl) fun i b x q1 q2 => h (i + 1) b x (by simpa using q1) (by simpa using q2)
    refine ⟨b' :: bs', rfl, by simp [k2], fun i hi => ?_, fun y hy => ?_⟩
    · cases i with
      | zero => simpa using h2
      | succ i => simpa using k3 i (by simpa using hi)
    · rcases List.mem_cons.mp hy with rfl | hy
      · exact h3
      · exact k4 y hy
section
variable {bs : List Box} {g : Int}
theorem r4 (h : ∀ b ∈ bs, okB b) (h8 : bs.length ≤ 8) {c : Option (List D)} (hc : CupOk c) (s2 s7 s9 s10 : Slot) : ∃ (bs' : List Box) (c' : Option (List D)), bs'.length = bs.length ∧ (∀ i < bs.length, s3 (bs'.getD i (0, 0, 0)) = s3 (bs.getD i (0, 0, 0))) ∧ (∀ b ∈ bs', okB b) ∧ CupOk c' ∧
    (sSet (.nm 3) (mB fTuple [mLc [12] (.nm 12) (mIt (mVar 5)) (cYes) (mCall c__law_turned [mVar 0, mVar 12])])) ⟨ev (.tuple (bs.map encB)) g (.sh (due g bs)) s2 .un .un s7 .un s9 s10, c⟩ = .ok (.nx, ⟨ev (.tuple (bs.map encB)) g (.sh (due g bs)) s2 (.sh (.tuple (bs'.map encB))) .un s7 .un s9 s10, c'⟩) := by
  generalize hB : PyData.tuple (bs.map encB) = B
  obtain ⟨xs, c', e, hc', hl, hp⟩ := mLc_inv (vs := [12]) (t := .nm 12) (it := mIt (mVar 5)) (c := cYes) (m := mCall c__law_turned [mVar 0, mVar 12]) (s := ⟨ev B g (.sh (due g bs)) s2 .un .un s7 .un s9 s10, c⟩) (s1 := ⟨ev B g (.sh (due g bs)) s2 .un .un s7 .un s9 s10, c⟩) (ds := bs.map encB) CupOk (fun d x => ∀ b, d = encB b → okB b → ∃ b', x = encB b' ∧ s3 b' = s3 b ∧ okB b') (by rw [← hB]; rfl) (by simp [lim]; omega) (noOw_cons (by simp) noOw_nil) hc (fun d hd cu hcu => by
    simp only [List.mem_map] at hd
    obtain ⟨b, hb, rfl⟩ := hd
    obtain ⟨ys, cu', hy, hcu', e⟩ := turned hcu [.int b.1, .int b.2.1, .int b.2.2] (by simp)
    obtain ⟨b', e1, e2, e3⟩ := box_perm hy (h b hb)
    refine ⟨.tuple ys, cu', x_lcT put_nm rfl (x_call (vs := [.sl 0, .sl 12]) (as := [.cup, .d (encB b)]) (s1 := ⟨[.cup, .sh (due g bs), s2, .un, .un, .sh B, .sh (.int g), s7, .un, s9, s10, .un, .sh (encB b), .un, .un], cu⟩) (s2 := ⟨[.cup, .sh (due g bs), s2, .un, .un, .sh B, .sh (.int g), s7, .un, s9, s10, .un, .sh (encB b), .un, .un], cu⟩) rfl rfl e) rfl, hcu', fun b2 he hok => ?_⟩
    have : b = b2 := by
      obtain ⟨p, q, r⟩ := b
      obtain ⟨p2, q2, r2⟩ := b2
      simp only [encB, PyData.tuple.injEq, List.cons.injEq, PyData.int.injEq, and_true] at he
      obtain ⟨rfl, rfl, rfl⟩ := he
      rfl
    subst this
    exact ⟨b', e1, e2, e3⟩)
  obtain ⟨bs', rfl, k1, k2, k3⟩ := boxes_of (bs := bs) (xs := xs) (by rw [hl]; simp) fun i b x q1 q2 => hp i (encB b) x (by simp [q1]) q2 b rfl (h b (List.mem_of_getElem? q1))
  exact ⟨bs', c', k1, k2, k3, hc', x_set (x_mB e rfl rfl) rfl⟩
theorem filterMap_none {α β : Type} (l : List α) : l.filterMap (fun _ => (none : Option β)) = [] := by
  induction l with
  | nil => rfl
  | cons a l ih => simp
theorem okD_due (h8 : bs.length ≤ 8) : okD (due g bs) = true := (nice_due h8).ok (by decide)
theorem row_self (g1 : 1 ≤ g) {i : Nat} (hi : i < bs.length) : (row g bs (bs.getD i (0, 0, 0))).contains i = false := by rw [row_has hi, gi_irr g1]
theorem r5 (h8 : bs.length ≤ 8) (g1 : 1 ≤ g) (g6 : g ≤ 6) {bs' : List Box} (h1 : 1 ≤ bs.length) (hl : bs'.length = bs.length) (hk : ∀ i < bs.length, s3 (bs'.getD i (0, 0, 0)) = s3 (bs.getD i (0, 0, 0))) (ho : ∀ b ∈ bs', okB b) (s2 s7 s9 s10 : Slot) (c : Option (List D)) :
    (sIf (tOr (tOf (m2 fNe (mCall c_into [mVar 3, mVar 6]) (mVar 1))) (tOf (m2 fNe (mLc [8] (.nm 8) (mRng1 (mB fLen [mVar 5])) (tOf (m2 (inI false) (mVar 8) (m2 fIx (mVar 1) (mVar 8)))) (mVar 8)) (mLst [])))) (sRet (mCst (.bool false))) (sSkip)) ⟨ev (.tuple (bs.map encB)) g (.sh (due g bs)) s2 (.sh (.tuple (bs'.map encB))) .un s7 .un s9 s10, c⟩ = .ok (.nx, ⟨ev (.tuple (bs.map encB)) g (.sh (due g bs)) s2 (.sh (.tuple (bs'.map encB))) .un s7 .un s9 s10, c⟩) := by
  have hi := into ho (by omega) (by omega) g1 g6 c
  rw [due_ext hl hk] at hi
  have lenB : fLen [.tuple (bs.map encB)] = .ok (.sh (.int (bs.length : Nat))) := by simp [fLen]
  have dat : ∀ i < bs.length, fIx (due g bs) (.int (i : Nat)) = .ok (.sh (.tuple (encR (row g bs (bs.getD i (0, 0, 0)))))) := fun i hi => due_at hi
  have okd := okD_due (g := g) h8
  generalize due g bs = d at hi dat okd
  generalize PyData.tuple (bs'.map encB) = B' at hi
  generalize PyData.tuple (bs.map encB) = B at lenB
  have hr : mRng1 (mB fLen [mVar 5]) ⟨ev B g (.sh d) s2 (.sh B') .un s7 .un s9 s10, c⟩ = .ok ((List.range bs.length).map fun i => .int (i : Nat), ⟨ev B g (.sh d) s2 (.sh B') .un s7 .un s9 s10, c⟩) := rng1_e (r := .sh (.int bs.length)) (inR_nat (by omega)) (x_mB rfl rfl lenB) rd_sh
  have hlc : (mLc [8] (.nm 8) (mRng1 (mB fLen [mVar 5])) (tOf (m2 (inI false) (mVar 8) (m2 fIx (mVar 1) (mVar 8)))) (mVar 8)) ⟨ev B g (.sh d) s2 (.sh B') .un s7 .un s9 s10, c⟩ = .ok (.fr (.list []), ⟨ev B g (.sh d) s2 (.sh B') .un s7 .un s9 s10, c⟩) := by
    rw [← filterMap_none (β := D) (List.range bs.length)]
    refine mLc_filt (List.range bs.length) (fun i => .int (i : Nat)) _ hr (by simp [lim]; omega) (noOw_cons (by simp) noOw_nil) fun i hi => ?_
    have hi' : i < bs.length := by simpa using hi
    have fr := inI_nats (neg := false) (j := i) (row g bs (bs.getD i (0, 0, 0)))
    rw [row_self g1 hi'] at fr
    exact x_lcF put_nm (x_tof (x_m2 rfl (x_m2 rfl rfl rfl rfl (dat i hi')) rfl rfl fr) rfl)
  refine x_iff (x_orF (x_tof (r := .sh (.bool false)) (x_m2 (y_call rfl rfl hi) rfl rfl rfl (fNe_self okd)) rfl) (x_tof (r := .sh (.bool false)) (x_m2 hlc rfl rfl rfl (fNe_nilR rfl)) rfl)) rfl
theorem row_sub (g1 : 1 ≤ g) {b : Box} {i k : Nat} (hi : i ∈ row g bs b) (hk : k ∈ row g bs (bs.getD i (0, 0, 0))) : (row g bs b).contains k = true := by
  rw [List.contains_iff_mem]
  exact row_mem (row_lt hk).1 (gi_tr g1 (row_lt hi).2 (row_lt hk).2)
theorem row_len (h8 : bs.length ≤ 8) (b : Box) : (row g bs b).length ≤ 8 := by
  have := List.length_filter_le (fun i => gi g b (bs.getD i (0, 0, 0))) (List.range bs.length)
  simp only [row, List.length_range] at this ⊢
  omega
theorem r6 (h8 : bs.length ≤ 8) (g1 : 1 ≤ g) (B' : D) (s2 s7 s9 s10 : Slot) (c : Option (List D)) : ∃ s4 s8 : Slot, (∀ d, s4 ≠ .ow d) ∧ (∀ d, s8 ≠ .ow d) ∧
    (sFor (.nm 4) (mIt (mVar 1)) (sFor (.nm 8) (mIt (mVar 4)) (sIf (tOf (m2 fNe (mLc [13] (.nm 13) (mIt (m2 fIx (mVar 1) (mVar 8))) (tOf (m2 (inI true) (mVar 13) (mVar 4))) (mVar 13)) (mLst []))) (sRet (mCst (.bool false))) (sSkip)))) ⟨ev (.tuple (bs.map encB)) g (.sh (due g bs)) s2 (.sh B') .un s7 .un s9 s10, c⟩ = .ok (.nx, ⟨ev (.tuple (bs.map encB)) g (.sh (due g bs)) s2 (.sh B') s4 s7 s8 s9 s10, c⟩) := by
  have dat : ∀ i < bs.length, fIx (due g bs) (.int (i : Nat)) = .ok (.sh (.tuple (encR (row g bs (bs.getD i (0, 0, 0)))))) := fun i hi => due_at hi
  have hit : mIt (mVar 1) ⟨ev (.tuple (bs.map encB)) g (.sh (due g bs)) s2 (.sh B') .un s7 .un s9 s10, c⟩ = .ok (bs.map fun b => .tuple (encR (row g bs b)), ⟨ev (.tuple (bs.map encB)) g (.sh (due g bs)) s2 (.sh B') .un s7 .un s9 s10, c⟩) := rfl
  generalize due g bs = d at dat hit
  generalize PyData.tuple (bs.map encB) = B at hit
  obtain ⟨s', e, _, s4, s8, n4, n8, rfl⟩ := forL_inv (t := .nm 4) (b := (sFor (.nm 8) (mIt (mVar 4)) (sIf (tOf (m2 fNe (mLc [13] (.nm 13) (mIt (m2 fIx (mVar 1) (mVar 8))) (tOf (m2 (inI true) (mVar 13) (mVar 4))) (mVar 13)) (mLst []))) (sRet (mCst (.bool false))) (sSkip)))) (fun b : Box => .tuple (encR (row g bs b))) (fun l s => (∀ b ∈ l, b ∈ bs) ∧ ∃ s4 s8, (∀ d, s4 ≠ Slot.ow d) ∧ (∀ d, s8 ≠ Slot.ow d) ∧ s = ⟨ev B g (.sh d) s2 (.sh B') s4 s7 s8 s9 s10, c⟩) (fun b l s hs => by
    obtain ⟨hm, s4, s8, n4, n8, rfl⟩ := hs
    obtain ⟨s', e, _, s8', n8', rfl⟩ := forL_inv (t := .nm 8) (b := (sIf (tOf (m2 fNe (mLc [13] (.nm 13) (mIt (m2 fIx (mVar 1) (mVar 8))) (tOf (m2 (inI true) (mVar 13) (mVar 4))) (mVar 13)) (mLst []))) (sRet (mCst (.bool false))) (sSkip))) (fun i : Nat => .int (i : Nat)) (fun l s => (∀ i ∈ l, i ∈ row g bs b) ∧ ∃ s8, (∀ d, s8 ≠ Slot.ow d) ∧ s = ⟨ev B g (.sh d) s2 (.sh B') (.sh (.tuple (encR (row g bs b)))) s7 s8 s9 s10, c⟩) (fun i l s hs => by
      obtain ⟨hm, s8, n8, rfl⟩ := hs
      have hi := hm i (by simp)
      have hlt := (row_lt hi).1
      have hlc : (mLc [13] (.nm 13) (mIt (m2 fIx (mVar 1) (mVar 8))) (tOf (m2 (inI true) (mVar 13) (mVar 4))) (mVar 13)) ⟨ev B g (.sh d) s2 (.sh B') (.sh (.tuple (encR (row g bs b)))) s7 (.sh (.int (i : Nat))) s9 s10, c⟩ = .ok (.fr (.list []), ⟨ev B g (.sh d) s2 (.sh B') (.sh (.tuple (encR (row g bs b)))) s7 (.sh (.int (i : Nat))) s9 s10, c⟩) := by
        rw [← filterMap_none (β := D) (row g bs (bs.getD i (0, 0, 0)))]
        refine mLc_filt (row g bs (bs.getD i (0, 0, 0))) (fun i => .int (i : Nat)) _ (x_itT (x_m2 rfl rfl rfl rfl (dat i hlt)) rfl) (by have := row_len (g := g) h8 (bs.getD i (0, 0, 0)); unfold lim; omega) (noOw_cons (by simp) noOw_nil) fun k hk => ?_
        have fr := inI_nats (neg := true) (j := k) (row g bs b)
        rw [row_sub g1 hi hk] at fr
        exact x_lcF put_nm (x_tof (x_m2 rfl rfl rfl rfl fr) rfl)
      exact ⟨_, _, _, put_nm, x_iff (x_tof (r := .sh (.bool false)) (x_m2 hlc rfl rfl rfl (fNe_nilR rfl)) rfl) rfl, .inl rfl, fun x hx => hm x (by simp [hx]), _, by simp, rfl⟩) (row g bs b) ⟨ev B g (.sh d) s2 (.sh B') (.sh (.tuple (encR (row g bs b)))) s7 s8 s9 s10, c⟩ ⟨fun _ h => h, _, n8, rfl⟩
    exact ⟨_, _, _, put_nm, x_for (x_itT rfl rfl) e, .inl rfl, fun x hx => hm x (by simp [hx]), _, _, by simp, n8', rfl⟩) bs ⟨ev B g (.sh d) s2 (.sh B') .un s7 .un s9 s10, c⟩ ⟨fun _ h => h, _, _, by simp, by simp, rfl⟩
  exact ⟨s4, s8, n4, n8, x_for hit e⟩
theorem zip_self {α : Type} : ∀ l : List α, l.zip l = l.map fun b => (b, b)
  | [] => rfl
  | a :: l => by simp [zip_self l]
theorem r7 (h : ∀ b ∈ bs, okB b) (h1 : 1 ≤ bs.length) (h8 : bs.length ≤ 8) (g1 : 1 ≤ g) (g6 : g ≤ 6) (B' : D) (s2 s4 s7 s8 s9 s10 : Slot) (n4 : ∀ d, s4 ≠ .ow d) (n8 : ∀ d, s8 ≠ .ow d) (c : Option (List D)) :
    (sRet (mOr (m2 fEq (mVar 6) (mCst (.int 6))) (m2 fEq (mLc [4, 14] (.tp [.nm 4, .nm 14]) (mZip (mCall c_into [mVar 5, m2 fAdd (mVar 6) (mCst (.int 1))]) (mVar 1)) (tOf (m2 fNe (mLc [8] (.nm 8) (mIt (mVar 4)) (tOf (m2 (inI true) (mVar 8) (mVar 14))) (mVar 8)) (mLst []))) (mCst (.int 1))) (mLst [])))) ⟨ev (.tuple (bs.map encB)) g (.sh (due g bs)) s2 (.sh B') s4 s7 s8 s9 s10, c⟩ = .ok (.rt (false, .bool true), ⟨ev (.tuple (bs.map encB)) g (.sh (due g bs)) s2 (.sh B') s4 s7 s8 s9 s10, c⟩) := by
  by_cases hg : g = 6
  · subst hg
    exact x_ret (x_vorT rfl rfl) rfl
  · have hi := into h h1 h8 (g := g + 1) (by omega) (by omega) c
    have hz : (mZip (mCall c_into [mVar 5, m2 fAdd (mVar 6) (mCst (.int 1))]) (mVar 1)) ⟨ev (.tuple (bs.map encB)) g (.sh (due g bs)) s2 (.sh B') s4 s7 s8 s9 s10, c⟩ = .ok (bs.map fun b => .tuple [.tuple (encR (row (g + 1) bs b)), .tuple (encR (row g bs b))], ⟨ev (.tuple (bs.map encB)) g (.sh (due g bs)) s2 (.sh B') s4 s7 s8 s9 s10, c⟩) := by
      unfold mZip
      rw [mL_cons, y_call (vs := [.sl 5, .sh (.int (g + 1))]) rfl rfl hi]
      show Res.ok (pairs (bs.map fun b => .tuple (encR (row (g + 1) bs b))) (bs.map fun b => .tuple (encR (row g bs b))), _) = _
      rw [pairs_map]
      rw [zip_self, List.map_map]
      rfl
    have hlc : (mLc [4, 14] (.tp [.nm 4, .nm 14]) (mZip (mCall c_into [mVar 5, m2 fAdd (mVar 6) (mCst (.int 1))]) (mVar 1)) (tOf (m2 fNe (mLc [8] (.nm 8) (mIt (mVar 4)) (tOf (m2 (inI true) (mVar 8) (mVar 14))) (mVar 8)) (mLst []))) (mCst (.int 1))) ⟨ev (.tuple (bs.map encB)) g (.sh (due g bs)) s2 (.sh B') s4 s7 s8 s9 s10, c⟩ = .ok (.fr (.list []), ⟨ev (.tuple (bs.map encB)) g (.sh (due g bs)) s2 (.sh B') s4 s7 s8 s9 s10, c⟩) := by
      generalize due g bs = d at hz
      generalize PyData.tuple (bs.map encB) = B at hz
      rw [← filterMap_none (β := D) bs]
      refine mLc_filt bs (fun b => .tuple [.tuple (encR (row (g + 1) bs b)), .tuple (encR (row g bs b))]) _ hz (by simp [lim]; omega) (noOw_cons (fun d e => n4 d (Option.some.inj e)) (noOw_cons (by simp) noOw_nil)) fun b hb => ?_
      have hp : put (.tp [.nm 4, .nm 14]) (.tuple [.tuple (encR (row (g + 1) bs b)), .tuple (encR (row g bs b))]) ⟨[.cup, .sh d, s2, .sh B', .un, .sh B, .sh (.int g), s7, s8, s9, s10, .un, .un, .un, .un], c⟩ = .ok ⟨[.cup, .sh d, s2, .sh B', .sh (.tuple (encR (row (g + 1) bs b))), .sh B, .sh (.int g), s7, s8, s9, s10, .un, .un, .un, .sh (.tuple (encR (row g bs b)))], c⟩ := by
        simp only [put_tp, puts_cons, put_nm, puts_nil, Res.bind_ok, List.set_cons_succ, List.set_cons_zero]
      have hin : (mLc [8] (.nm 8) (mIt (mVar 4)) (tOf (m2 (inI true) (mVar 8) (mVar 14))) (mVar 8)) ⟨[.cup, .sh d, s2, .sh B', .sh (.tuple (encR (row (g + 1) bs b))), .sh B, .sh (.int g), s7, s8, s9, s10, .un, .un, .un, .sh (.tuple (encR (row g bs b)))], c⟩ = .ok (.fr (.list []), ⟨[.cup, .sh d, s2, .sh B', .sh (.tuple (encR (row (g + 1) bs b))), .sh B, .sh (.int g), s7, s8, s9, s10, .un, .un, .un, .sh (.tuple (encR (row g bs b)))], c⟩) := by
        rw [← filterMap_none (β := D) (row (g + 1) bs b)]
        refine mLc_filt (row (g + 1) bs b) (fun i => .int (i : Nat)) _ (x_itT rfl rfl) (by have := row_len (g := g + 1) h8 b; unfold lim; omega) (noOw_cons (fun d e => n8 d (Option.some.inj e)) noOw_nil) fun k hk => ?_
        have fr := inI_nats (neg := true) (j := k) (row g bs b)
        rw [show (row g bs b).contains k = true by rw [List.contains_iff_mem]; exact row_mem (row_lt hk).1 (gi_less (row_lt hk).2)] at fr
        exact x_lcF put_nm (x_tof (x_m2 rfl rfl rfl rfl fr) rfl)
      exact x_lcF hp (x_tof (r := .sh (.bool false)) (x_m2 hin rfl rfl rfl (fNe_nilR rfl)) rfl)
    have h6 : fEq (.int g) (.int 6) = .ok (.sh (.bool false)) := by rw [fEq_i, beq_eq_false_iff_ne.mpr hg]
    exact x_ret (x_vorF (x_m2 rfl rfl rfl rfl h6) rfl (x_m2 hlc rfl rfl rfl (fEq_nilR rfl))) rfl
end
theorem law_right {c : Option (List D)} (hc : CupOk c) : ∃ c', CupOk c' ∧ c__law_right [.cup] c = .ok ((false, .bool true), c') := by
  obtain ⟨bs, g, c1, h1, h8, hk, g1, g6, hc1, e0⟩ := r0 hc
  obtain ⟨s2, s7, s9, s10, c2, hc2, e3⟩ := r3 hk h1 h8 g1 g6 hc1
  obtain ⟨bs', c3, k1, k2, k3, hc3, e4⟩ := r4 (g := g) hk h8 hc2 s2 s7 s9 s10
  have e5 := r5 h8 g1 g6 h1 k1 k2 k3 s2 s7 s9 s10 c3
  obtain ⟨s4, s8, n4, n8, e6⟩ := r6 h8 g1 (.tuple (bs'.map encB)) s2 s7 s9 s10 c3
  have e7 := r7 hk h1 h8 g1 g6 (.tuple (bs'.map encB)) s2 s4 s7 s8 s9 s10 n4 n8 c3
  exact ⟨c3, hc3, x_run (x_seq e0 (x_seq (r1 h8 g1 c1) (x_seq (r2 hk h1 h8 g1 g6 c1) (x_seq e3 (x_seq e4 (x_seq e5 (x_seq e6 e7)))))))⟩
end Yd86

namespace Yd86
open PySem Yd
def three (z g : Int) : List Box := [(z, z, z), (z + g, z + g, z + g), (z + g, z + g - 1, 40)]
theorem fit1 (z g : Int) {s : Nat × Nat × Nat} (hs : okS s) : fit g (z, z, z) (z + g, z + g, z + g) s = true := by
  have a : ∀ i, at3 (z, z, z) i = z := fun i => by unfold at3; split <;> rfl
  simp [fit, a]
theorem fit2 (z g : Int) (s : Nat × Nat × Nat) : fit g (z, z, z) (z + g, z + g - 1, 40) s = false := by
  have a : ∀ i, at3 (z, z, z) i = z := fun i => by unfold at3; split <;> rfl
  simp [fit, a]
  omega
theorem row3 {z g : Int} (g1 : 1 ≤ g) : row g (three z g) (z, z, z) = [1] := by
  have e0 : gi g (z, z, z) (z, z, z) = false := gi_irr g1 _
  have e1 : gi g (z, z, z) (z + g, z + g, z + g) = true := by
    rw [gi_fit g g1, List.any_eq_true]
    exact ⟨(0, 1, 2), by simp [sds], fit1 z g ⟨by decide, by decide, by decide⟩⟩
  have e2 : gi g (z, z, z) (z + g, z + g - 1, 40) = false := by
    rw [gi_fit g g1, List.any_eq_false]
    intro s _
    simp [fit2]
  unfold row
  rw [show List.range (three z g).length = [0, 1, 2] from rfl]
  simp [List.filter_cons, three, e0, e1, e2]
theorem law_ok : ∀ ns : List Int, ns.length ≤ 63 → ∃ b c, c_law [.d (.list (ns.map PyData.int))] none = .ok ((b, .bool true), c) := by
  intro ns hns
  obtain ⟨a, b, ha, hb, e0⟩ := law_cup ns hns
  generalize PyData.list (ns.map PyData.int) = S at e0
  have f0 : (sCup 1 (mCall c__law_cup [mVar 0])) ⟨[.sh S, .un, .un, .un, .un, .un, .un], none⟩ = .ok (.nx, ⟨[.sh S, .cup, .un, .un, .un, .un, .un], some [.int a, .int b]⟩) := x_cup (s1 := ⟨[.sh S, .un, .un, .un, .un, .un, .un], none⟩) (show _ = _ from (w_callT rfl rfl e0).trans rfl) rfl
  obtain ⟨s', f1, X, c1, rfl, hc1⟩ := forL_inv (t := .nm 2) (b := (sIf (tNot (tOf (mCall c__law_right [mVar 1]))) (sRet (mCst (.bool false))) (sSkip))) (fun i : Nat => .int (i : Nat)) (fun l s => ∃ X c, s = ⟨[.sh S, .cup, X, .un, .un, .un, .un], c⟩ ∧ CupOk c) (fun i l s hs => by
    obtain ⟨X, c, rfl, hc⟩ := hs
    obtain ⟨c', hc', e⟩ := law_right hc
    refine ⟨_, _, _, put_nm, x_iff (s1 := ⟨[.sh S, .cup, .sh (.int (i : Nat)), .un, .un, .un, .un], c'⟩) ?_ rfl, .inl rfl, _, _, rfl, hc'⟩
    exact x_not (b := true) (x_tof (w_call rfl rfl e) rfl)) (List.range 5) ⟨[.sh S, .cup, .un, .un, .un, .un, .un], some [.int a, .int b]⟩ ⟨_, _, rfl, a, b, rfl, ha, hb⟩
  obtain ⟨z, c2, hz, hc2, e2⟩ := rollN hc1 (many := 30) (by decide) (by decide)
  obtain ⟨g, c3, hg, hc3, e3⟩ := rollN hc2 (many := 6) (by decide) (by decide)
  have e2 : c__law_roll [.cup, .d (.int 30)] c1 = .ok ((false, .int (z : Nat)), c2) := e2
  have e3 : c__law_roll [.cup, .d (.int 6)] c2 = .ok ((false, .int (g : Nat)), c3) := e3
  have f2 : (sParN [5, 6] [false, false] [m2 fAdd (mCst (.int 1)) (mCall c__law_roll [mVar 1, mCst (.int 30)]), m2 fAdd (mCst (.int 1)) (mCall c__law_roll [mVar 1, mCst (.int 6)])]) ⟨[.sh S, .cup, X, .un, .un, .un, .un], c1⟩ = .ok (.nx, ⟨[.sh S, .cup, X, .un, .un, .sh (.int ((z + 1 : Nat) : Int)), .sh (.int ((g + 1 : Nat) : Int))], c3⟩) := by
    have u1 : (m2 fAdd (mCst (.int 1)) (mCall c__law_roll [mVar 1, mCst (.int 30)])) ⟨[.sh S, .cup, X, .un, .un, .un, .un], c1⟩ = .ok (.sh (.int ((z + 1 : Nat) : Int)), ⟨[.sh S, .cup, X, .un, .un, .un, .un], c2⟩) := x_m2 rfl (w_call rfl rfl e2) rfl rfl (by rw [fAdd_i, Int.add_comm]; rfl)
    have u2 : (m2 fAdd (mCst (.int 1)) (mCall c__law_roll [mVar 1, mCst (.int 6)])) ⟨[.sh S, .cup, X, .un, .un, .un, .un], c2⟩ = .ok (.sh (.int ((g + 1 : Nat) : Int)), ⟨[.sh S, .cup, X, .un, .un, .un, .un], c3⟩) := x_m2 rfl (w_call rfl rfl e3) rfl rfl (by rw [fAdd_i, Int.add_comm]; rfl)
    unfold sParN mLO mLO mLO
    rw [u1]
    simp only [Res.bind_ok, tk_sh]
    rw [u2]
    rfl
  have z1 : (1 : Int) ≤ ((z + 1 : Nat) : Int) := by omega
  have z2 : ((z + 1 : Nat) : Int) ≤ 30 := by omega
  have g1 : (1 : Int) ≤ ((g + 1 : Nat) : Int) := by omega
  have g2 : ((g + 1 : Nat) : Int) ≤ 6 := by omega
  generalize ((z + 1 : Nat) : Int) = z at f2 z1 z2
  generalize ((g + 1 : Nat) : Int) = g at f2 g1 g2
  have ok3 : ∀ b ∈ three z g, okB b := by
    intro b hb
    simp only [three, List.mem_cons, List.not_mem_nil, or_false] at hb
    rcases hb with rfl | rfl | rfl <;> exact ⟨⟨by simp; omega, by simp; omega⟩, ⟨by simp; omega, by simp; omega⟩, by simp; try omega, by simp; try omega⟩
  have f3 : (sSet (.nm 3) (mTup [mTup [mVar 5, mVar 5, mVar 5], mTup [m2 fAdd (mVar 5) (mVar 6), m2 fAdd (mVar 5) (mVar 6), m2 fAdd (mVar 5) (mVar 6)], mTup [m2 fAdd (mVar 5) (mVar 6), m2 fSub (m2 fAdd (mVar 5) (mVar 6)) (mCst (.int 1)), mCst (.int 40)]])) ⟨[.sh S, .cup, X, .un, .un, .sh (.int z), .sh (.int g)], c3⟩ = .ok (.nx, ⟨[.sh S, .cup, X, .sh (.tuple ((three z g).map encB)), .un, .sh (.int z), .sh (.int g)], c3⟩) := rfl
  have hi := into ok3 (by simp [three]) (by simp [three]) g1 g2 c3
  have hw1 := ways_into ok3 (by simp [three]) (by simp [three]) g1 g2 (i := 0) (j := 1) (by simp [three]) (by simp [three]) c3
  have hw2 := ways_into ok3 (by simp [three]) (by simp [three]) g1 g2 (i := 0) (j := 2) (by simp [three]) (by simp [three]) c3
  have k1 : sds.filter (fit g ((three z g).getD 0 (0, 0, 0)) ((three z g).getD 1 (0, 0, 0))) = sds := by
    rw [List.filter_eq_self]
    exact fun s hs => fit1 z g (sds_ok s hs)
  have k2 : sds.filter (fit g ((three z g).getD 0 (0, 0, 0)) ((three z g).getD 2 (0, 0, 0))) = [] := by
    rw [List.filter_eq_nil_iff]
    intro s hs
    have := fit2 z g s
    simp [three, this]
  rw [k1] at hw1
  rw [k2] at hw2
  have hat : fIx (due g (three z g)) (.int 0) = .ok (.sh (.tuple [.int 1])) := by
    have := due_at (g := g) (bs := three z g) (i := 0) (by simp [three])
    rw [show (three z g).getD 0 (0, 0, 0) = (z, z, z) from rfl, row3 g1] at this
    exact this
  generalize PyData.tuple ((three z g).map encB) = B at f3 hi hw1 hw2
  generalize due g (three z g) = d at hi hat
  have f4 : (sSet (.nm 4) (mTup [m2 fIx (mCall c_into [mVar 3, mVar 6]) (mCst (.int 0)), mB fLen [mCall c_ways_into [mVar 3, mVar 6, mCst (.int 0), mCst (.int 1)]], mCall c_ways_into [mVar 3, mVar 6, mCst (.int 0), mCst (.int 2)]])) ⟨[.sh S, .cup, X, .sh B, .un, .sh (.int z), .sh (.int g)], c3⟩ = .ok (.nx, ⟨[.sh S, .cup, X, .sh B, .sh (.tuple [.tuple [.int 1], .int 6, .tuple []]), .sh (.int z), .sh (.int g)], c3⟩) := by
    have v1 : (m2 fIx (mCall c_into [mVar 3, mVar 6]) (mCst (.int 0))) ⟨[.sh S, .cup, X, .sh B, .un, .sh (.int z), .sh (.int g)], c3⟩ = .ok (.sh (.tuple [.int 1]), ⟨[.sh S, .cup, X, .sh B, .un, .sh (.int z), .sh (.int g)], c3⟩) := x_m2 (w_call rfl rfl hi) rfl rfl rfl hat
    have v2 : (mB fLen [mCall c_ways_into [mVar 3, mVar 6, mCst (.int 0), mCst (.int 1)]]) ⟨[.sh S, .cup, X, .sh B, .un, .sh (.int z), .sh (.int g)], c3⟩ = .ok (.sh (.int 6), ⟨[.sh S, .cup, X, .sh B, .un, .sh (.int z), .sh (.int g)], c3⟩) := x_mB (w_call rfl rfl hw1) rfl rfl
    have v3 : (mCall c_ways_into [mVar 3, mVar 6, mCst (.int 0), mCst (.int 2)]) ⟨[.sh S, .cup, X, .sh B, .un, .sh (.int z), .sh (.int g)], c3⟩ = .ok (.sh (.tuple []), ⟨[.sh S, .cup, X, .sh B, .un, .sh (.int z), .sh (.int g)], c3⟩) := w_call rfl rfl hw2
    refine x_set (r := .sh (.tuple [.tuple [.int 1], .int 6, .tuple []])) (s1 := ⟨[.sh S, .cup, X, .sh B, .un, .sh (.int z), .sh (.int g)], c3⟩) ?_ rfl
    rw [mTup_e, mL_cons, v1]
    simp only [Res.bind_ok]
    rw [mL_cons, v2]
    simp only [Res.bind_ok]
    rw [mL_cons, v3]
    rfl
  exact ⟨false, c3, x_run (x_seq f0 (x_seq (x_for (rng1_c 5 (by decide)) f1) (x_seq f2 (x_seq f3 (x_seq f4 (x_ret (x_vandT (x_m2 rfl rfl rfl rfl (fEq_self rfl)) rfl (w_call rfl rfl (odds c3))) rfl))))))⟩
end Yd86

open PySem PySem.W PyProof.Rows
set_option maxHeartbeats 0
theorem PySem.Challenge.cw_carpentersyard_k86_whole_boxes_that_go_i_holds : PySem.Challenge.rw_carpentersyard_k86_whole_boxes_that_go_i.Holds := by
  w_on; o_law; k_head; (case hw => w_witness2)
  k_fill
  refine Yd.g_walk (l := PySem.Challenge.rw_carpentersyard_k86_whole_boxes_that_go_i) (n := 63) (k := 7) (x := "script") (cal := Yd86.c_law) rfl (by decide) rfl ⟨rfl, by decide, by decide⟩ rfl (fun w h Y => PySem.W.kIn_of Y) ?F Yd86.law_ok
  case F =>
    intro w mg fa h KX G hmg
    refine' Yd86.all_mk rfl KX G hmg ?a0 ?l0 ?c0 ?k0 ?a1 ?l1 ?c1 ?k1 ?a2 ?l2 ?c2 ?k2 ?a3 ?l3 ?c3 ?k3 ?a4 ?l4 ?c4 ?k4 ?a5 ?l5 ?c5 ?k5 ?a6 ?l6 ?c6 ?k6 ?a7 ?l7 ?c7 ?k7 ?a8 ?l8 ?c8 ?k8 ?a9 ?l9 ?c9 ?k9 ?a10 ?l10 ?c10 ?k10 ?a11 ?l11 ?c11 ?k11 ?a12 ?l12 ?c12 ?k12 ?a13 ?l13 ?c13 ?k13 ?a14 ?l14 ?c14 ?k14 ?a15 ?l15 ?c15 ?k15 ?a16 ?l16 ?c16 ?k16 ?a17 ?l17 ?c17 ?k17 ?a18 ?l18 ?c18 ?k18 ?a19 ?l19 ?c19 ?k19 ?a20 ?l20 ?c20 ?k20 ?a21 ?l21 ?c21 ?k21 ?z0 ?z1 ?z2 ?z3 ?z4 ?z5 ?z6 ?z7 ?z8 ?z9 ?z10 ?z11 ?z12 ?q0 ?q1 ?q2 ?r2_0 ?r2_1 ?r2_5 ?r2_9 ?r2_13 ?r2_17 ?r2_21 ?q3
    (case a0 => k_is); (case l0 => k_is); (case c0 => k_is); (case k0 => k_is); (case a1 => k_is); (case l1 => k_is); (case c1 => k_is); (case k1 => k_is); (case a2 => k_is); (case l2 => k_is); (case c2 => k_is); (case k2 => k_is); (case a3 => k_is); (case l3 => k_is); (case c3 => k_is); (case k3 => k_is); (case a4 => k_is); (case l4 => k_is); (case c4 => k_is); (case k4 => k_is); (case a5 => k_is); (case l5 => k_is); (case c5 => k_is); (case k5 => k_is); (case a6 => k_is); (case l6 => k_is); (case c6 => k_is); (case k6 => k_is); (case a7 => k_is); (case l7 => k_is); (case c7 => k_is); (case k7 => k_is); (case a8 => k_is); (case l8 => k_is); (case c8 => k_is); (case k8 => k_is); (case a9 => k_is); (case l9 => k_is); (case c9 => k_is); (case k9 => k_is); (case a10 => k_is); (case l10 => k_is); (case c10 => k_is); (case k10 => k_is); (case a11 => k_is); (case l11 => k_is); (case c11 => k_is); (case k11 => k_is); (case a12 => k_is); (case l12 => k_is); (case c12 => k_is); (case k12 => k_is); (case a13 => k_is); (case l13 => k_is); (case c13 => k_is); (case k13 => k_is); (case a14 => k_is); (case l14 => k_is); (case c14 => k_is); (case k14 => k_is); (case a15 => k_is); (case l15 => k_is); (case c15 => k_is); (case k15 => k_is); (case a16 => k_is); (case l16 => k_is); (case c16 => k_is); (case k16 => k_is); (case a17 => k_is); (case l17 => k_is); (case c17 => k_is); (case k17 => k_is); (case a18 => k_is); (case l18 => k_is); (case c18 => k_is); (case k18 => k_is); (case a19 => k_is); (case l19 => k_is); (case c19 => k_is); (case k19 => k_is); (case a20 => k_is); (case l20 => k_is); (case c20 => k_is); (case k20 => k_is); (case a21 => k_is); (case l21 => k_is); (case c21 => k_is); (case k21 => k_is); (case z0 => k_is); (case z1 => k_is); (case z2 => k_is); (case z3 => k_is); (case z4 => k_is); (case z5 => k_is); (case z6 => k_is); (case z7 => k_is); (case z8 => k_is); (case z9 => k_is); (case z10 => k_is); (case z11 => k_is); (case z12 => k_is); (case q0 => k_is); (case q1 => k_is); (case q2 => k_is); (case r2_0 => k_is); (case r2_1 => k_is); (case r2_5 => k_is); (case r2_9 => k_is); (case r2_13 => k_is); (case r2_17 => k_is); (case r2_21 => k_is); (case q3 => k_is)
