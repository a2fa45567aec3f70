import PyProof.Rows.All
import Wide.All
import OpenK.AllK
import Wide.FinOn
import HandS.ForExc
import HandS.ForMost
import HandS.IsInst
import HandS.SortKw
import HandS.SetKeys
import HandS.DictComp
import HandS.Conv
import HandS.Deep
import HandS.TupAny
import HandS.TupMul
import HandS.Zip
import HandS.Lambda
import HandS.TupLe
import KE.GoesEnum
import KE.GoesMore
import HandS.Iter
import HandS.Style
import HandS.Text
import HandS.EndTab
import HandS.HeadWalk
import HandS.Defaults
import HandS.HeadHook2
import HandS.SetFor
import HandS.Strs
import HandS.SetTxt0
import KE.KDictPairs
import HandS.More
import HandS.HeadHook3
import KE.SortKeyHeap
import HandS.HeadHook4
import HandS.Head0
import HandS.Head1
import HandS.Head2
import HandS.HeadEnd
import PySem.Challenge.RW_shapehall_k04_which_shapes_read
set_option Elab.async false
set_option linter.all false
set_option maxRecDepth 100000
set_option maxHeartbeats 0
namespace SH
open PySem L2

/-- a value as plain data; ref n: the n-th object of the store (the mutable ones); scr: the script -/
inductive D where
  | non | bl (b : Bool) | int (i : Int) | str (s : Str)
  | tup (l : List D) | lst (l : List D) | dic (ks : List Key) (vs : List D) | ref (n : Nat) | scr (ns : List Int)
  deriving Inhabited
inductive O where
  | lst (l : List D)
  /-- a table of code objects, of lambdas of the name q, at P -/
  | tab (q : Str) (P : Addr)
abbrev Store := List O
inductive R (α : Type) where
  | ok (a : α) (st : Store)
  | exc (c : Nat) (fs : List D) (st : Store)
  | bad
abbrev Env := List (Option D)
abbrev EM := Env → Store → R D
abbrev LM := Env → Store → R (List D)
/-- the defs, by number -/
abbrev Ft := Nat → List D → Store → R D
def R.bind {α β : Type} (r : R α) (k : α → Store → R β) : R β := match r with
  | .ok a st => k a st
  | .exc c fs st => .exc c fs st
  | .bad => .bad
@[simp] theorem R.bind_ok {α β : Type} (a : α) (st : Store) (k : α → Store → R β) : (R.ok a st).bind k = k a st := rfl
@[simp] theorem R.bind_bad {α β : Type} (k : α → Store → R β) : (R.bad : R α).bind k = .bad := rfl
theorem R.bind_eq {α β : Type} {r : R α} {k : α → Store → R β} {b : β} {st' : Store} (h : r.bind k = .ok b st') : ∃ a st, r = .ok a st ∧ k a st = .ok b st' := by
  cases r with
  | ok a st => exact ⟨a, st, rfl, h⟩
  | exc c fs st => cases h
  | bad => cases h

def mVar (i : Nat) : EM := fun ρ st => match ρ[i]? with
  | some (some d) => .ok d st
  | _ => .bad
def mLit (d : D) : EM := fun _ st => .ok d st
def mArgs : List EM → LM
  | [], _, st => .ok [] st
  | e :: r, ρ, st => (e ρ st).bind fun d st1 => (mArgs r ρ st1).bind fun ds st2 => .ok (d :: ds) st2
def mTup (es : List EM) : EM := fun ρ st => (mArgs es ρ st).bind fun ds st1 => .ok (.tup ds) st1
def mLst (es : List EM) : EM := fun ρ st => (mArgs es ρ st).bind fun ds st1 => .ok (.lst ds) st1
/-- a new object of the store -/
def mNew (es : List EM) : EM := fun ρ st => (mArgs es ρ st).bind fun ds st1 => .ok (.ref st1.length) (st1 ++ [.lst ds])
def liftO (o : Option D) (st : Store) : R D := match o with
  | some d => .ok d st
  | none => .bad
@[simp] theorem liftO_some (d : D) (st : Store) : liftO (some d) st = .ok d st := rfl
@[simp] theorem liftO_none (st : Store) : liftO none st = .bad := rfl
theorem liftO_ok {o : Option D} {st st' : Store} {d : D} (h : liftO o st = .ok d st') : o = some d ∧ st' = st := by
  cases o with
  | none => cases h
  | some x => cases h; exact ⟨rfl, rfl⟩
def mOp2 (f : Store → D → D → Option D) (a b : EM) : EM := fun ρ st => (a ρ st).bind fun x st1 => (b ρ st1).bind fun y st2 => liftO (f st2 x y) st2
def mOp1 (f : Store → D → Option D) (a : EM) : EM := fun ρ st => (a ρ st).bind fun x st1 => liftO (f st1 x) st1
def mBlt (f : Store → List D → Option D) (es : List EM) : EM := fun ρ st => (mArgs es ρ st).bind fun ds st1 => liftO (f st1 ds) st1
/-- a test's two ways -/
def onB {α : Type} (x : D) (t e : R α) : R α := match x with
  | .bl true => t
  | .bl false => e
  | _ => .bad
@[simp] theorem onB_true {α : Type} (t e : R α) : onB (.bl true) t e = t := rfl
@[simp] theorem onB_false {α : Type} (t e : R α) : onB (.bl false) t e = e := rfl
theorem onB_bl {α : Type} (b : Bool) (t e : R α) : onB (.bl b) t e = if b = true then t else e := by cases b <;> rfl
def mAnd (a b : EM) : EM := fun ρ st => (a ρ st).bind fun x st1 => onB x (b ρ st1) (.ok (.bl false) st1)
def mOr (a b : EM) : EM := fun ρ st => (a ρ st).bind fun x st1 => onB x (.ok (.bl true) st1) (b ρ st1)
def mIte (c a b : EM) : EM := fun ρ st => (c ρ st).bind fun x st1 => onB x (a ρ st1) (b ρ st1)
def mCall (F : Ft) (i : Nat) (es : List EM) : EM := fun ρ st => (mArgs es ρ st).bind fun ds st1 => F i ds st1
/-- a op b op' c: b once -/
def mChain (f g : Store → D → D → Option D) (a b c : EM) : EM := fun ρ st => (a ρ st).bind fun x st1 => (b ρ st1).bind fun y st2 => (liftO (f st2 x y) st2).bind fun t st3 =>
  onB t ((c ρ st3).bind fun z st4 => liftO (g st4 y z) st4) (.ok (.bl false) st3)
def mChain3 (f g h : Store → D → D → Option D) (a b c d : EM) : EM := fun ρ st => (a ρ st).bind fun x st1 => (b ρ st1).bind fun y st2 => (liftO (f st2 x y) st2).bind fun t st3 =>
  onB t ((c ρ st3).bind fun z st4 => (liftO (g st4 y z) st4).bind fun u st5 => onB u ((d ρ st5).bind fun w st6 => liftO (h st6 z w) st6) (.ok (.bl false) st5)) (.ok (.bl false) st3)

inductive Tg where
  | nm (i : Nat) | tup (l : List Tg)
mutual
def Tg.set : Tg → D → Env → Option Env
  | .nm i, d, ρ => some (ρ.set i (some d))
  | .tup l, d, ρ => match d with
    | .tup ds => Tg.sets l ds ρ
    | _ => none
def Tg.sets : List Tg → List D → Env → Option Env
  | [], [], ρ => some ρ
  | t :: ts, d :: ds, ρ => match Tg.set t d ρ with
    | some ρ1 => Tg.sets ts ds ρ1
    | none => none
  | _, _, _ => none
end
def wipeE (ρ : Env) : List Nat → Env
  | [] => ρ
  | v :: vs => (wipeE ρ vs).set v none
def onO {α β : Type} (o : Option α) (k : α → R β) : R β := match o with
  | some a => k a
  | none => .bad
@[simp] theorem onO_some {α β : Type} (a : α) (k : α → R β) : onO (some a) k = k a := rfl
@[simp] theorem onO_none {α β : Type} (k : α → R β) : onO (none : Option α) k = .bad := rfl
def compGo (elt : EM) (tg : Tg) (cond : EM) (ρ : Env) : List D → Store → R (List D)
  | [], st => .ok [] st
  | x :: r, st => onO (tg.set x ρ) fun ρ1 => (cond ρ1 st).bind fun c st1 =>
      onB c ((elt ρ1 st1).bind fun d st2 => (compGo elt tg cond ρ r st2).bind fun ds st3 => .ok (d :: ds) st3) (compGo elt tg cond ρ r st1)
def mComp (elt : EM) (tg : Tg) (it : LM) (cond : EM) (vs : List Nat) : EM := fun ρ st => (it ρ st).bind fun l st1 => (compGo elt tg cond (wipeE ρ vs) l st1).bind fun ds st2 => .ok (.lst ds) st2

inductive Fl where
  | next | ret (d : D)
abbrev SM := Env → Store → R (Fl × Env)
def mSkip : SM := fun ρ st => .ok (.next, ρ) st
def mSeq (a b : SM) : SM := fun ρ st => (a ρ st).bind fun p st1 => match p with
  | (.next, ρ1) => b ρ1 st1
  | (.ret d, ρ1) => .ok (.ret d, ρ1) st1
def mRet (e : EM) : SM := fun ρ st => (e ρ st).bind fun d st1 => .ok (.ret d, ρ) st1
def mIf (c : EM) (a b : SM) : SM := fun ρ st => (c ρ st).bind fun x st1 => onB x (a ρ st1) (b ρ st1)
def mAsg (tg : Tg) (e : EM) : SM := fun ρ st => (e ρ st).bind fun d st1 => onO (tg.set d ρ) fun ρ1 => .ok (.next, ρ1) st1
def D.isObj : D → Bool
  | .lst _ => true
  | .dic _ _ => true
  | _ => false
/-- an owned slot takes a new list or dict -/
def mOwn (i : Nat) (e : EM) : SM := fun ρ st => (e ρ st).bind fun d st1 => if d.isObj = true then .ok (.next, ρ.set i (some d)) st1 else .bad
def mPar (i j : Nat) (a b : EM) : SM := fun ρ st => (mArgs [a, b] ρ st).bind fun ds st1 => match ds with
  | [x, y] => .ok (.next, (ρ.set i (some x)).set j (some y)) st1
  | _ => .bad
def mExpr (e : EM) : SM := fun ρ st => (e ρ st).bind fun _ st1 => .ok (.next, ρ) st1
def forGo (tg : Tg) (body : SM) : List D → Env → Store → R (Fl × Env)
  | [], ρ, st => .ok (.next, ρ) st
  | x :: r, ρ, st => onO (tg.set x ρ) fun ρ1 => (body ρ1 st).bind fun p st1 => match p with
    | (.next, ρ2) => forGo tg body r ρ2 st1
    | (.ret d, ρ2) => .ok (.ret d, ρ2) st1
def mFor (tg : Tg) (it : LM) (body : SM) : SM := fun ρ st => (it ρ st).bind fun l st1 => forGo tg body l ρ st1
/-- x.append(e), x an owned slot -/
def mApp (i : Nat) (e : EM) : SM := fun ρ st => match ρ[i]? with
  | some (some (.lst l)) => (e ρ st).bind fun d st1 => if l.length < sizeLine then .ok (.next, ρ.set i (some (.lst (l ++ [d])))) st1 else .bad
  | _ => .bad
def ixN' (n : Nat) (i : Int) : Option Nat := L2.ixN n i
def hasK (k : Key) (ks : List Key) : Bool := ks.any fun x => decide (x = k)
/-- d[k] = v -/
def dicPut (ks : List Key) (ds : List D) (k : Key) (d : D) : D :=
  if hasK k ks = true then .dic ks ((ks.zip ds).map fun p => if p.1 = k then d else p.2) else .dic (ks ++ [k]) (ds ++ [d])
/-- x[e] = v, x an owned slot: the value, then the place -/
def mSetO (i : Nat) (e v : EM) : SM := fun ρ st => (v ρ st).bind fun d st1 => match ρ[i]? with
  | some (some (.lst l)) => (e ρ st1).bind fun k st2 => (match k with
    | .int z => onO (L2.ixN l.length z) fun j => .ok (.next, ρ.set i (some (.lst (l.set j d)))) st2
    | _ => .bad)
  | some (some (.dic ks ds)) => (e ρ st1).bind fun k st2 => (match k with
    | .str s => if ks.length < sizeLine then .ok (.next, ρ.set i (some (dicPut ks ds (.inr s) d))) st2 else .bad
    | _ => .bad)
  | _ => .bad
/-- x[e] = v, x a slot that holds an object of the store -/
def mSetS (i : Nat) (e v : EM) : SM := fun ρ st => (v ρ st).bind fun d st1 => match ρ[i]? with
  | some (some (.ref n)) => (e ρ st1).bind fun k st2 => (match k, st2[n]? with
    | .int z, some (.lst l) => onO (L2.ixN l.length z) fun j => .ok (.next, ρ) (st2.set n (.lst (l.set j d)))
    | _, _ => .bad)
  | _ => .bad

structure FnDef where
  ps : Nat
  slots : Nat
  fresh : Bool
  body : Ft → SM
def startE (slots : Nat) (ds : List D) : Env := ds.map some ++ List.replicate (slots - ds.length) none
def finish (r : R (Fl × Env)) : R D := r.bind fun p st => match p with
  | (.next, _) => .ok .non st
  | (.ret d, _) => .ok d st
def runFn (fn : FnDef) (F : Ft) (ds : List D) (st : Store) : R D :=
  if ds.length = fn.ps then finish (fn.body F (startE fn.slots ds) st) else .bad
def callT (T : List FnDef) : Nat → Ft
  | 0 => fun _ _ _ => .bad
  | n + 1 => fun i ds st => match T[i]? with
    | some fn => runFn fn (callT T n) ds st
    | none => .bad
theorem callT_succ {T : List FnDef} {n i : Nat} {fn : FnDef} (h : T[i]? = some fn) (ds : List D) (st : Store) : callT T (n + 1) i ds st = runFn fn (callT T n) ds st := by
  show (match T[i]? with
    | some fn => runFn fn (callT T n) ds st
    | none => .bad) = _
  rw [h]
end SH

namespace SH
open PySem L2

abbrev Frag := PySem.W.Frag
def StrOk (s : Str) : Prop := PyData.strOk s = true ∧ s.length ≤ sizeLine
def KLst (K : Frag) (a : Addr) (vs : List V) : Prop :=
  ∃ (o : Obj) (its : Array Value) (n : Nat), K.lookup a = some o ∧ o.cls = .type "list" ∧ o.dict = none ∧ o.data = .seq its n ∧ its.size ≤ sizeLine ∧ Vals vs its.toList
/-- f: where the store's objects stand; Z: addresses that no frozen value may use -/
def TupAt (K : Frag) (f : List Addr) (Z : Addr → Prop) (H : Hp) (a : Addr) (vs : List V) : Prop := ∃ o : Obj, H a = some (.frz o (.tup vs)) ∧ o.dict = none ∧ a ∉ f ∧ ¬ Z a ∧ vs.length ≤ sizeLine
def LstAt (f : List Addr) (Z : Addr → Prop) (H : Hp) (a : Addr) (vs : List V) : Prop := H a = some (.lst vs) ∧ a ∉ f ∧ ¬ Z a ∧ vs.length ≤ sizeLine
def DicAt (f : List Addr) (Z : Addr → Prop) (H : Hp) (a : Addr) (kvs : List (Key × V)) : Prop := H a = some (.dK kvs) ∧ a ∉ f ∧ ¬ Z a ∧ kvs.length ≤ sizeLine
def ScrAt (K : Frag) (f : List Addr) (Z : Addr → Prop) (H : Hp) (a : Addr) (ns : List Int) : Prop := ((∃ u, H a = some u ∧ (u = .lst (ns.map V.int) ∨ ∃ o, u = .frz o (.lst (ns.map V.int)))) ∧ a ∉ f ∧ ¬ Z a) ∨ KLst K a (ns.map V.int)
def KeysOk (ks : List Key) : Prop := ∀ s, Sum.inr s ∈ ks → StrOk s
abbrev noZ : Addr → Prop := fun _ => False
mutual
inductive Rp (K : Frag) (f : List Addr) (Z : Addr → Prop) (H : Hp) : D → V → Prop
  | non : Rp K f Z H .non .non
  | bl (b : Bool) : Rp K f Z H (.bl b) (.bl b)
  | int (i : Int) : Rp K f Z H (.int i) (.int i)
  | str (s : Str) : StrOk s → Rp K f Z H (.str s) (.str s)
  | tup {a : Addr} {ds : List D} {vs : List V} : TupAt K f Z H a vs → Rps K f Z H ds vs → Rp K f Z H (.tup ds) (.ref a)
  | lst {a : Addr} {ds : List D} {vs : List V} : LstAt f Z H a vs → Rps K f Z H ds vs → Rp K f Z H (.lst ds) (.ref a)
  | dic {a : Addr} {ks : List Key} {ds : List D} {vs : List V} : DicAt f Z H a (ks.zip vs) → Rps K f Z H ds vs → ks.length = ds.length → KeysOk ks → Rp K f Z H (.dic ks ds) (.ref a)
  | ref {a : Addr} {n : Nat} : f[n]? = some a → Rp K f Z H (.ref n) (.ref a)
  | scr {a : Addr} {ns : List Int} : ScrAt K f Z H a ns → ns.length ≤ 63 → Rp K f Z H (.scr ns) (.ref a)
inductive Rps (K : Frag) (f : List Addr) (Z : Addr → Prop) (H : Hp) : List D → List V → Prop
  | nil : Rps K f Z H [] []
  | cons {d : D} {ds : List D} {v : V} {vs : List V} : Rp K f Z H d v → Rps K f Z H ds vs → Rps K f Z H (d :: ds) (v :: vs)
end
/-- the top may be one of Z -/
inductive Tp (K : Frag) (f : List Addr) (Z : Addr → Prop) (H : Hp) : D → V → Prop
  | rp {d : D} {v : V} : Rp K f Z H d v → Tp K f Z H d v
  | lst {a : Addr} {ds : List D} {vs : List V} : LstAt f noZ H a vs → Rps K f Z H ds vs → Tp K f Z H (.lst ds) (.ref a)
  | dic {a : Addr} {ks : List Key} {ds : List D} {vs : List V} : DicAt f noZ H a (ks.zip vs) → Rps K f Z H ds vs → ks.length = ds.length → KeysOk ks → Tp K f Z H (.dic ks ds) (.ref a)

section
variable {K : Frag} {f f' f'' : List Addr} {Z Z' Z'' : Addr → Prop} {H H' H'' : Hp}
/-- what lies outside f and Z is kept, and stays outside -/
structure Frm (f : List Addr) (Z : Addr → Prop) (H : Hp) (f' : List Addr) (Z' : Addr → Prop) (H' : Hp) : Prop where
  keep : ∀ b o, H b = some o → b ∉ f → ¬ Z b → H' b = some o ∧ b ∉ f' ∧ ¬ Z' b
  pre : ∃ g, f' = f ++ g
theorem Frm.refl : Frm f Z H f Z H := ⟨fun _ _ e h1 h2 => ⟨e, h1, h2⟩, [], by simp⟩
theorem Frm.trans (a : Frm f Z H f' Z' H') (b : Frm f' Z' H' f'' Z'' H'') : Frm f Z H f'' Z'' H'' := by
  refine ⟨fun c o e h1 h2 => ?_, ?_⟩
  · obtain ⟨e1, n1, z1⟩ := a.keep c o e h1 h2
    exact b.keep c o e1 n1 z1
  · obtain ⟨g, rfl⟩ := a.pre
    obtain ⟨g', rfl⟩ := b.pre
    exact ⟨g ++ g', by simp⟩
theorem Frm.at_ (F : Frm f Z H f' Z' H') {n : Nat} {a : Addr} (h : f[n]? = some a) : f'[n]? = some a := by
  obtain ⟨g, rfl⟩ := F.pre
  rw [List.getElem?_append_left (List.getElem?_eq_some_iff.mp h).1]
  exact h
theorem TupAt.frm {a : Addr} {vs : List V} (F : Frm f Z H f' Z' H') (h : TupAt K f Z H a vs) : TupAt K f' Z' H' a vs := by
  obtain ⟨o, e, d, n, z, l⟩ := h
  obtain ⟨e1, n1, z1⟩ := F.keep a _ e n z
  exact ⟨o, e1, d, n1, z1, l⟩
theorem LstAt.frm {a : Addr} {vs : List V} (F : Frm f Z H f' Z' H') (h : LstAt f Z H a vs) : LstAt f' Z' H' a vs := by
  obtain ⟨e, n, z, l⟩ := h
  obtain ⟨e1, n1, z1⟩ := F.keep a _ e n z
  exact ⟨e1, n1, z1, l⟩
theorem DicAt.frm {a : Addr} {kvs : List (Key × V)} (F : Frm f Z H f' Z' H') (h : DicAt f Z H a kvs) : DicAt f' Z' H' a kvs := by
  obtain ⟨e, n, z, l⟩ := h
  obtain ⟨e1, n1, z1⟩ := F.keep a _ e n z
  exact ⟨e1, n1, z1, l⟩
theorem ScrAt.frm {a : Addr} {ns : List Int} (F : Frm f Z H f' Z' H') (h : ScrAt K f Z H a ns) : ScrAt K f' Z' H' a ns := by
  rcases h with ⟨⟨u, e, hu⟩, n, z⟩ | h
  · obtain ⟨e1, n1, z1⟩ := F.keep a _ e n z
    exact .inl ⟨⟨u, e1, hu⟩, n1, z1⟩
  · exact .inr h
mutual
theorem Rp.frm (F : Frm f Z H f' Z' H') : ∀ {d : D} {v : V}, Rp K f Z H d v → Rp K f' Z' H' d v
  | _, _, .non => .non
  | _, _, .bl b => .bl b
  | _, _, .int i => .int i
  | _, _, .str s h => .str s h
  | _, _, .tup h r => .tup (h.frm F) (Rps.frm F r)
  | _, _, .lst h r => .lst (h.frm F) (Rps.frm F r)
  | _, _, .dic h r l k => .dic (h.frm F) (Rps.frm F r) l k
  | _, _, .ref h => .ref (F.at_ h)
  | _, _, .scr h l => .scr (h.frm F) l
theorem Rps.frm (F : Frm f Z H f' Z' H') : ∀ {ds : List D} {vs : List V}, Rps K f Z H ds vs → Rps K f' Z' H' ds vs
  | _, _, .nil => .nil
  | _, _, .cons h r => .cons (Rp.frm F h) (Rps.frm F r)
end
theorem Rps.length : ∀ {ds : List D} {vs : List V}, Rps K f Z H ds vs → ds.length = vs.length
  | _, _, .nil => rfl
  | _, _, .cons _ r => by simp [r.length]
theorem Rps.get : ∀ {ds : List D} {vs : List V} {i : Nat} {d : D}, Rps K f Z H ds vs → ds[i]? = some d → ∃ v, vs[i]? = some v ∧ Rp K f Z H d v
  | _, _, _, _, .nil, h => by simp at h
  | _, _, 0, _, .cons h _, e => by simp at e; subst e; exact ⟨_, rfl, h⟩
  | _, _, i + 1, d, .cons _ r, e => by
    obtain ⟨v, h1, h2⟩ := Rps.get (i := i) (d := d) r (by simpa using e)
    exact ⟨v, by simpa using h1, h2⟩
theorem Rps.getV : ∀ {ds : List D} {vs : List V} {i : Nat} {v : V}, Rps K f Z H ds vs → vs[i]? = some v → ∃ d, ds[i]? = some d ∧ Rp K f Z H d v
  | _, _, _, _, .nil, h => by simp at h
  | _, _, 0, _, .cons h _, e => by simp at e; subst e; exact ⟨_, rfl, h⟩
  | _, _, i + 1, d, .cons _ r, e => by
    obtain ⟨v, h1, h2⟩ := Rps.getV (i := i) (v := d) r (by simpa using e)
    exact ⟨v, by simpa using h1, h2⟩
theorem Rps.append : ∀ {ds es : List D} {vs ws : List V}, Rps K f Z H ds vs → Rps K f Z H es ws → Rps K f Z H (ds ++ es) (vs ++ ws)
  | _, _, _, _, .nil, s => s
  | _, _, _, _, .cons h r, s => .cons h (r.append s)
theorem Rps.snoc {ds : List D} {vs : List V} {d : D} {v : V} (r : Rps K f Z H ds vs) (h : Rp K f Z H d v) : Rps K f Z H (ds ++ [d]) (vs ++ [v]) := r.append (.cons h .nil)
theorem Rps.set : ∀ {ds : List D} {vs : List V} {d : D} {v : V} (i : Nat), Rps K f Z H ds vs → Rp K f Z H d v → Rps K f Z H (ds.set i d) (vs.set i v)
  | _, _, _, _, _, .nil, _ => .nil
  | _, _, _, _, 0, .cons _ r, h => .cons h r
  | _, _, _, _, i + 1, .cons g r, h => .cons g (r.set i h)
theorem Rps.take : ∀ {ds : List D} {vs : List V} (n : Nat), Rps K f Z H ds vs → Rps K f Z H (ds.take n) (vs.take n)
  | _, _, 0, _ => .nil
  | _, _, _ + 1, .nil => .nil
  | _, _, n + 1, .cons h r => .cons h (r.take n)
theorem Rps.drop : ∀ {ds : List D} {vs : List V} (n : Nat), Rps K f Z H ds vs → Rps K f Z H (ds.drop n) (vs.drop n)
  | _, _, 0, r => r
  | _, _, _ + 1, .nil => .nil
  | _, _, n + 1, .cons _ r => r.drop n
theorem Rps.strs : ∀ {ss : List Str} {vs : List V}, Rps K f Z H (ss.map D.str) vs → vs = ss.map V.str
  | [], _, .nil => rfl
  | s :: ss, _, .cons h r => by
    cases h
    rw [Rps.strs r]
    rfl
theorem Rps.ints : ∀ {ns : List Int} {vs : List V}, Rps K f Z H (ns.map D.int) vs → vs = ns.map V.int
  | [], _, .nil => rfl
  | s :: ss, _, .cons h r => by
    cases h
    rw [Rps.ints r]
    rfl
theorem Rps.bls : ∀ {ns : List Bool} {vs : List V}, Rps K f Z H (ns.map D.bl) vs → vs = ns.map V.bl
  | [], _, .nil => rfl
  | s :: ss, _, .cons h r => by
    cases h
    rw [Rps.bls r]
    rfl
theorem Rps.of_strs : ∀ {ss : List Str}, (∀ s ∈ ss, StrOk s) → Rps K f Z H (ss.map D.str) (ss.map V.str)
  | [], _ => .nil
  | s :: ss, h => .cons (.str s (h s List.mem_cons_self)) (Rps.of_strs fun t ht => h t (List.mem_cons_of_mem _ ht))
theorem Rps.strs_ok : ∀ {ss : List Str} {vs : List V}, Rps K f Z H (ss.map D.str) vs → ∀ s ∈ ss, StrOk s
  | [], _, _, s, h => by cases h
  | s :: ss, _, .cons h r, t, ht => by
    cases h with
    | str _ ok =>
      rcases List.mem_cons.mp ht with rfl | ht
      · exact ok
      · exact Rps.strs_ok r t ht
theorem Rps.of_ints : ∀ {ss : List Int}, Rps K f Z H (ss.map D.int) (ss.map V.int)
  | [] => .nil
  | s :: ss => .cons (.int s) Rps.of_ints

theorem TupAt.len {a : Addr} {vs : List V} (h : TupAt K f Z H a vs) : vs.length ≤ sizeLine := h.elim fun _ q => q.2.2.2.2
theorem TupAt.sq {a : Addr} {vs : List V} (h : TupAt K f Z H a vs) : SqT K H a vs := h.elim fun o q => .inl (.inr ⟨o, q.1⟩)
theorem LstAt.sq {a : Addr} {vs : List V} (h : LstAt f Z H a vs) : SqL K H a vs := .inl (.inl h.1)
theorem ScrAt.sq {a : Addr} {ns : List Int} (h : ScrAt K f Z H a ns) : SqL K H a (ns.map V.int) := by
  rcases h with ⟨⟨u, e, hu⟩, _⟩ | h
  · rcases hu with rfl | ⟨o, rfl⟩
    · exact .inl (.inl e)
    · exact .inl (.inr ⟨o, e⟩)
  · exact .inr h

structure Ext (f : List Addr) (H : Hp) (f' : List Addr) (H' : Hp) : Prop where
  keep : ∀ b o, H b = some o → b ∉ f → H' b = some o
  pre : ∃ g, f' = f ++ g ∧ ∀ a ∈ g, H a = none
  live : ∀ a ∈ f', H' a ≠ none
theorem Ext.refl (h : ∀ a ∈ f, H a ≠ none) : Ext f H f H := ⟨fun _ _ e _ => e, ⟨[], by simp⟩, h⟩
theorem Ext.trans (x : Ext f H f' H') (y : Ext f' H' f'' H'') : Ext f H f'' H'' := by
  obtain ⟨g, rfl, hg⟩ := x.pre
  obtain ⟨g', rfl, hg'⟩ := y.pre
  refine ⟨fun b o e n => y.keep b o (x.keep b o e n) fun hm => ?_, ⟨g ++ g', by simp, fun a ha => ?_⟩, y.live⟩
  · rcases List.mem_append.mp hm with h | h
    · exact n h
    · rw [hg b h] at e; cases e
  · rcases List.mem_append.mp ha with h | h
    · exact hg a h
    · cases e : H a with
      | none => rfl
      | some o =>
        have e1 := hg' a h
        by_cases hf : a ∈ f
        · exact absurd e1 (x.live a (List.mem_append_left _ hf))
        · rw [x.keep a o e hf] at e1; cases e1
theorem Ext.frm (x : Ext f H f' H') : Frm f Z H f' Z H' := by
  obtain ⟨g, rfl, hg⟩ := x.pre
  refine ⟨fun b o e n z => ⟨x.keep b o e n, fun hm => ?_, z⟩, g, rfl⟩
  rcases List.mem_append.mp hm with h | h
  · exact n h
  · rw [hg b h] at e; cases e
theorem Tp.ext {d : D} {v : V} (x : Ext f H f' H') (t : Tp K f Z H d v) : Tp K f' Z H' d v := by
  cases t with
  | rp h => exact .rp (h.frm x.frm)
  | lst h r => exact .lst (h.frm x.frm) (r.frm x.frm)
  | dic h r l k => exact .dic (h.frm x.frm) (r.frm x.frm) l k

def ORel (K : Frag) (f : List Addr) (Z : Addr → Prop) (H : Hp) (o : O) (a : Addr) : Prop := match o with
  | .lst ds => ∃ vs, H a = some (.lst vs) ∧ vs.length ≤ sizeLine ∧ Rps K f Z H ds vs
  | .tab q P => a = P ∧ ∃ ps : Array Value, H a = some (.tbl ps) ∧ TriplesOk ps.toList ∧ ∀ (pos : Pos) (cv : Value), codeAmong pos ps.toList = some cv → ∃ c, cv = .ref c ∧ H c = some (LamX.CodeO c q) ∧ c ∉ f ∧ ¬ Z c
/-- a list or a dict stands there -/
def ObH (o : Option HO) : Prop := match o with
  | some (.lst _) => True
  | some (.dK _) => True
  | _ => False
theorem ObH.ne {o : Option HO} (h : ObH o) : o ≠ none := fun e => by
  rw [e] at h
  exact h
structure StR (K : Frag) (f : List Addr) (Z : Addr → Prop) (H : Hp) (st : Store) : Prop where
  nd : f.Nodup
  len : f.length = st.length
  at_ : ∀ (n : Nat) (o : O) (a : Addr), st[n]? = some o → f[n]? = some a → ORel K f Z H o a
  zt : ∀ a, Z a → a ∉ f ∧ ObH (H a)
theorem ORel.frm {o : O} {a : Addr} (F : Frm f Z H f' Z' H') (hk : H' a = H a) (h : ORel K f Z H o a) : ORel K f' Z' H' o a := by
  cases o with
  | lst ds =>
    obtain ⟨vs, e, l, r⟩ := h
    exact ⟨vs, hk.trans e, l, r.frm F⟩
  | tab q P =>
    obtain ⟨eP, ps, e, t, h⟩ := h
    refine ⟨eP, ps, hk.trans e, t, fun pos cv hc => ?_⟩
    obtain ⟨c, e1, e2, n, z⟩ := h pos cv hc
    obtain ⟨e3, n3, z3⟩ := F.keep c _ e2 n z
    exact ⟨c, e1, e3, n3, z3⟩
theorem StR.live {st : Store} (S : StR K f Z H st) : ∀ a ∈ f, H a ≠ none := fun a ha => by
  obtain ⟨n, hn⟩ := List.getElem?_of_mem ha
  have hl : n < st.length := by rw [← S.len]; exact (List.getElem?_eq_some_iff.mp hn).1
  have h := S.at_ n st[n] a (List.getElem?_eq_getElem hl) hn
  cases e : st[n] with
  | lst ds =>
    rw [e] at h
    obtain ⟨vs, e2, _⟩ := h
    rw [e2]
    exact fun z => nomatch z
  | tab q P =>
    rw [e] at h
    obtain ⟨_, vs, e2, _⟩ := h
    rw [e2]
    exact fun z => nomatch z
/-- all that was tracked is kept -/
theorem StR.same {st : Store} (S : StR K f Z H st) (k : ∀ b o, H b = some o → H' b = some o) : StR K f Z H' st := by
  have F : Frm f Z H f Z H' := ⟨fun b o e n z => ⟨k b o e, n, z⟩, [], by simp⟩
  refine ⟨S.nd, S.len, fun n o a e1 e2 => ?_, fun a z => ⟨(S.zt a z).1, ?_⟩⟩
  · have h := S.at_ n o a e1 e2
    refine h.frm F ?_
    cases e : H a with
    | none => exact absurd e (S.live a (List.mem_of_getElem? e2))
    | some u => exact k a u e
  · have h := (S.zt a z).2
    cases q : H a with
    | none => exact absurd q h.ne
    | some u => rw [k a u q, ← q]; exact h
theorem Ext.same {st : Store} (S : StR K f Z H st) (k : ∀ b o, H b = some o → H' b = some o) : Ext f H f H' :=
  ⟨fun b o e _ => k b o e, ⟨[], by simp⟩, (S.same k).live⟩
theorem keep_new {p : Addr} {o : HO} (hp : H p = none) : ∀ b u, H b = some u → (upd H p o) b = some u := fun b u e => by
  rw [upd_ne (ne_of_none e hp)]; exact e
theorem StR.fresh {st : Store} (S : StR K f Z H st) {p : Addr} (hp : H p = none) : p ∉ f ∧ ¬ Z p :=
  ⟨fun h => S.live p h hp, fun z => (S.zt p z).2.ne hp⟩
/-- a larger Z, of fresh things -/
theorem StR.more {st : Store} (S : StR K f Z H st) {p : Addr} (hp : H p = none) (hq : ObH (H' p)) (k : ∀ b o, H b = some o → H' b = some o) : StR K f (fun a => Z a ∨ a = p) H' st := by
  have F : Frm f Z H f (fun a => Z a ∨ a = p) H' := ⟨fun b o e n z => ⟨k b o e, n, fun q => q.elim z fun q => ne_of_none e hp q⟩, [], by simp⟩
  refine ⟨S.nd, S.len, fun n o a e1 e2 => ?_, fun a z => ?_⟩
  · have h := S.at_ n o a e1 e2
    refine h.frm F ?_
    cases e : H a with
    | none => exact absurd e (S.live a (List.mem_of_getElem? e2))
    | some u => exact k a u e
  · rcases z with z | rfl
    · exact ((S.same k).zt a z)
    · exact ⟨(S.fresh hp).1, hq⟩
theorem Frm.less (h : ∀ a, Z' a → Z a) : Frm f Z H f Z' H := ⟨fun _ _ e n z => ⟨e, n, fun q => z (h _ q)⟩, [], by simp⟩
theorem StR.less {st : Store} (S : StR K f Z H st) (h : ∀ a, Z' a → Z a) : StR K f Z' H st :=
  ⟨S.nd, S.len, fun n o a e1 e2 => (S.at_ n o a e1 e2).frm (Frm.less h) rfl, fun a z => S.zt a (h a z)⟩
theorem Rp.less {d : D} {v : V} (r : Rp K f Z H d v) (h : ∀ a, Z' a → Z a) : Rp K f Z' H d v := r.frm (Frm.less h)
theorem Rps.less {d : List D} {v : List V} (r : Rps K f Z H d v) (h : ∀ a, Z' a → Z a) : Rps K f Z' H d v := r.frm (Frm.less h)

structure ER (K : Frag) (ow : List Nat) (f : List Addr) (Z : Addr → Prop) (H : Hp) (σ : St) (ρ : Env) (st : Store) : Prop where
  st : StR K f Z H st
  len : ρ.length = σ.length
  sl : ∀ (i : Nat) (d : D), ρ[i]? = some (some d) → ∃ v, σ[i]? = some (some v) ∧ Tp K f Z H d v ∧ (i ∉ ow → Rp K f Z H d v)
theorem ER.ext {ow : List Nat} {σ : St} {ρ : Env} {st st' : Store} (E : ER K ow f Z H σ ρ st) (x : Ext f H f' H') (S : StR K f' Z H' st') : ER K ow f' Z H' σ ρ st' :=
  ⟨S, E.len, fun i d e => by
    obtain ⟨v, e1, t, r⟩ := E.sl i d e
    exact ⟨v, e1, t.ext x, fun h => (r h).frm x.frm⟩⟩
theorem ER.self {ow : List Nat} {σ : St} {ρ : Env} {st : Store} (E : ER K ow f Z H σ ρ st) : Ext f H f H := Ext.refl E.st.live
end

/-- T: the top may be an owned object; C: nothing owned; F: if an object, a new one -/
inductive Kd where
  | T | C | F
  deriving DecidableEq
def Post (K : Frag) (k : Kd) (H : Hp) (f' : List Addr) (Z : Addr → Prop) (H' : Hp) (st' : Store) (d : D) (v : V) : Prop := match k with
  | .T => StR K f' Z H' st' ∧ Tp K f' Z H' d v
  | .C => StR K f' Z H' st' ∧ Rp K f' Z H' d v
  | .F => (d.isObj = false → StR K f' Z H' st' ∧ Rp K f' Z H' d v) ∧
      (d.isObj = true → ∃ p, v = .ref p ∧ H p = none ∧ StR K f' (fun a => Z a ∨ a = p) H' st' ∧ Tp K f' (fun a => Z a ∨ a = p) H' d v)
def tEv (K : Frag) (ow : List Nat) (k : Kd) (m : EM) : TE := fun σ H Q => ∃ f Z ρ st, ER K ow f Z H σ ρ st ∧ ∃ d st', m ρ st = .ok d st' ∧
  ∀ f' H' v, Ext f H f' H' → Post K k H f' Z H' st' d v → Q v H'
def tAv (K : Frag) (ow : List Nat) (m : LM) : TA := fun σ H Q => ∃ f Z ρ st, ER K ow f Z H σ ρ st ∧ ∃ ds st', m ρ st = .ok ds st' ∧
  ∀ f' H' vs, Ext f H f' H' → StR K f' Z H' st' → Rps K f' Z H' ds vs → Q vs H'
section
variable {K : Frag} {ow : List Nat} {f f' : List Addr} {Z : Addr → Prop} {H H' : Hp} {st st' : Store} {d : D} {v : V} {X : Cx} {e : Expr} {m : EM}
theorem Tp.mkC (S0 : ∀ p, H p = none → ¬ Z p) {p : Addr} (hv : v = .ref p) (hp : H p = none) (t : Tp K f' (fun a => Z a ∨ a = p) H' d v) : Rp K f' Z H' d v := by
  have less : ∀ a, Z a → (Z a ∨ a = p) := fun _ h => .inl h
  cases t with
  | rp h => exact h.less less
  | lst h r =>
    obtain ⟨e, n, z, l⟩ := h
    cases hv
    exact .lst ⟨e, n, S0 _ hp, l⟩ (r.less less)
  | dic h r l k =>
    obtain ⟨e, n, z, l'⟩ := h
    cases hv
    exact .dic ⟨e, n, S0 _ hp, l'⟩ (r.less less) l k
theorem Post.toC (S0 : ∀ p, H p = none → ¬ Z p) (h : Post K .F H f' Z H' st' d v) : Post K .C H f' Z H' st' d v := by
  cases e : d.isObj with
  | false => exact h.1 e
  | true =>
    obtain ⟨p, hv, hp, S, t⟩ := h.2 e
    exact ⟨S.less fun _ q => .inl q, t.mkC S0 hv hp⟩
theorem Post.toT (h : Post K .C H f' Z H' st' d v) : Post K .T H f' Z H' st' d v := ⟨h.1, .rp h.2⟩
theorem tEv_FC {σ : St} {Q : VK} (h : tEv K ow .C m σ H Q) : tEv K ow .F m σ H Q := by
  obtain ⟨f, Z, ρ, st, E, d, st', e, q⟩ := h
  exact ⟨f, Z, ρ, st, E, d, st', e, fun f' H' v x p => q f' H' v x (p.toC fun p hp => (E.st.fresh hp).2)⟩
theorem tEv_CT {σ : St} {Q : VK} (h : tEv K ow .T m σ H Q) : tEv K ow .C m σ H Q := by
  obtain ⟨f, Z, ρ, st, E, d, st', e, q⟩ := h
  exact ⟨f, Z, ρ, st, E, d, st', e, fun f' H' v x p => q f' H' v x p.toT⟩
theorem pe_weak {t t' : TE} (h : PE X e t) (w : ∀ σ H Q, t' σ H Q → t σ H Q) : PE X e t' := ⟨fun pins s σ H Q I q => h.run pins s σ H Q I (w σ H Q q)⟩
theorem pe_FC (h : PE X e (tEv K ow .F m)) : PE X e (tEv K ow .C m) := pe_weak h fun σ H Q q => tEv_FC q
theorem pe_CT (h : PE X e (tEv K ow .C m)) : PE X e (tEv K ow .T m) := pe_weak h fun σ H Q q => tEv_CT q
theorem pe_FT (h : PE X e (tEv K ow .F m)) : PE X e (tEv K ow .T m) := pe_CT (pe_FC h)
end
end SH

namespace SH
open PySem L2
section
variable {K : Frag} {ow : List Nat} {f f' f1 f2 : List Addr} {Z : Addr → Prop} {H H' H1 H2 : Hp} {st st' : Store} {d : D} {v : V} {X : Cx} {e : Expr} {m : EM} {σ : St}
theorem Ext.isN (x : Ext f H f' H') {p : Addr} (hp : H' p = none) : H p = none := by
  cases e : H p with
  | none => rfl
  | some o =>
    by_cases hf : p ∈ f
    · obtain ⟨g, rfl, _⟩ := x.pre
      exact absurd hp (x.live p (List.mem_append_left _ hf))
    · rw [x.keep p o e hf] at hp; cases hp
/-- what is reached from a later state -/
theorem Post.from {k : Kd} (x : Ext f H f1 H1) (h : Post K k H1 f' Z H' st' d v) : Post K k H f' Z H' st' d v := by
  cases k with
  | T => exact h
  | C => exact h
  | F =>
    refine ⟨h.1, fun e => ?_⟩
    obtain ⟨p, hv, hp, r⟩ := h.2 e
    exact ⟨p, hv, x.isN hp, r⟩
theorem Post.str {k : Kd} (h : Post K k H f' Z H' st' d v) : StR K f' Z H' st' := by
  cases k with
  | T => exact h.1
  | C => exact h.1
  | F =>
    cases e : d.isObj with
    | false => exact (h.1 e).1
    | true =>
      obtain ⟨p, _, _, S, _⟩ := h.2 e
      exact S.less fun _ q => .inl q
/-- a test's reading -/
def tBv (K : Frag) (ow : List Nat) (m : EM) : TT := fun σ H Q => ∃ f Z ρ st, ER K ow f Z H σ ρ st ∧ ∃ b st', m ρ st = .ok (.bl b) st' ∧ ∀ f' H', Ext f H f' H' → StR K f' Z H' st' → Q b H'
theorem PT.weak {t t' : TT} (h : PT X e t) (w : ∀ σ H Q, t' σ H Q → t σ H Q) : PT X e t' := ⟨fun pins s σ H Q I q => h.run pins s σ H Q I (w σ H Q q)⟩
theorem PW.weak {t t' : TT} (h : PW X e t) (w : ∀ σ H Q, t' σ H Q → t σ H Q) : PW X e t' := ⟨fun wh pins s σ H Q I q => h.run wh pins s σ H Q I (w σ H Q q)⟩
theorem PA.weak {es : List Expr} {t t' : TA} (h : PA X es t) (w : ∀ σ H Q, t' σ H Q → t σ H Q) : PA X es t' := ⟨fun pos pins s σ H Q I q => h.run pos pins s σ H Q I (w σ H Q q)⟩
theorem PS.weak {e : Stmt} {t t' : TS} (h : PS X e t) (w : ∀ D σ H, t' D σ H → t D σ H) : PS X e t' := ⟨fun pins s σ H D I q => h.run pins s σ H D I (w D σ H q)⟩
theorem PSs.weak {e : List Stmt} {t t' : TS} (h : PSs X e t) (w : ∀ D σ H, t' D σ H → t D σ H) : PSs X e t' := ⟨fun pins s σ H D I q => h.run pins s σ H D I (w D σ H q)⟩
theorem PI.weak {tg it : Expr} {t t' : TI} (h : PI X tg it t) (w : ∀ σ H Q, t' σ H Q → t σ H Q) : PI X tg it t' := ⟨fun pins s σ H Q I q => h.run pins s σ H Q I (w σ H Q q)⟩
/-- a value's reading at a bool -/
theorem tB_of {Q : Bool → Hp → Prop} (h : tBv K ow m σ H Q) : tB (tEv K ow .C m) σ H Q := by
  obtain ⟨f, Z, ρ, st, E, b, st', e, q⟩ := h
  refine ⟨f, Z, ρ, st, E, _, st', e, fun f' H' v x p => ?_⟩
  obtain ⟨S, r⟩ := p
  cases r
  exact ⟨b, rfl, q f' H' x S⟩
theorem tTest_of {t : TE} {Q : Bool → Hp → Prop} (w : ∀ Q, tEv K ow .C m σ H Q → t σ H Q) (h : tBv K ow m σ H Q) : tB t σ H Q := w _ (tB_of h)

theorem pe_mVarT {i : Nat} (h : PE X e (tVar i)) : PE X e (tEv K ow .T (mVar i)) := pe_weak h fun σ H Q => by
  rintro ⟨f, Z, ρ, st, E, d, st', e, q⟩
  unfold mVar at e
  cases hi : ρ[i]? with
  | none => rw [hi] at e; cases e
  | some o =>
    cases o with
    | none => rw [hi] at e; cases e
    | some d0 =>
      rw [hi] at e
      cases e
      obtain ⟨v, e1, t, _⟩ := E.sl i _ hi
      exact ⟨v, e1, q f H v E.self ⟨E.st, t⟩⟩
theorem pe_mVar {i : Nat} (h : PE X e (tVar i)) (ho : i ∉ ow) : PE X e (tEv K ow .C (mVar i)) := pe_weak h fun σ H Q => by
  rintro ⟨f, Z, ρ, st, E, d, st', e, q⟩
  unfold mVar at e
  cases hi : ρ[i]? with
  | none => rw [hi] at e; cases e
  | some o =>
    cases o with
    | none => rw [hi] at e; cases e
    | some d0 =>
      rw [hi] at e
      cases e
      obtain ⟨v, e1, _, r⟩ := E.sl i _ hi
      exact ⟨v, e1, q f H v E.self ⟨E.st, r ho⟩⟩
theorem pe_mLit {v0 : V} {d0 : D} (h : PE X e (tC v0)) (r : ∀ f Z H, Rp K f Z H d0 v0) : PE X e (tEv K ow .C (mLit d0)) := pe_weak h fun σ H Q => by
  rintro ⟨f, Z, ρ, st, E, d, st', e, q⟩
  cases e
  exact q f H _ E.self ⟨E.st, r f Z H⟩

theorem pa_mNil : PA X [] (tAv K ow (mArgs [])) := PA.weak pa_nil fun σ H Q => by
  rintro ⟨f, Z, ρ, st, E, d, st', e, q⟩
  cases e
  exact q f H _ E.self E.st .nil
theorem pa_mCons {es : List Expr} {ms : List EM} (ha : PE X e (tEv K ow .C m)) (hr : PA X es (tAv K ow (mArgs ms))) (hs : starEach (e :: es) X.env = (false, eval e X.env) :: starEach es X.env) :
    PA X (e :: es) (tAv K ow (mArgs (m :: ms))) := PA.weak (pa_cons ha hr hs) fun σ H Q => by
  rintro ⟨f, Z, ρ, st, E, ds, st', e, q⟩
  obtain ⟨d1, st1, e1, e⟩ := R.bind_eq (show (m ρ st).bind _ = _ from e)
  obtain ⟨d2, st2, e2, e⟩ := R.bind_eq e
  cases e
  refine ⟨f, Z, ρ, st, E, d1, st1, e1, fun f1 H1 v1 x1 ⟨S1, r1⟩ => ?_⟩
  refine ⟨f1, Z, ρ, st1, E.ext x1 S1, d2, _, e2, fun f2 H2 vs x2 S2 r2 => ?_⟩
  exact q f2 H2 _ (x1.trans x2) S2 (.cons (r1.frm x2.frm) r2)
theorem mArgs_len : ∀ {ms : List EM} {ρ : Env} {st st' : Store} {ds : List D}, mArgs ms ρ st = .ok ds st' → ds.length = ms.length
  | [], _, _, _, _, e => by cases e; rfl
  | m :: ms, ρ, st, st', ds, e => by
    obtain ⟨d1, st1, e1, e⟩ := R.bind_eq (show (m ρ st).bind _ = _ from e)
    obtain ⟨d2, st2, e2, e⟩ := R.bind_eq e
    cases e
    simp [mArgs_len e2]

theorem tup_new {p : Addr} {o : Obj} {ds : List D} {vs : List V} (S : StR K f Z H st) (r : Rps K f Z H ds vs) (hp : H p = none) (ho : o.dict = none) (hl : vs.length ≤ sizeLine) :
    Ext f H f (upd H p (.frz o (.tup vs))) ∧ StR K f Z (upd H p (.frz o (.tup vs))) st ∧ Rp K f Z (upd H p (.frz o (.tup vs))) (.tup ds) (.ref p) := by
  have k := keep_new (o := .frz o (.tup vs)) hp
  have x := Ext.same S k
  exact ⟨x, S.same k, .tup ⟨o, upd_same, ho, (S.fresh hp).1, (S.fresh hp).2, hl⟩ (r.frm x.frm)⟩
/-- a tuple has been made: its object is known from then on -/
theorem tup_laid {X : Cx} {pins : List (Addr × PySem.Obj)} {σ : St} {H : Hp} {z : PySem.Shared} {its : List PySem.Value} {xs : List V} {t' : Nat} (I : Inv X pins σ H z) (r : Vals xs its) (hz : xs.length ≤ sizeLine) :
    Inv X pins σ (upd H z.heap.objs.size (.frz { cls := .type "tuple", data := .seq its.toArray } (.tup xs))) { z with heap := z.heap.push { cls := .type "tuple", data := .seq its.toArray }, toks := t' } :=
  I.laid (t' := t') (fun b u e => PySem.Heap.get?_push_of_some _ e) (Nat.le_refl _) ⟨PySem.Heap.get?_push_size _ rfl, hz, its, r, ⟨_, PySem.Heap.get?_push_size _ rfl, rfl, _, rfl⟩⟩
def tTupF (t : TA) : TE := fun σ H Q => t σ H fun xs H1 => xs.length ≤ sizeLine ∧ ∀ p (o : PySem.Obj), o.dict = none → H1 p = none → Q (.ref p) (upd H1 p (.frz o (.tup xs)))
theorem pe_tupF {X : Cx} {es : List Expr} {t : TA} {x1 : Nat} {pos : Pos} (h : PA X es t) : PE X (.Tuple es x1 pos) (tTupF t) := by
  constructor
  intro pins z σ H Q I q
  apply PySem.wpAny_Tuple_spliced
  refine thn (h.run pos pins z σ H _ I q) ?_
  rintro ws z1 ⟨xs, H1, J, r, hz, q1⟩
  exact ⟨by rw [← r.length]; exact hz, .ref z1.heap.objs.size, _, tup_laid (t' := z1.toks) J r hz, rfl, q1 _ _ rfl (J.hok.fresh (Nat.le_refl _))⟩
theorem lst_new {p : Addr} {ds : List D} {vs : List V} (S : StR K f Z H st) (r : Rps K f Z H ds vs) (hp : H p = none) (hl : vs.length ≤ sizeLine) :
    Ext f H f (upd H p (.lst vs)) ∧ Post K .F H f Z (upd H p (.lst vs)) st (.lst ds) (.ref p) := by
  have k := keep_new (o := .lst vs) hp
  have x := Ext.same S k
  have F : Frm f Z H f (fun a => Z a ∨ a = p) (upd H p (.lst vs)) := ⟨fun b o e n z => ⟨k b o e, n, fun q => q.elim z fun q => ne_of_none e hp q⟩, [], by simp⟩
  refine ⟨x, fun e => (nomatch e), fun _ => ⟨p, rfl, hp, S.more hp (by rw [upd_same]; trivial) k, .lst ⟨upd_same, (S.fresh hp).1, fun z => z, hl⟩ (r.frm F)⟩⟩
theorem pe_mTup {es : List Expr} {ms : List EM} {kk : Nat} {pos : Pos} (h : PA X es (tAv K ow (mArgs ms))) (hl : ms.length ≤ sizeLine) : PE X (.Tuple es kk pos) (tEv K ow .C (mTup ms)) :=
  pe_weak (pe_tupF h) fun σ H Q => by
    rintro ⟨f, Z, ρ, st, E, d, st', e, q⟩
    obtain ⟨ds, st1, e1, e⟩ := R.bind_eq (show (mArgs ms ρ st).bind _ = _ from e)
    cases e
    refine ⟨f, Z, ρ, st, E, ds, _, e1, fun f1 H1 vs x1 S1 r1 => ?_⟩
    have hv : vs.length ≤ sizeLine := by rw [← r1.length, mArgs_len e1]; exact hl
    refine ⟨hv, fun p o ho hp => ?_⟩
    obtain ⟨x2, S2, r2⟩ := tup_new S1 r1 hp ho hv
    exact q f1 _ _ (x1.trans x2) ⟨S2, r2⟩
theorem pe_mLst {es : List Expr} {ms : List EM} {pos : Pos} (h : PA X es (tAv K ow (mArgs ms))) (hl : ms.length ≤ sizeLine) : PE X (.List es pos) (tEv K ow .F (mLst ms)) :=
  pe_weak (pe_lst h) fun σ H Q => by
    rintro ⟨f, Z, ρ, st, E, d, st', e, q⟩
    obtain ⟨ds, st1, e1, e⟩ := R.bind_eq (show (mArgs ms ρ st).bind _ = _ from e)
    cases e
    refine ⟨f, Z, ρ, st, E, ds, _, e1, fun f1 H1 vs x1 S1 r1 => ?_⟩
    have hv : vs.length ≤ sizeLine := by rw [← r1.length, mArgs_len e1]; exact hl
    refine ⟨hv, fun p hp => ?_⟩
    obtain ⟨x2, r2⟩ := lst_new S1 r1 hp hv
    exact q f1 _ _ (x1.trans x2) (r2.from x1)
/-- a list as a new object of the store -/
theorem pe_mNew {es : List Expr} {ms : List EM} {pos : Pos} (h : PA X es (tAv K ow (mArgs ms))) (hl : ms.length ≤ sizeLine) : PE X (.List es pos) (tEv K ow .C (mNew ms)) :=
  pe_weak (pe_lst h) fun σ H Q => by
    rintro ⟨f, Z, ρ, st, E, d, st', e, q⟩
    obtain ⟨ds, st1, e1, e⟩ := R.bind_eq (show (mArgs ms ρ st).bind _ = _ from e)
    cases e
    refine ⟨f, Z, ρ, st, E, ds, st1, e1, fun f1 H1 vs x1 S1 r1 => ?_⟩
    have hv : vs.length ≤ sizeLine := by rw [← r1.length, mArgs_len e1]; exact hl
    refine ⟨hv, fun p hp => ?_⟩
    have k := keep_new (o := HO.lst vs) hp
    obtain ⟨np, nz⟩ := S1.fresh hp
    have F : Frm f1 Z H1 (f1 ++ [p]) Z (upd H1 p (.lst vs)) := ⟨fun b o e n z => ⟨k b o e, fun q => (List.mem_append.mp q).elim n fun q => ne_of_none e hp (List.mem_singleton.mp q), z⟩, [p], rfl⟩
    have live : ∀ a ∈ f1 ++ [p], upd H1 p (.lst vs) a ≠ none := fun a ha => by
      rcases List.mem_append.mp ha with ha | ha
      · cases e : H1 a with
        | none => exact absurd e (S1.live a ha)
        | some o => rw [k a o e]; exact fun z => nomatch z
      · rw [List.mem_singleton.mp ha, upd_same]; exact fun z => nomatch z
    have x2 : Ext f1 H1 (f1 ++ [p]) (upd H1 p (.lst vs)) := ⟨fun b o e _ => k b o e, ⟨[p], rfl, fun a ha => by rw [List.mem_singleton.mp ha]; exact hp⟩, live⟩
    have nd : (f1 ++ [p]).Nodup := by
      rw [List.nodup_append]
      exact ⟨S1.nd, by simp, fun a ha b hb => by rw [List.mem_singleton.mp hb]; exact fun z => np (z ▸ ha)⟩
    have S2 : StR K (f1 ++ [p]) Z (upd H1 p (.lst vs)) (st1 ++ [.lst ds]) := by
      refine ⟨nd, by simp [S1.len], fun n o a e1 e2 => ?_, fun a z => ⟨fun q => ?_, ?_⟩⟩
      · by_cases hn : n < st1.length
        · rw [List.getElem?_append_left hn] at e1
          rw [List.getElem?_append_left (by rw [S1.len]; exact hn)] at e2
          refine (S1.at_ n o a e1 e2).frm F ?_
          exact upd_ne fun z => np (z ▸ List.mem_of_getElem? e2)
        · rw [List.getElem?_append_right (by omega)] at e1
          rw [List.getElem?_append_right (by rw [S1.len]; omega)] at e2
          have hz : n - st1.length = 0 := by
            have := (List.getElem?_eq_some_iff.mp e1).1
            simp at this
            omega
          rw [hz] at e1
          rw [show n - f1.length = 0 by rw [S1.len]; exact hz] at e2
          cases e1
          cases e2
          exact ⟨vs, upd_same, hv, r1.frm F⟩
      · rcases List.mem_append.mp q with q | q
        · exact (S1.zt a z).1 q
        · rw [List.mem_singleton.mp q] at z; exact nz z
      · have hz := (S1.zt a z).2
        cases e2 : H1 a with
        | none => exact absurd e2 hz.ne
        | some o => rw [k a o e2, ← e2]; exact hz
    exact q (f1 ++ [p]) _ _ (x1.trans x2) ⟨S2, .ref (by rw [← S1.len]; simp)⟩

def Op2Ok (K : Frag) (k : Kd) (g : Store → D → D → Option D) (r : R2) : Prop := ∀ (f : List Addr) (Z : Addr → Prop) (H : Hp) (st : Store) (x y : V) (dx dy d : D) (Q : VK),
  StR K f Z H st → Tp K f Z H dx x → Tp K f Z H dy y → g st dx dy = some d → (∀ H' v, Ext f H f H' → Post K k H f Z H' st d v → Q v H') → r x y H Q
def Op1Ok (K : Frag) (k : Kd) (g : Store → D → Option D) (r : V → Hp → VK → Prop) : Prop := ∀ (f : List Addr) (Z : Addr → Prop) (H : Hp) (st : Store) (x : V) (dx d : D) (Q : VK),
  StR K f Z H st → Tp K f Z H dx x → g st dx = some d → (∀ H' v, Ext f H f H' → Post K k H f Z H' st d v → Q v H') → r x H Q
theorem tOp_of {k : Kd} {g : Store → D → D → Option D} {r : R2} (h : Op2Ok K k g r) {ma mb : EM} {Q : VK} (q : tEv K ow k (mOp2 g ma mb) σ H Q) : tOp r (tEv K ow .T ma) (tEv K ow .T mb) σ H Q := by
  obtain ⟨f, Z, ρ, st, E, d, st', e, q⟩ := q
  obtain ⟨dx, st1, e1, e⟩ := R.bind_eq (show (ma ρ st).bind _ = _ from e)
  obtain ⟨dy, st2, e2, e⟩ := R.bind_eq e
  obtain ⟨e3, rfl⟩ := liftO_ok e
  refine ⟨f, Z, ρ, st, E, dx, st1, e1, fun f1 H1 x x1 ⟨S1, t1⟩ => ?_⟩
  refine ⟨f1, Z, ρ, st1, E.ext x1 S1, dy, st', e2, fun f2 H2 y x2 ⟨S2, t2⟩ => ?_⟩
  exact h f2 Z H2 st' x y dx dy d Q S2 (t1.ext x2) t2 e3 fun H' v x3 p => q f2 H' v (x1.trans (x2.trans x3)) (p.from (x1.trans x2))
theorem tUn_of {k : Kd} {g : Store → D → Option D} {r : V → Hp → VK → Prop} (h : Op1Ok K k g r) {ma : EM} {Q : VK} (q : tEv K ow k (mOp1 g ma) σ H Q) : tUn r (tEv K ow .T ma) σ H Q := by
  obtain ⟨f, Z, ρ, st, E, d, st', e, q⟩ := q
  obtain ⟨dx, st1, e1, e⟩ := R.bind_eq (show (ma ρ st).bind _ = _ from e)
  obtain ⟨e3, rfl⟩ := liftO_ok e
  refine ⟨f, Z, ρ, st, E, dx, st', e1, fun f1 H1 x x1 ⟨S1, t1⟩ => ?_⟩
  exact h f1 Z H1 st' x dx d Q S1 t1 e3 fun H' v x3 p => q f1 H' v (x1.trans x3) (p.from x1)
variable {a b : Expr} {ma mb mc md : EM} {pos : Pos}
theorem pe_mBin {k : Kd} {op : Operator} {r : R2} {g : Store → D → D → Option D} (ho : OpR X (binaryOp op) r) (hk : Op2Ok K k g r) (ha : PE X a (tEv K ow .T ma)) (hb : PE X b (tEv K ow .T mb)) :
    PE X (.BinOp a op b pos) (tEv K ow k (mOp2 g ma mb)) := pe_weak (pe_op ho ha hb) fun σ H Q q => tOp_of hk q
theorem pe_mUn {k : Kd} {op : UnaryOp} {r : V → Hp → VK → Prop} {g : Store → D → Option D} (ho : UnR X (unaryOp op) r) (hk : Op1Ok K k g r) (ha : PE X a (tEv K ow .T ma)) :
    PE X (.UnaryOp op a pos) (tEv K ow k (mOp1 g ma)) := pe_weak (pe_un ho ha) fun σ H Q q => tUn_of hk q
theorem pe_mCmp {op : CmpOp} {r : R2} {g : Store → D → D → Option D} (ho : OpR X (compareOp op) r) (hk : Op2Ok K .C g r) (ha : PE X a (tEv K ow .T ma)) (hb : PE X b (tEv K ow .T mb)) (hm : behindInMarks op b = false) :
    PE X (.Compare a [op] [b] pos) (tEv K ow .C (mOp2 g ma mb)) := pe_weak (pe_cmpR ho ha hb hm) fun σ H Q q => tOp_of hk q
theorem pt_mCmp {op : CmpOp} {r : R2} {g : Store → D → D → Option D} (ho : OpR X (compareOp op) r) (hk : Op2Ok K .C g r) (ha : PE X a (tEv K ow .T ma)) (hb : PE X b (tEv K ow .T mb)) (hm : behindInMarks op b = false) :
    PT X (.Compare a [op] [b] pos) (tBv K ow (mOp2 g ma mb)) := PT.weak (pt_cmpR ho ha hb hm) fun σ H Q q => by
  have z := tOp_of hk (tB_of q)
  exact z
theorem pe_mIx {k : Kd} {r : R2} {g : Store → D → D → Option D} (ho : IxR X r) (hk : Op2Ok K k g r) (ha : PE X a (tEv K ow .T ma)) (hb : PE X b (tEv K ow .T mb)) (hs : PlainIx b) :
    PE X (.Subscript a b pos) (tEv K ow k (mOp2 g ma mb)) := pe_weak (pe_ix ho ha hb hs) fun σ H Q q => tOp_of hk q
/-- a built-in of one argument, by its name -/
theorem tCB_of {k : Kd} {g : Store → D → Option D} {r : List V → Hp → VK → Prop} (h : Op1Ok K k g fun x => r [x]) {Q : VK} (q : tEv K ow k (mOp1 g ma) σ H Q) : tCB r (tCons (tEv K ow .T ma) tNil) σ H Q := tUn_of h q
theorem pe_mB1 {k : Kd} {g : Store → D → Option D} {r : List V → Hp → VK → Prop} {id : String} {x : Str} {p : Pos} (hc : CallR X (.builtin id) r) (h : Op1Ok K k g fun x => r [x]) (hg : Gl X x) (hm : X.mg x = none) (hv : bootBuiltins x = some (.builtin id))
    (ha : PE X a (tEv K ow .T ma)) (hs : starEach (a :: []) X.env = (false, eval a X.env) :: starEach [] X.env) (hn : x ≠ "__name__") (hdb : (x == ("__debug__" : Str)) = false) (hpl : (backTo pos (starEach [] X.env)).any (·.1) = false := by rfl) :
    PE X (.Call (.Name x p) [a] [] pos) (tEv K ow k (mOp1 g ma)) :=
  pe_weak (pe_callB hc hg hm hv (pa_cons ha pa_nil hs) hn hdb hs hpl) fun σ H Q q => tCB_of h q
theorem pe_mT1 {k : Kd} {g : Store → D → Option D} {r : List V → Hp → VK → Prop} {T : String} {x : Str} {p : Pos} (hc : CallR X (.type T) r) (h : Op1Ok K k g fun x => r [x]) (hg : Gl X x) (hm : X.mg x = none) (hv : bootBuiltins x = some (.type T))
    (ha : PE X a (tEv K ow .T ma)) (hs : starEach (a :: []) X.env = (false, eval a X.env) :: starEach [] X.env) (hn : x ≠ "__name__") (hdb : (x == ("__debug__" : Str)) = false) (hpl : (backTo pos (starEach [] X.env)).any (·.1) = false := by rfl) :
    PE X (.Call (.Name x p) [a] [] pos) (tEv K ow k (mOp1 g ma)) :=
  pe_weak (pe_callTy hc hg hm hv (pa_cons ha pa_nil hs) hn hdb hs hpl) fun σ H Q q => tCB_of h q
theorem tCB2_of {k : Kd} {g : Store → D → D → Option D} {r : List V → Hp → VK → Prop} (h : Op2Ok K k g fun x y => r [x, y]) {Q : VK} (q : tEv K ow k (mOp2 g ma mb) σ H Q) : tCB r (tCons (tEv K ow .T ma) (tCons (tEv K ow .T mb) tNil)) σ H Q := tOp_of h q
theorem pe_mB2 {k : Kd} {g : Store → D → D → Option D} {r : List V → Hp → VK → Prop} {id : String} {x : Str} {p : Pos} (hc : CallR X (.builtin id) r) (h : Op2Ok K k g fun x y => r [x, y]) (hg : Gl X x) (hm : X.mg x = none) (hv : bootBuiltins x = some (.builtin id))
    (ha : PE X a (tEv K ow .T ma)) (hb : PE X b (tEv K ow .T mb)) (hs : starEach (a :: [b]) X.env = (false, eval a X.env) :: starEach [b] X.env) (hs2 : starEach (b :: []) X.env = (false, eval b X.env) :: starEach [] X.env) (hn : x ≠ "__name__") (hdb : (x == ("__debug__" : Str)) = false)
    (hpl : (backTo pos (starEach [b] X.env)).any (·.1) = false) :
    PE X (.Call (.Name x p) [a, b] [] pos) (tEv K ow k (mOp2 g ma mb)) :=
  pe_weak (pe_callB hc hg hm hv (pa_cons ha (pa_cons hb pa_nil hs2) hs) hn hdb hs hpl) fun σ H Q q => tCB2_of h q

theorem tBv_and {Q : Bool → Hp → Prop} (q : tBv K ow (mAnd ma mb) σ H Q) : tAnd (tBv K ow ma) (tBv K ow mb) σ H Q := by
  obtain ⟨f, Z, ρ, st, E, b, st', e, q⟩ := q
  obtain ⟨dx, st1, e1, e⟩ := R.bind_eq (show (ma ρ st).bind _ = _ from e)
  cases dx with
  | bl c =>
    refine ⟨f, Z, ρ, st, E, c, st1, e1, fun f1 H1 x1 S1 => ?_⟩
    cases c with
    | true => exact ⟨f1, Z, ρ, st1, E.ext x1 S1, b, st', e, fun f2 H2 x2 S2 => q f2 H2 (x1.trans x2) S2⟩
    | false => cases e; exact q f1 H1 x1 S1
  | _ => cases e
theorem tBv_or {Q : Bool → Hp → Prop} (q : tBv K ow (mOr ma mb) σ H Q) : tOr (tBv K ow ma) (tBv K ow mb) σ H Q := by
  obtain ⟨f, Z, ρ, st, E, b, st', e, q⟩ := q
  obtain ⟨dx, st1, e1, e⟩ := R.bind_eq (show (ma ρ st).bind _ = _ from e)
  cases dx with
  | bl c =>
    refine ⟨f, Z, ρ, st, E, c, st1, e1, fun f1 H1 x1 S1 => ?_⟩
    cases c with
    | false => exact ⟨f1, Z, ρ, st1, E.ext x1 S1, b, st', e, fun f2 H2 x2 S2 => q f2 H2 (x1.trans x2) S2⟩
    | true => cases e; exact q f1 H1 x1 S1
  | _ => cases e
def notD : Store → D → Option D := fun _ x => match x with
  | .bl b => some (.bl !b)
  | _ => none
theorem tBv_not {Q : Bool → Hp → Prop} (q : tBv K ow (mOp1 notD ma) σ H Q) : tNot (tBv K ow ma) σ H Q := by
  obtain ⟨f, Z, ρ, st, E, b, st', e, q⟩ := q
  obtain ⟨dx, st1, e1, e⟩ := R.bind_eq (show (ma ρ st).bind _ = _ from e)
  obtain ⟨e3, rfl⟩ := liftO_ok e
  cases dx with
  | bl c =>
    cases e3
    exact ⟨f, Z, ρ, st, E, c, _, e1, fun f1 H1 x1 S1 => q f1 H1 x1 S1⟩
  | _ => cases e3
theorem tEv_and {Q : VK} (q : tEv K ow .C (mAnd ma mb) σ H Q) : tAndV (tEv K ow .C ma) (tEv K ow .C mb) σ H Q := by
  obtain ⟨f, Z, ρ, st, E, b, st', e, q⟩ := q
  obtain ⟨dx, st1, e1, e⟩ := R.bind_eq (show (ma ρ st).bind _ = _ from e)
  refine ⟨f, Z, ρ, st, E, dx, st1, e1, fun f1 H1 x x1 ⟨S1, r1⟩ => ?_⟩
  cases dx with
  | bl c =>
    cases r1
    refine ⟨c, rfl, ?_⟩
    cases c with
    | true => exact ⟨f1, Z, ρ, st1, E.ext x1 S1, b, st', e, fun f2 H2 v x2 p => q f2 H2 v (x1.trans x2) p⟩
    | false => cases e; exact q f1 H1 _ x1 ⟨S1, .bl _⟩
  | _ => cases e
theorem tEv_or {Q : VK} (q : tEv K ow .C (mOr ma mb) σ H Q) : tOrV (tEv K ow .C ma) (tEv K ow .C mb) σ H Q := by
  obtain ⟨f, Z, ρ, st, E, b, st', e, q⟩ := q
  obtain ⟨dx, st1, e1, e⟩ := R.bind_eq (show (ma ρ st).bind _ = _ from e)
  refine ⟨f, Z, ρ, st, E, dx, st1, e1, fun f1 H1 x x1 ⟨S1, r1⟩ => ?_⟩
  cases dx with
  | bl c =>
    cases r1
    refine ⟨c, rfl, ?_⟩
    cases c with
    | false => exact ⟨f1, Z, ρ, st1, E.ext x1 S1, b, st', e, fun f2 H2 v x2 p => q f2 H2 v (x1.trans x2) p⟩
    | true => cases e; exact q f1 H1 _ x1 ⟨S1, .bl _⟩
  | _ => cases e
theorem tEv_not {Q : VK} (q : tEv K ow .C (mOp1 notD ma) σ H Q) : tNotV (tEv K ow .C ma) σ H Q := by
  obtain ⟨f, Z, ρ, st, E, b, st', e, q⟩ := q
  obtain ⟨dx, st1, e1, e⟩ := R.bind_eq (show (ma ρ st).bind _ = _ from e)
  obtain ⟨e3, rfl⟩ := liftO_ok e
  refine ⟨f, Z, ρ, st, E, dx, _, e1, fun f1 H1 x x1 ⟨S1, r1⟩ => ?_⟩
  cases dx with
  | bl c =>
    cases r1
    cases e3
    exact ⟨c, rfl, q f1 H1 _ x1 ⟨S1, .bl _⟩⟩
  | _ => cases e3
theorem tEv_ite {k : Kd} {c : EM} {Q : VK} (q : tEv K ow k (mIte c ma mb) σ H Q) : tIf (tBv K ow c) (tEv K ow k ma) (tEv K ow k mb) σ H Q := by
  obtain ⟨f, Z, ρ, st, E, b, st', e, q⟩ := q
  obtain ⟨dx, st1, e1, e⟩ := R.bind_eq (show (c ρ st).bind _ = _ from e)
  cases dx with
  | bl c =>
    refine ⟨f, Z, ρ, st, E, c, st1, e1, fun f1 H1 x1 S1 => ?_⟩
    cases c with
    | true => exact ⟨f1, Z, ρ, st1, E.ext x1 S1, b, st', e, fun f2 H2 v x2 p => q f2 H2 v (x1.trans x2) (p.from x1)⟩
    | false => exact ⟨f1, Z, ρ, st1, E.ext x1 S1, b, st', e, fun f2 H2 v x2 p => q f2 H2 v (x1.trans x2) (p.from x1)⟩
  | _ => cases e
/-- what is known of an expression: its value, and as a test -/
structure PD (X : Cx) (K : Frag) (ow : List Nat) (k : Kd) (e : Expr) (m : EM) : Prop where
  val : PE X e (tEv K ow k m)
  tst : PT X e (tBv K ow m)
theorem pt_plain {k : Kd} (h : PE X e (tEv K ow k m)) (hk : k ≠ .T) (he : ∀ whole, isTrue e X.env whole = (do let v ← whole; standAt e.pos; holding [v] (truthy v))) : PT X e (tBv K ow m) := by
  have h' : PE X e (tEv K ow .C m) := by
    cases k with
    | T => exact absurd rfl hk
    | C => exact h
    | F => exact pe_FC h
  exact PT.weak (pt_val h' he) fun σ H Q q => tB_of q
end
end SH

namespace SH
open PySem L2

mutual
def Tg.slots : Tg → List Nat
  | .nm i => [i]
  | .tup l => Tg.slotss l
def Tg.slotss : List Tg → List Nat
  | [] => []
  | t :: ts => Tg.slots t ++ Tg.slotss ts
end
mutual
def gOf (K : Frag) : Tg → TG
  | .nm i => gName i
  | .tup l => gTup K l.length (gsOf K l)
def gsOf (K : Frag) : List Tg → TGs
  | [] => gNil
  | t :: ts => gCons (gOf K t) (gsOf K ts)
end
/-- only these slots have changed -/
structure Chg (l : List Nat) (σ : St) (ρ : Env) (σ' : St) (ρ' : Env) : Prop where
  sg : ∀ i, i ∉ l → σ'[i]? = σ[i]?
  ro : ∀ i, i ∉ l → ρ'[i]? = ρ[i]?
  ls : σ'.length = σ.length
  lr : ρ'.length = ρ.length
theorem Chg.refl (l : List Nat) (σ : St) (ρ : Env) : Chg l σ ρ σ ρ := ⟨fun _ _ => rfl, fun _ _ => rfl, rfl, rfl⟩
theorem Chg.trans {l m : List Nat} {σ σ1 σ2 : St} {ρ ρ1 ρ2 : Env} (a : Chg l σ ρ σ1 ρ1) (b : Chg m σ1 ρ1 σ2 ρ2) : Chg (l ++ m) σ ρ σ2 ρ2 := by
  refine ⟨fun i h => ?_, fun i h => ?_, b.ls.trans a.ls, b.lr.trans a.lr⟩
  · rw [List.mem_append, not_or] at h
    exact (b.sg i h.2).trans (a.sg i h.1)
  · rw [List.mem_append, not_or] at h
    exact (b.ro i h.2).trans (a.ro i h.1)
section
variable {K : Frag} {ow : List Nat} {f f' f1 f2 : List Addr} {Z Z' : Addr → Prop} {H H' H1 H2 : Hp} {st st' : Store} {X : Cx}
theorem ER.set {σ : St} {ρ : Env} {i : Nat} {d : D} {v : V} (E : ER K ow f Z H σ ρ st) (r : Tp K f Z H d v) (ro : i ∉ ow → Rp K f Z H d v) : ER K ow f Z H (σ.set i (some v)) (ρ.set i (some d)) st := by
  refine ⟨E.st, by simp [E.len], fun j e hj => ?_⟩
  by_cases hji : i = j
  · subst hji
    have hl : i < ρ.length := by
      have := (List.getElem?_eq_some_iff.mp hj).1
      simpa using this
    rw [List.getElem?_set_self hl] at hj
    cases hj
    exact ⟨v, by rw [List.getElem?_set_self (by rw [← E.len]; exact hl)], r, ro⟩
  · rw [List.getElem?_set_ne hji] at hj
    obtain ⟨w, e1, t, c⟩ := E.sl j e hj
    exact ⟨w, by rw [List.getElem?_set_ne hji]; exact e1, t, c⟩
theorem chg_set {σ : St} {ρ : Env} (i : Nat) (v : Option V) (d : Option D) : Chg [i] σ ρ (σ.set i v) (ρ.set i d) :=
  ⟨fun j h => List.getElem?_set_ne (fun e => h (by simp [e])), fun j h => List.getElem?_set_ne (fun e => h (by simp [e])), by simp, by simp⟩
mutual
theorem gOf_run : ∀ (tg : Tg) {d : D} {v : V} {σ : St} {ρ ρ' : Env} {Q : St → Hp → Prop}, (∀ i ∈ tg.slots, i ∉ ow) → ER K ow f Z H σ ρ st → Rp K f Z H d v → tg.set d ρ = some ρ' →
    (∀ σ', ER K ow f Z H σ' ρ' st → Chg tg.slots σ ρ σ' ρ' → Q σ' H) → gOf K tg v σ H Q
  | .nm i, d, v, σ, ρ, ρ', Q, ho, E, r, e, q => by
    simp only [Tg.set, Option.some.injEq] at e
    subst e
    simp only [gOf, gName]
    refine q _ (E.set (.rp r) fun _ => r) ?_
    simp only [Tg.slots]
    exact chg_set i _ _
  | .tup l, d, v, σ, ρ, ρ', Q, ho, E, r, e, q => by
    cases d with
    | tup ds =>
      simp only [Tg.set] at e
      cases r with
      | tup ht hr =>
        simp only [gOf]
        refine ⟨_, _, rfl, ht.sq, ?_, ?_⟩
        · rw [← hr.length]
          exact (sets_len l e).symm
        · exact gsOf_run l (by simpa only [Tg.slots] using ho) E hr e fun σ' E' c => q σ' E' (by simpa only [Tg.slots] using c)
    | _ => simp [Tg.set] at e
theorem gsOf_run : ∀ (l : List Tg) {ds : List D} {vs : List V} {σ : St} {ρ ρ' : Env} {Q : St → Hp → Prop}, (∀ i ∈ Tg.slotss l, i ∉ ow) → ER K ow f Z H σ ρ st → Rps K f Z H ds vs → Tg.sets l ds ρ = some ρ' →
    (∀ σ', ER K ow f Z H σ' ρ' st → Chg (Tg.slotss l) σ ρ σ' ρ' → Q σ' H) → gsOf K l vs σ H Q
  | [], ds, vs, σ, ρ, ρ', Q, ho, E, r, e, q => by
    cases r with
    | nil =>
      simp only [Tg.sets, Option.some.injEq] at e
      subst e
      simp only [gsOf]
      exact ⟨rfl, q σ E (Chg.refl _ _ _)⟩
    | cons _ _ => simp [Tg.sets] at e
  | t :: ts, ds, vs, σ, ρ, ρ', Q, ho, E, r, e, q => by
    cases r with
    | nil => simp [Tg.sets] at e
    | cons h r =>
      simp only [Tg.sets] at e
      split at e
      · rename_i ρ1 e1
        simp only [Tg.slotss, List.mem_append] at ho
        simp only [gsOf]
        refine ⟨_, _, rfl, ?_⟩
        refine gOf_run t (fun i hi => ho i (.inl hi)) E h e1 fun σ1 E1 c1 => ?_
        exact gsOf_run ts (fun i hi => ho i (.inr hi)) E1 r e fun σ2 E2 c2 => q σ2 E2 (by simp only [Tg.slotss]; exact c1.trans c2)
      · cases e
theorem sets_len : ∀ (l : List Tg) {ds : List D} {ρ ρ' : Env}, Tg.sets l ds ρ = some ρ' → l.length = ds.length
  | [], [], _, _, _ => rfl
  | [], _ :: _, _, _, e => by simp [Tg.sets] at e
  | _ :: _, [], _, _, e => by simp [Tg.sets] at e
  | t :: ts, d :: ds, ρ, ρ', e => by
    simp only [Tg.sets] at e
    split at e
    · simp [sets_len ts e]
    · cases e
end

def Tg.isTup : Tg → Bool
  | .tup _ => true
  | .nm _ => false
/-- an item: where the target takes it apart at once (b) it may be a pair that is known less -/
inductive Ip (K : Frag) (f : List Addr) (Z : Addr → Prop) (H : Hp) : Bool → D → V → Prop
  | rp {b : Bool} {d : D} {v : V} : Rp K f Z H d v → Ip K f Z H b d v
  | pr {T : Addr} {d e : D} {x y : V} : H T = some (.tup [x, y]) → Rp K f Z H d x → Rp K f Z H e y → Ip K f Z H true (.tup [d, e]) (.ref T)
theorem gOf_item (tg : Tg) {d : D} {v : V} {σ : St} {ρ ρ' : Env} {Q : St → Hp → Prop} (ho : ∀ i ∈ tg.slots, i ∉ ow) (E : ER K ow f Z H σ ρ st) (r : Ip K f Z H tg.isTup d v) (e : tg.set d ρ = some ρ')
    (q : ∀ σ', ER K ow f Z H σ' ρ' st → Chg tg.slots σ ρ σ' ρ' → Q σ' H) : gOf K tg v σ H Q := by
  cases tg with
  | nm i =>
    cases r with
    | rp r => exact gOf_run (.nm i) ho E r e q
  | tup l =>
    cases r with
    | rp r => exact gOf_run (.tup l) ho E r e q
    | pr hT rx ry =>
      simp only [Tg.set] at e
      simp only [gOf]
      refine ⟨_, _, rfl, .inl (.inl hT), (sets_len (K := K) (ow := ow) (f := f) (Z := Z) (H := H) (st := st) l e).symm, ?_⟩
      exact gsOf_run l (by simpa only [Tg.slots] using ho) E (.cons rx (.cons ry .nil)) e fun σ' E' c => q σ' E' (by simpa only [Tg.slots] using c)
def Enums (K : Frag) (b : Bool) (J : It) (l : List D) (Ok : List Addr → (Addr → Prop) → Hp → Prop) : Prop :=
  ∀ (f : List Addr) (Z : Addr → Prop) (H : Hp) (st : Store), Ok f Z H → StR K f Z H st →
    (∀ i, i < l.length → J.go i H ∧ ∀ x H', J.yld i H x H' → (∀ b o, H b = some o → H' b = some o) ∧ ∃ d, l[i]? = some d ∧ Ip K f Z H' b d x) ∧ J.stop l.length H
/-- what keeps it readable -/
def Stab (k : Kd) (Ok : List Addr → (Addr → Prop) → Hp → Prop) : Prop := ∀ (f : List Addr) (Z : Addr → Prop) (H : Hp) (f' : List Addr) (Z' : Addr → Prop) (H' : Hp), (k = .T → Ext f H f' H') → Frm f Z H f' Z' H' → Ok f Z H → Ok f' Z' H'
def tIv (K : Frag) (ow : List Nat) (k : Kd) (b : Bool) (m : LM) : TI := fun σ H R => ∃ f Z ρ st, ER K ow f Z H σ ρ st ∧ ∃ l st', m ρ st = .ok l st' ∧
  ∀ f' H' J Ok, Ext f H f' H' → StR K f' Z H' st' → l.length ≤ sizeLine → Stab k Ok → Ok f' Z H' → Enums K b J l Ok → R J H'
theorem tIv_C {σ : St} {m : LM} {b : Bool} {R : It → Hp → Prop} (h : tIv K ow .T b m σ H R) : tIv K ow .C b m σ H R := by
  obtain ⟨f, Z, ρ, st, E, l, st', e, q⟩ := h
  exact ⟨f, Z, ρ, st, E, l, st', e, fun f' H' J Ok x S hl hs ho he => q f' H' J Ok x S hl (fun f Z H f' Z' H' _ F o => hs f Z H f' Z' H' (fun z => nomatch z) F o) ho he⟩

theorem wipe_get (σ : St) (i : Nat) : ∀ vs : List Nat, (wipe σ vs)[i]? = if i ∈ vs ∧ i < σ.length then some none else σ[i]?
  | [] => by simp [wipe]
  | v :: vs => by
    unfold wipe
    by_cases h : v = i
    · subst h
      by_cases hl : v < σ.length
      · rw [List.getElem?_set_self (by rw [wipe_length]; exact hl), if_pos ⟨by simp, hl⟩]
      · rw [List.getElem?_eq_none (by rw [List.length_set, wipe_length]; omega), if_neg (fun q => hl q.2), List.getElem?_eq_none (by omega)]
    · rw [List.getElem?_set_ne h, wipe_get σ i vs]
      have : i ≠ v := fun e => h e.symm
      simp [this]
theorem wipeE_length (ρ : Env) : ∀ vs : List Nat, (wipeE ρ vs).length = ρ.length
  | [] => rfl
  | v :: vs => by unfold wipeE; rw [List.length_set, wipeE_length ρ vs]
theorem wipeE_some {ρ : Env} {i : Nat} {d : D} : ∀ {vs : List Nat}, (wipeE ρ vs)[i]? = some (some d) → ρ[i]? = some (some d) ∧ i ∉ vs
  | [], h => ⟨h, by simp⟩
  | v :: vs, h => by
    unfold wipeE at h
    by_cases hi : v = i
    · subst hi
      by_cases hv : v < (wipeE ρ vs).length
      · rw [List.getElem?_set_self hv] at h; cases h
      · rw [List.getElem?_eq_none (by simpa using hv)] at h; cases h
    · rw [List.getElem?_set_ne hi] at h
      obtain ⟨h1, h2⟩ := wipeE_some h
      exact ⟨h1, by simp only [List.mem_cons, not_or]; exact ⟨fun e => hi e.symm, h2⟩⟩
theorem wipe_back {σ σ' : St} {vs l : List Nat} (hl : ∀ i ∈ l, i ∈ vs) (h : ∀ i, i ∉ l → σ'[i]? = (wipe σ vs)[i]?) (hn : σ'.length = (wipe σ vs).length) : wipe σ' vs = wipe σ vs := by
  apply List.ext_getElem?
  intro i
  rw [wipe_get, wipe_get]
  rw [wipe_length] at hn
  by_cases hv : i ∈ vs
  · by_cases hi : i < σ.length
    · rw [if_pos ⟨hv, by omega⟩, if_pos ⟨hv, hi⟩]
    · rw [if_neg (fun q => hi (by omega)), if_neg (fun q => hi q.2), List.getElem?_eq_none (by omega), List.getElem?_eq_none (by omega)]
  · rw [if_neg (fun q => hv q.1), if_neg (fun q => hv q.1), h i (fun q => hv (hl i q)), wipe_get, if_neg (fun q => hv q.1)]
theorem ER.wipe {σ : St} {ρ : Env} (E : ER K ow f Z H σ ρ st) (vs : List Nat) (hvo : ∀ i ∈ vs, i ∉ ow) : ER K ow f Z H (L2.wipe σ vs) (wipeE ρ vs) st :=
  ⟨E.st, by rw [wipeE_length, wipe_length]; exact E.len, fun i d e => by
    obtain ⟨h1, h2⟩ := wipeE_some e
    obtain ⟨v, e1, r⟩ := E.sl i d h1
    exact ⟨v, by rw [wipe_get, if_neg (fun q => h2 q.1)]; exact e1, r⟩⟩

theorem Ext.moreF (x : Ext f H f' H') {p : Addr} (hp : H p = none) : Frm f Z H f' (fun a => Z a ∨ a = p) H' := by
  obtain ⟨g, rfl, hg⟩ := x.pre
  refine ⟨fun b o e n z => ⟨x.keep b o e n, fun hm => ?_, fun q => q.elim z fun q => ne_of_none e hp q⟩, g, rfl⟩
  rcases List.mem_append.mp hm with h | h
  · exact n h
  · rw [hg b h] at e; cases e
theorem Tp.more {d : D} {v : V} (x : Ext f H f' H') {p : Addr} (hp : H p = none) (t : Tp K f Z H d v) : Tp K f' (fun a => Z a ∨ a = p) H' d v := by
  have F : Frm f Z H f' (fun a => Z a ∨ a = p) H' := x.moreF hp
  cases t with
  | rp h => exact .rp (h.frm F)
  | lst h r => exact .lst (h.frm x.frm) (r.frm F)
  | dic h r l k => exact .dic (h.frm x.frm) (r.frm F) l k
theorem ER.more {σ : St} {ρ : Env} (E : ER K ow f Z H σ ρ st) (x : Ext f H f' H') {p : Addr} (hp : H p = none) (S : StR K f' (fun a => Z a ∨ a = p) H' st') : ER K ow f' (fun a => Z a ∨ a = p) H' σ ρ st' :=
  ⟨S, E.len, fun i d e => by
    obtain ⟨v, e1, t, r⟩ := E.sl i d e
    exact ⟨v, e1, t.more x hp, fun h => (r h).frm (x.moreF hp)⟩⟩
theorem Ext.upd (x : Ext f H f' H') {p : Addr} (hp : H p = none) (o : HO) : Ext f H f' (L2.upd H' p o) := by
  refine ⟨fun b u e n => ?_, x.pre, fun a ha => ?_⟩
  · rw [upd_ne (ne_of_none e hp)]
    exact x.keep b u e n
  · by_cases h : a = p
    · rw [h, upd_same]; exact fun z => nomatch z
    · rw [upd_ne h]; exact x.live a ha
/-- an object of Z is written -/
theorem Frm.updZ {p : Addr} (o : HO) (hp : Z p) : Frm f Z H f Z (L2.upd H p o) := ⟨fun b u e n z => ⟨by rw [upd_ne (fun q => z (by rw [q]; exact hp))]; exact e, n, z⟩, [], by simp⟩
theorem StR.updZ {p : Addr} (S : StR K f Z H st) (o : HO) (hp : Z p) (ho : ObH (some o)) : StR K f Z (L2.upd H p o) st := by
  refine ⟨S.nd, S.len, fun n u a e1 e2 => (S.at_ n u a e1 e2).frm (Frm.updZ o hp) (upd_ne fun z => (S.zt p hp).1 (z ▸ List.mem_of_getElem? e2)), fun a z => ⟨(S.zt a z).1, ?_⟩⟩
  by_cases ha : a = p
  · rw [ha, upd_same]; exact ho
  · rw [upd_ne ha]; exact (S.zt a z).2
theorem tLc_of {elt cond : EM} {tg : Tg} {it : LM} {vs : List Nat} {σ : St} {Q : VK} (hsl : ∀ i ∈ tg.slots, i ∈ vs) (hvo : ∀ i ∈ vs, i ∉ ow)
    (q : tEv K ow .F (mComp elt tg it cond vs) σ H Q) : tLc (tIv K ow .T tg.isTup it) (gOf K tg) (tBv K ow cond) (tEv K ow .C elt) vs σ H Q := by
  obtain ⟨f, Z, ρ, st, E, d, st', e, q⟩ := q
  obtain ⟨l, st1, e1, e⟩ := R.bind_eq (show (it ρ st).bind _ = _ from e)
  obtain ⟨ds, st2, e2, e⟩ := R.bind_eq e
  cases e
  refine ⟨f, Z, ρ, st, E, l, st1, e1, fun f1 H1 J Ok x1 S1 hl hs ho he D hD => ?_⟩
  have kD := keep_new (o := HO.lst []) hD
  have hD0 : H D = none := x1.isN hD
  have S1' : StR K f1 (fun a => Z a ∨ a = D) (upd H1 D (.lst [])) st1 := S1.more hD (by rw [upd_same]; trivial) kD
  let Inv : Nat → Hp → Prop := fun i Hi => ∃ f2 st2 acc accV rest, Ext f1 H1 f2 Hi ∧ StR K f2 (fun a => Z a ∨ a = D) Hi st2 ∧ Hi D = some (.lst accV) ∧ accV.length ≤ i ∧
    Rps K f2 (fun a => Z a ∨ a = D) Hi acc accV ∧ compGo elt tg cond (wipeE ρ vs) (l.drop i) st2 = .ok rest st' ∧ acc ++ rest = ds ∧ i ≤ l.length
  refine ⟨fun i m Hi => m = l.length - i ∧ Inv i Hi, ⟨_, rfl, f1, st1, [], [], ds, Ext.same S1 kD, S1', upd_same, Nat.le_refl _, .nil, by rw [List.drop_zero]; exact e2, rfl, Nat.zero_le _⟩, ?_⟩
  rintro i m Hi ⟨rfl, f2, st2, acc, accV, rest, x2, S2, hD2, hle, ra, eg, ea, hi⟩
  have ho2 : Ok f2 (fun a => Z a ∨ a = D) Hi := hs f1 Z H1 f2 _ Hi (fun _ => x2) (x2.moreF hD) ho
  obtain ⟨hgo, hst⟩ := he f2 _ Hi st2 ho2 S2
  by_cases hlt : i < l.length
  · obtain ⟨g1, g2⟩ := hgo i hlt
    refine .inr ⟨g1, Inv (i + 1), fun H' h => ⟨_, by omega, rfl, h⟩, fun x H' hy => ?_⟩
    obtain ⟨ky, dx, hdx, rx⟩ := g2 x H' hy
    rw [List.drop_eq_getElem_cons hlt] at eg
    have edx : l[i] = dx := by
      rw [List.getElem?_eq_getElem hlt] at hdx
      exact Option.some.inj hdx
    rw [edx] at eg
    unfold compGo at eg
    cases hset : tg.set dx (wipeE ρ vs) with
    | none => rw [hset] at eg; cases eg
    | some ρ1 =>
      rw [hset, onO_some] at eg
      obtain ⟨c, st3, ec, eg⟩ := R.bind_eq eg
      have X2 : Ext f2 Hi f2 H' := Ext.same S2 ky
      have E3 : ER K ow f2 (fun a => Z a ∨ a = D) H' (L2.wipe σ vs) (wipeE ρ vs) st2 := (E.more (x1.trans (x2.trans X2)) hD0 (S2.same ky)).wipe vs hvo
      refine gOf_item tg (fun i hi => hvo i (hsl i hi)) E3 rx hset fun σ1 E4 c4 => ?_
      refine ⟨wipe_back hsl c4.sg c4.ls, ?_⟩
      cases c with
      | bl b =>
        refine ⟨f2, _, ρ1, st2, E4, b, st3, ec, fun f3 H3 x3 S3 => ?_⟩
        have hD3 : H3 D = some (.lst accV) := (X2.trans x3).keep D _ hD2 (S2.zt D (.inr rfl)).1
        cases b with
        | true =>
          rw [onB_true] at eg
          obtain ⟨dy, st4, ey, eg⟩ := R.bind_eq eg
          obtain ⟨dr, st5, er, eg⟩ := R.bind_eq eg
          cases eg
          refine ⟨f3, _, ρ1, st3, E4.ext x3 S3, dy, st4, ey, fun f4 H4 y x4 ⟨S4, ry⟩ => ?_⟩
          have x24 := (X2.trans x3).trans x4
          have hD4 : H4 D = some (.lst accV) := x24.keep D _ hD2 (S2.zt D (.inr rfl)).1
          refine ⟨accV, hD4, by omega, ?_⟩
          have F5 : Frm f4 (fun a => Z a ∨ a = D) H4 f4 (fun a => Z a ∨ a = D) (upd H4 D (.lst (accV ++ [y]))) := Frm.updZ _ (.inr rfl)
          exact ⟨f4, st4, acc ++ [dy], accV ++ [y], dr, (x2.trans x24).upd hD _, S4.updZ _ (.inr rfl) trivial, upd_same, by rw [List.length_append]; simp; omega, ((ra.frm x24.frm).frm F5).snoc (ry.frm F5), er, by rw [List.append_assoc]; exact ea, hlt⟩
        | false =>
          rw [onB_false] at eg
          exact ⟨f3, st3, acc, accV, rest, (x2.trans X2).trans x3, S3, hD3, by omega, ra.frm (X2.trans x3).frm, eg, ea, hlt⟩
      | _ => cases eg
  · have hi' : i = l.length := by omega
    subst hi'
    rw [List.drop_length] at eg
    cases eg
    rw [List.append_nil] at ea
    subst ea
    refine .inl ⟨hst, q f2 Hi (.ref D) (x1.trans x2) ⟨fun e => (nomatch e), fun _ => ⟨D, rfl, hD0, S2, ?_⟩⟩⟩
    exact .lst ⟨hD2, (S2.zt D (.inr rfl)).1, fun z => z, by omega⟩ ra
end
end SH

namespace SH
open PySem L2
/-- what no frozen value may use: the caller's Z0, and what the owned slots hold -/
def ZO (ow : List Nat) (Z0 : Addr → Prop) (σ : St) (ρ : Env) : Addr → Prop := fun a => Z0 a ∨ ∃ i ∈ ow, (∃ d, ρ[i]? = some (some d)) ∧ σ[i]? = some (some (.ref a))
structure SR (K : Frag) (ow : List Nat) (f0 : List Addr) (H0 : Hp) (Z0 : Addr → Prop) (f : List Addr) (H : Hp) (σ : St) (ρ : Env) (st : Store) : Prop where
  er : ER K ow f (ZO ow Z0 σ ρ) H σ ρ st
  ext : Ext f0 H0 f H
  fr : ∀ i ∈ ow, ∀ d a, ρ[i]? = some (some d) → σ[i]? = some (some (.ref a)) → H0 a = none
  ob : ∀ i ∈ ow, ∀ d, ρ[i]? = some (some d) → d.isObj = true
  ds : ∀ i ∈ ow, ∀ j ∈ ow, i ≠ j → ∀ d d' a, ρ[i]? = some (some d) → ρ[j]? = some (some d') → σ[i]? = some (some (.ref a)) → σ[j]? ≠ some (some (.ref a))
  z0 : ∀ a, Z0 a → H0 a ≠ none
def After (K : Frag) (ow : List Nat) (kf : Kd) (f0 : List Addr) (H0 : Hp) (Z0 : Addr → Prop) (f : List Addr) (H : Hp) (σ : St) (ρ : Env) (D : Ends) (ρ' : Env) (st' : Store) : Fl → Prop
  | .next => ∀ f' H' σ', SR K ow f0 H0 Z0 f' H' σ' ρ' st' → Frm f (ZO ow Z0 σ ρ) H f' (ZO ow Z0 σ' ρ') H' → D.nx σ' H'
  | .ret d => ∀ f' H' v, Ext f0 H0 f' H' → Post K kf H0 f' Z0 H' st' d v → D.rt v H'
def tSt (K : Frag) (ow : List Nat) (kf : Kd) (ms : SM) : TS := fun D σ H => ∃ f0 H0 Z0 f ρ st, SR K ow f0 H0 Z0 f H σ ρ st ∧ ∃ fl ρ' st', ms ρ st = .ok (fl, ρ') st' ∧ After K ow kf f0 H0 Z0 f H σ ρ D ρ' st' fl
theorem After.from {K : Frag} {ow : List Nat} {kf : Kd} {f0 : List Addr} {H0 : Hp} {Z0 : Addr → Prop} {f f1 : List Addr} {H H1 : Hp} {σ σ1 : St} {ρ ρ1 : Env} {D : Ends} {ρ' : Env} {st' : Store} {fl : Fl}
    (F : Frm f (ZO ow Z0 σ ρ) H f1 (ZO ow Z0 σ1 ρ1) H1) (h : After K ow kf f0 H0 Z0 f H σ ρ D ρ' st' fl) : After K ow kf f0 H0 Z0 f1 H1 σ1 ρ1 D ρ' st' fl := by
  cases fl with
  | next => exact fun f' H' σ' s' F' => h f' H' σ' s' (F.trans F')
  | ret d => exact h
section
variable {K : Frag} {ow : List Nat} {kf : Kd} {f0 f f' f1 f2 : List Addr} {Z Z' Z0 : Addr → Prop} {H0 H H' H1 H2 : Hp} {st st' st1 : Store} {σ σ' : St} {ρ ρ' : Env} {X : Cx}
theorem ZO_eq (h : ∀ i ∈ ow, σ'[i]? = σ[i]? ∧ ρ'[i]? = ρ[i]?) : ZO ow Z0 σ' ρ' = ZO ow Z0 σ ρ := by
  funext a
  apply propext
  unfold ZO
  constructor
  · rintro (z | ⟨i, hi, h1, h2⟩)
    · exact .inl z
    · exact .inr ⟨i, hi, by rw [← (h i hi).2]; exact h1, by rw [← (h i hi).1]; exact h2⟩
  · rintro (z | ⟨i, hi, h1, h2⟩)
    · exact .inl z
    · exact .inr ⟨i, hi, by rw [(h i hi).2]; exact h1, by rw [(h i hi).1]; exact h2⟩
theorem SR.step (s : SR K ow f0 H0 Z0 f H σ ρ st) (x : Ext f H f1 H1) (S : StR K f1 (ZO ow Z0 σ ρ) H1 st1) : SR K ow f0 H0 Z0 f1 H1 σ ρ st1 :=
  ⟨s.er.ext x S, s.ext.trans x, s.fr, s.ob, s.ds, s.z0⟩
/-- at a return the owned slots are like the others -/
theorem SR.final (s : SR K ow f0 H0 Z0 f H σ ρ st) : ER K [] f Z0 H σ ρ st := by
  refine ⟨s.er.st.less fun a z => .inl z, s.er.len, fun i d e => ?_⟩
  obtain ⟨v, e1, t, r⟩ := s.er.sl i d e
  have main : Rp K f Z0 H d v := by
    by_cases hi : i ∈ ow
    · cases t with
      | rp h => exact h.less fun a z => .inl z
      | lst h r' =>
        obtain ⟨p1, p2, p3, p4⟩ := h
        have := s.fr i hi _ _ e e1
        exact .lst ⟨p1, p2, fun z => s.z0 _ z this, p4⟩ (r'.less fun a z => .inl z)
      | dic h r' l k =>
        obtain ⟨p1, p2, p3, p4⟩ := h
        have := s.fr i hi _ _ e e1
        exact .dic ⟨p1, p2, fun z => s.z0 _ z this, p4⟩ (r'.less fun a z => .inl z) l k
    · exact (r hi).less fun a z => .inl z
  exact ⟨v, e1, .rp main, fun _ => main⟩
theorem tSt_ret {m : EM} {D : Ends} (q : tSt K ow kf (mRet m) D σ H) : tRet (tEv K [] kf m) D σ H := by
  obtain ⟨f0, H0, Z0, f, ρ, st, s, fl, ρ', st', e, q⟩ := q
  obtain ⟨d, st1, e1, e⟩ := R.bind_eq (show (m ρ st).bind _ = _ from e)
  cases e
  exact ⟨f, Z0, ρ, st, s.final, d, _, e1, fun f1 H1 v x1 p => q f1 H1 v (s.ext.trans x1) (p.from s.ext)⟩
theorem tSt_seq {a b : SM} {D : Ends} (q : tSt K ow kf (mSeq a b) D σ H) : tSeq (tSt K ow kf a) (tSt K ow kf b) D σ H := by
  obtain ⟨f0, H0, Z0, f, ρ, st, s, fl, ρ', st', e, q⟩ := q
  obtain ⟨⟨fl1, ρ1⟩, st1, e1, e⟩ := R.bind_eq (show (a ρ st).bind _ = _ from e)
  cases fl1 with
  | next => exact ⟨f0, H0, Z0, f, ρ, st, s, .next, ρ1, st1, e1, fun f1 H1 σ1 s1 F1 => ⟨f0, H0, Z0, f1, ρ1, st1, s1, fl, ρ', st', e, q.from F1⟩⟩
  | ret d =>
    cases e
    exact ⟨f0, H0, Z0, f, ρ, st, s, .ret d, _, _, e1, q⟩
theorem tSt_skip {D : Ends} (q : tSt K ow kf mSkip D σ H) : tNext D σ H := by
  obtain ⟨f0, H0, Z0, f, ρ, st, s, fl, ρ', st', e, q⟩ := q
  cases e
  exact q f H σ s Frm.refl
theorem tSt_if {c : EM} {a b : SM} {D : Ends} (q : tSt K ow kf (mIf c a b) D σ H) : tIfS (tBv K ow c) (tSt K ow kf a) (tSt K ow kf b) D σ H := by
  obtain ⟨f0, H0, Z0, f, ρ, st, s, fl, ρ', st', e, q⟩ := q
  obtain ⟨dx, st1, e1, e⟩ := R.bind_eq (show (c ρ st).bind _ = _ from e)
  cases dx with
  | bl t =>
    refine ⟨f, _, ρ, st, s.er, t, st1, e1, fun f1 H1 x1 S1 => ?_⟩
    have s1 := s.step x1 S1
    have fin := q.from x1.frm
    cases t with
    | true => exact ⟨f0, H0, Z0, f1, ρ, st1, s1, fl, ρ', st', e, fin⟩
    | false => exact ⟨f0, H0, Z0, f1, ρ, st1, s1, fl, ρ', st', e, fin⟩
  | _ => cases e
theorem SR.chg {l : List Nat} (s : SR K ow f0 H0 Z0 f H σ ρ st) (hl : ∀ i ∈ l, i ∉ ow) (E : ER K ow f (ZO ow Z0 σ ρ) H σ' ρ' st) (c : Chg l σ ρ σ' ρ') : SR K ow f0 H0 Z0 f H σ' ρ' st ∧ ZO ow Z0 σ' ρ' = ZO ow Z0 σ ρ := by
  have k : ∀ i ∈ ow, σ'[i]? = σ[i]? ∧ ρ'[i]? = ρ[i]? := fun i hi => ⟨c.sg i fun q => hl i q hi, c.ro i fun q => hl i q hi⟩
  have z := ZO_eq (Z0 := Z0) k
  refine ⟨⟨by rw [z]; exact E, s.ext, fun i hi d a e1 e2 => ?_, fun i hi d e => ?_, fun i hi j hj n d d' a e1 e2 e3 => ?_, s.z0⟩, z⟩
  · rw [(k i hi).2] at e1
    rw [(k i hi).1] at e2
    exact s.fr i hi d a e1 e2
  · rw [(k i hi).2] at e
    exact s.ob i hi d e
  · rw [(k i hi).2] at e1
    rw [(k j hj).2] at e2
    rw [(k i hi).1] at e3
    rw [(k j hj).1]
    exact s.ds i hi j hj n d d' a e1 e2 e3
theorem tSt_asg {m : EM} {tg : Tg} {D : Ends} (hl : ∀ i ∈ tg.slots, i ∉ ow) (q : tSt K ow kf (mAsg tg m) D σ H) : tAsg (tEv K ow .C m) (gOf K tg) D σ H := by
  obtain ⟨f0, H0, Z0, f, ρ, st, s, fl, ρ', st', e, q⟩ := q
  obtain ⟨d, st1, e1, e⟩ := R.bind_eq (show (m ρ st).bind _ = _ from e)
  cases hs : tg.set d ρ with
  | none => rw [hs] at e; cases e
  | some ρ1 =>
    rw [hs] at e
    cases e
    refine ⟨f, _, ρ, st, s.er, d, _, e1, fun f1 H1 v x1 ⟨S1, r1⟩ => ?_⟩
    have s1 := s.step x1 S1
    refine gOf_run tg hl s1.er r1 hs fun σ1 E1 c => ?_
    obtain ⟨s2, z⟩ := s1.chg hl E1 c
    exact q f1 H1 σ1 s2 (by rw [z]; exact x1.frm)
theorem tSt_expr {m : EM} {D : Ends} (q : tSt K ow kf (mExpr m) D σ H) : tDrop (tEv K ow .C m) D σ H := by
  obtain ⟨f0, H0, Z0, f, ρ, st, s, fl, ρ', st', e, q⟩ := q
  obtain ⟨d, st1, e1, e⟩ := R.bind_eq (show (m ρ st).bind _ = _ from e)
  cases e
  exact ⟨f, _, ρ, st, s.er, d, _, e1, fun f1 H1 v x1 ⟨S1, r1⟩ => q f1 H1 σ (s.step x1 S1) x1.frm⟩
theorem tSt_par {ma mb : EM} {i j : Nat} {D : Ends} (hi : i ∉ ow) (hj : j ∉ ow) (q : tSt K ow kf (mPar i j ma mb) D σ H) : tPar i j (tAv K ow (mArgs [ma, mb])) D σ H := by
  obtain ⟨f0, H0, Z0, f, ρ, st, s, fl, ρ', st', e, q⟩ := q
  obtain ⟨ds, st1, e1, e⟩ := R.bind_eq (show (mArgs [ma, mb] ρ st).bind _ = _ from e)
  refine ⟨f, _, ρ, st, s.er, ds, st1, e1, fun f1 H1 vs x1 S1 r1 => ?_⟩
  cases r1 with
  | nil => cases e
  | @cons da _ va _ ra r1 =>
    cases r1 with
    | nil => cases e
    | @cons db _ vb _ rb r1 =>
      cases r1 with
      | cons _ _ => cases e
      | nil =>
        cases e
        have s1 := s.step x1 S1
        have c := (chg_set (σ := σ) (ρ := ρ) i (some va) (some da)).trans (chg_set j (some vb) (some db))
        obtain ⟨s2, z⟩ := s1.chg (l := [i] ++ [j]) (fun k hk => by
          rcases List.mem_append.mp hk with h | h
          · rw [List.mem_singleton.mp h]; exact hi
          · rw [List.mem_singleton.mp h]; exact hj) ((s1.er.set (.rp ra) fun _ => ra).set (.rp rb) fun _ => rb) c
        exact ⟨_, _, rfl, q f1 H1 _ s2 (by rw [z]; exact x1.frm)⟩
theorem ER.less (E : ER K ow f Z H σ ρ st) (h : ∀ a, Z' a → Z a) : ER K ow f Z' H σ ρ st :=
  ⟨E.st.less h, E.len, fun i d e => by
    obtain ⟨v, e1, t, r⟩ := E.sl i d e
    refine ⟨v, e1, ?_, fun q => (r q).less h⟩
    cases t with
    | rp h1 => exact .rp (h1.less h)
    | lst h1 r1 => exact .lst h1 (r1.less h)
    | dic h1 r1 l k => exact .dic h1 (r1.less h) l k⟩
theorem tSt_own {m : EM} {i : Nat} {D : Ends} (hi : i ∈ ow) (q : tSt K ow kf (mOwn i m) D σ H) : tAsg (tEv K ow .F m) (gName i) D σ H := by
  obtain ⟨f0, H0, Z0, f, ρ, st, s, fl, ρ', st', e, q⟩ := q
  obtain ⟨d, st1, e1, e⟩ := R.bind_eq (show (m ρ st).bind _ = _ from e)
  by_cases ho : d.isObj = true
  · rw [if_pos ho] at e
    cases e
    refine ⟨f, _, ρ, st, s.er, d, _, e1, fun f1 H1 v x1 ⟨_, p1⟩ => ?_⟩
    obtain ⟨p, rfl, hp, S1, t1⟩ := p1 ho
    show D.nx (σ.set i (some (.ref p))) H1
    have E1 := s.er.more x1 hp S1
    have E2 := E1.set (i := i) t1 (fun q => absurd hi q)
    have zz : ∀ a, ZO ow Z0 (σ.set i (some (.ref p))) (ρ.set i (some d)) a → (ZO ow Z0 σ ρ a ∨ a = p) := fun a z => by
      rcases z with z | ⟨j, hj, ⟨d', h1⟩, h2⟩
      · exact .inl (.inl z)
      · by_cases hij : i = j
        · subst hij
          have hl : i < σ.length := by simpa using (List.getElem?_eq_some_iff.mp h2).1
          rw [List.getElem?_set_self hl] at h2
          cases h2
          exact .inr rfl
        · rw [List.getElem?_set_ne hij] at h1 h2
          exact .inl (.inr ⟨j, hj, ⟨d', h1⟩, h2⟩)
    have old : ∀ j ∈ ow, ∀ d' a, ρ[j]? = some (some d') → σ[j]? = some (some (.ref a)) → a ≠ p := fun j hj d' a h1 h2 z => by
      have := (s.er.st.zt a (.inr ⟨j, hj, ⟨d', h1⟩, h2⟩)).2.ne
      rw [z, hp] at this
      exact this rfl
    have hl : ∀ {α : Type} {x : α} {y : Option α} {l : List (Option α)}, (l.set i y)[i]? = some (some x) → y = some x := fun {α x y l} h => by
      have hl : i < l.length := by simpa using (List.getElem?_eq_some_iff.mp h).1
      rw [List.getElem?_set_self hl] at h
      cases h
      rfl
    refine q f1 H1 _ ⟨E2.less zz, s.ext.trans x1, fun j hj d' a h1 h2 => ?_, fun j hj d' h1 => ?_, fun j hj k hk n d' d'' a h1 h2 h3 h4 => ?_, s.z0⟩ ((x1.moreF hp).trans (Frm.less zz))
    · by_cases hij : i = j
      · subst hij
        cases hl h2
        exact s.ext.isN hp
      · rw [List.getElem?_set_ne hij] at h1 h2
        exact s.fr j hj d' a h1 h2
    · by_cases hij : i = j
      · subst hij
        cases hl h1
        exact ho
      · rw [List.getElem?_set_ne hij] at h1
        exact s.ob j hj d' h1
    · by_cases hij : i = j
      · subst hij
        cases hl h3
        rw [List.getElem?_set_ne n] at h2 h4
        exact old k hk _ _ h2 h4 rfl
      · rw [List.getElem?_set_ne hij] at h1 h3
        by_cases hik : i = k
        · subst hik
          cases hl h4
          exact old j hj _ _ h1 h3 rfl
        · rw [List.getElem?_set_ne hik] at h2 h4
          exact s.ds j hj k hk n d' d'' a h1 h2 h3 h4
  · rw [if_neg ho] at e; cases e
/-- the object of an owned slot is written -/
theorem SR.updO {i : Nat} {a : Addr} {d0 d : D} {o : HO} (s : SR K ow f0 H0 Z0 f H σ ρ st) (hi : i ∈ ow) (h1 : ρ[i]? = some (some d0)) (h2 : σ[i]? = some (some (.ref a))) (ho : d.isObj = true)
    (t : Tp K f (ZO ow Z0 σ ρ) (L2.upd H a o) d (.ref a)) : SR K ow f0 H0 Z0 f (L2.upd H a o) σ (ρ.set i (some d)) st ∧ Frm f (ZO ow Z0 σ ρ) H f (ZO ow Z0 σ (ρ.set i (some d))) (L2.upd H a o) := by
  have za : ZO ow Z0 σ ρ a := .inr ⟨i, hi, ⟨d0, h1⟩, h2⟩
  have F : Frm f (ZO ow Z0 σ ρ) H f (ZO ow Z0 σ ρ) (L2.upd H a o) := Frm.updZ o za
  have hl : i < ρ.length := (List.getElem?_eq_some_iff.mp h1).1
  have zeq : ZO ow Z0 σ (ρ.set i (some d)) = ZO ow Z0 σ ρ := by
    funext b
    apply propext
    unfold ZO
    constructor
    · rintro (z | ⟨j, hj, ⟨d', e1⟩, e2⟩)
      · exact .inl z
      · by_cases hij : i = j
        · subst hij
          exact .inr ⟨i, hj, ⟨d0, h1⟩, e2⟩
        · rw [List.getElem?_set_ne hij] at e1
          exact .inr ⟨j, hj, ⟨d', e1⟩, e2⟩
    · rintro (z | ⟨j, hj, ⟨d', e1⟩, e2⟩)
      · exact .inl z
      · by_cases hij : i = j
        · subst hij
          exact .inr ⟨i, hj, ⟨d, List.getElem?_set_self hl⟩, e2⟩
        · exact .inr ⟨j, hj, ⟨d', by rw [List.getElem?_set_ne hij]; exact e1⟩, e2⟩
  rw [zeq]
  have nf := (s.er.st.zt a za).1
  have oo : ObH (some o) := by
    have g : ∀ u, L2.upd H a o a = some u → some o = some u := fun u e => by rw [← e, upd_same]
    cases t with
    | rp h => cases h <;> first | (cases ho; done) | (rename_i h; rw [g _ h.1]; trivial) | (rename_i h _ _ _; rw [g _ h.1]; trivial) | (rename_i h _; rw [g _ h.1]; trivial)
    | lst h r => rw [g _ h.1]; trivial
    | dic h r l k => rw [g _ h.1]; trivial
  have S1 : StR K f (ZO ow Z0 σ ρ) (L2.upd H a o) st := s.er.st.updZ o za oo
  have E' : ER K ow f (ZO ow Z0 σ ρ) (L2.upd H a o) σ (ρ.set i (some d)) st := by
    refine ⟨S1, by rw [List.length_set]; exact s.er.len, fun j d' e => ?_⟩
    by_cases hij : i = j
    · subst hij
      rw [List.getElem?_set_self hl] at e
      cases e
      exact ⟨_, h2, t, fun q => absurd hi q⟩
    · rw [List.getElem?_set_ne hij] at e
      obtain ⟨v, g1, t1, r1⟩ := s.er.sl j d' e
      refine ⟨v, g1, ?_, fun q => (r1 q).frm F⟩
      cases t1 with
      | rp h => exact .rp (h.frm F)
      | @lst b l vs h r =>
        obtain ⟨p1, p2, p3, p4⟩ := h
        by_cases hj : j ∈ ow
        · have hb : b ≠ a := fun z => s.ds i hi j hj hij _ _ a h1 e h2 (z ▸ g1)
          exact .lst ⟨by rw [upd_ne hb]; exact p1, p2, p3, p4⟩ (r.frm F)
        · exact .rp ((r1 hj).frm F)
      | @dic b ks l vs h r lk ko =>
        obtain ⟨p1, p2, p3, p4⟩ := h
        by_cases hj : j ∈ ow
        · have hb : b ≠ a := fun z => s.ds i hi j hj hij _ _ a h1 e h2 (z ▸ g1)
          exact .dic ⟨by rw [upd_ne hb]; exact p1, p2, p3, p4⟩ (r.frm F) lk ko
        · exact .rp ((r1 hj).frm F)
  refine ⟨⟨by rw [zeq]; exact E', s.ext.upd (s.fr i hi d0 a h1 h2) o, fun j hj d' b e1 e2 => ?_, fun j hj d' e1 => ?_, fun j hj k hk n d' d'' b e1 e2 e3 => ?_, s.z0⟩, F⟩
  · by_cases hij : i = j
    · subst hij
      exact s.fr i hj d0 b h1 e2
    · rw [List.getElem?_set_ne hij] at e1
      exact s.fr j hj d' b e1 e2
  · by_cases hij : i = j
    · subst hij
      rw [List.getElem?_set_self hl] at e1
      cases e1
      exact ho
    · rw [List.getElem?_set_ne hij] at e1
      exact s.ob j hj d' e1
  · have back : ∀ k d', (ρ.set i (some d))[k]? = some (some d') → ∃ d'', ρ[k]? = some (some d'') := fun k d' e => by
      by_cases hik : i = k
      · subst hik; exact ⟨d0, h1⟩
      · rw [List.getElem?_set_ne hik] at e; exact ⟨d', e⟩
    obtain ⟨x1, y1⟩ := back j d' e1
    obtain ⟨x2, y2⟩ := back k d'' e2
    exact s.ds j hj k hk n x1 x2 b y1 y2 e3
/-- a list at the top -/
theorem Tp.lst_at {l : List D} {v : V} (t : Tp K f Z H (.lst l) v) : ∃ a vs, v = .ref a ∧ H a = some (.lst vs) ∧ a ∉ f ∧ vs.length ≤ sizeLine ∧ Rps K f Z H l vs := by
  cases t with
  | rp h =>
    cases h with
    | lst h r =>
      obtain ⟨p1, p2, p3, p4⟩ := h
      exact ⟨_, _, rfl, p1, p2, p4, r⟩
  | lst h r =>
    obtain ⟨p1, p2, p3, p4⟩ := h
    exact ⟨_, _, rfl, p1, p2, p4, r⟩
theorem Tp.dic_at {ks : List Key} {l : List D} {v : V} (t : Tp K f Z H (.dic ks l) v) : ∃ a vs, v = .ref a ∧ H a = some (.dK (ks.zip vs)) ∧ a ∉ f ∧ (ks.zip vs).length ≤ sizeLine ∧ Rps K f Z H l vs ∧ ks.length = l.length ∧ KeysOk ks := by
  cases t with
  | rp h =>
    cases h with
    | dic h r lk ko =>
      obtain ⟨p1, p2, p3, p4⟩ := h
      exact ⟨_, _, rfl, p1, p2, p4, r, lk, ko⟩
  | dic h r lk ko =>
    obtain ⟨p1, p2, p3, p4⟩ := h
    exact ⟨_, _, rfl, p1, p2, p4, r, lk, ko⟩
theorem tSt_app {m : EM} {i : Nat} {D : Ends} (hi : i ∈ ow) (q : tSt K ow kf (mApp i m) D σ H) : tDrop (tBM K "list" rAppend (tVar i) (tCons (tEv K ow .C m) tNil)) D σ H := by
  obtain ⟨f0, H0, Z0, f, ρ, st, s, fl, ρ', st', e, q⟩ := q
  unfold mApp at e
  split at e
  · rename_i l hl
    obtain ⟨d, st1, e1, e⟩ := R.bind_eq e
    by_cases hz : l.length < sizeLine
    · rw [if_pos hz] at e
      cases e
      obtain ⟨v, hv, t, _⟩ := s.er.sl i _ hl
      obtain ⟨a, vs, rfl, ha, nf, lz, r⟩ := t.lst_at
      refine ⟨_, hv, .inl ⟨rfl, vs, SqL.of ha⟩, f, _, ρ, st, s.er, d, _, e1, fun f1 H1 y x1 ⟨S1, r1⟩ => ?_⟩
      have s1 := s.step x1 S1
      have ha1 := x1.keep a _ ha nf
      have hlen : vs.length < sizeLine := by rw [← r.length]; exact hz
      refine ⟨a, vs, y, rfl, rfl, ha1, hlen, ?_⟩
      have F := Frm.updZ (f := f1) (H := H1) (p := a) (.lst (vs ++ [y])) (show ZO ow Z0 σ ρ a from .inr ⟨i, hi, ⟨_, hl⟩, hv⟩)
      obtain ⟨s2, F2⟩ := s1.updO (o := .lst (vs ++ [y])) (d := .lst (l ++ [d])) hi hl hv rfl
        (.lst ⟨upd_same, (S1.zt a (.inr ⟨i, hi, ⟨_, hl⟩, hv⟩)).1, fun z => z, by rw [List.length_append]; exact hlen⟩ (((r.frm x1.frm).frm F).snoc (r1.frm F)))
      exact q f1 _ σ s2 (x1.frm.trans F2)
    · rw [if_neg hz] at e; cases e
  · cases e
/-- an owned list is handed back: a new one -/
theorem tSt_retO {i : Nat} {D : Ends} (hi : i ∈ ow) (q : tSt K ow .F (mRet (mVar i)) D σ H) : tRet (tVar i) D σ H := by
  obtain ⟨f0, H0, Z0, f, ρ, st, s, fl, ρ', st', e, q⟩ := q
  obtain ⟨d, st1, e1, e⟩ := R.bind_eq (show (mVar i ρ st).bind _ = _ from e)
  cases e
  unfold mVar at e1
  cases hd : ρ[i]? with
  | none => rw [hd] at e1; cases e1
  | some o =>
    cases o with
    | none => rw [hd] at e1; cases e1
    | some d0 =>
      rw [hd] at e1
      cases e1
      obtain ⟨v, hv, t, _⟩ := s.er.sl i _ hd
      have ho := s.ob i hi _ hd
      have hva : ∃ a, v = .ref a := by
        cases t with
        | rp h => cases h <;> first | exact ⟨_, rfl⟩ | cases ho
        | lst _ _ => exact ⟨_, rfl⟩
        | dic _ _ _ _ => exact ⟨_, rfl⟩
      obtain ⟨a, rfl⟩ := hva
      have zz : ∀ b, (Z0 b ∨ b = a) → ZO ow Z0 σ ρ b := fun b z => z.elim .inl fun e => .inr ⟨i, hi, ⟨_, hd⟩, by rw [e]; exact hv⟩
      refine ⟨_, hv, q f H _ s.ext ⟨fun e => absurd (ho.symm.trans e) (by decide), fun _ => ⟨a, rfl, s.fr i hi _ _ hd hv, s.er.st.less zz, ?_⟩⟩⟩
      cases t with
      | rp h => exact .rp (h.less zz)
      | lst h r => exact .lst h (r.less zz)
      | dic h r l k => exact .dic h (r.less zz) l k
theorem tSt_for {tg : Tg} {it : LM} {body : SM} {D : Ends} (hl : ∀ i ∈ tg.slots, i ∉ ow) (q : tSt K ow kf (mFor tg it body) D σ H) : tFor (tIv K ow .C tg.isTup it) (gOf K tg) (tSt K ow kf body) D σ H := by
  obtain ⟨f0, H0, Z0, f, ρ, st, s, fl, ρ', st', e, q⟩ := q
  obtain ⟨l, st1, e1, e⟩ := R.bind_eq (show (it ρ st).bind _ = _ from e)
  refine ⟨f, _, ρ, st, s.er, l, st1, e1, fun f1 H1 J Ok x1 S1 hln hs ho he => ?_⟩
  have s1 := s.step x1 S1
  refine ⟨fun i m σi Hi => m = l.length - i ∧ i ≤ l.length ∧ ∃ fi ρi sti, SR K ow f0 H0 Z0 fi Hi σi ρi sti ∧ Frm f1 (ZO ow Z0 σ ρ) H1 fi (ZO ow Z0 σi ρi) Hi ∧ forGo tg body (l.drop i) ρi sti = .ok (fl, ρ') st',
    ⟨_, rfl, Nat.zero_le _, f1, ρ, st1, s1, Frm.refl, by rw [List.drop_zero]; exact e⟩, ?_⟩
  rintro i m σi Hi ⟨rfl, hi, fi, ρi, sti, si, Fi, eg⟩
  have hoi := hs _ _ _ _ _ _ (fun z => nomatch z) Fi ho
  obtain ⟨hgo, hst⟩ := he fi _ Hi sti hoi si.er.st
  by_cases hlt : i < l.length
  · obtain ⟨g1, g2⟩ := hgo i hlt
    refine .inr ⟨g1, fun σ' H' => ∃ fi ρi sti, SR K ow f0 H0 Z0 fi H' σ' ρi sti ∧ Frm f1 (ZO ow Z0 σ ρ) H1 fi (ZO ow Z0 σ' ρi) H' ∧ forGo tg body (l.drop (i + 1)) ρi sti = .ok (fl, ρ') st', fun σ' H' h => ⟨_, by omega, rfl, hlt, h⟩, fun x H' hy => ?_⟩
    obtain ⟨ky, dx, hdx, rx⟩ := g2 x H' hy
    rw [List.drop_eq_getElem_cons hlt] at eg
    have edx : l[i] = dx := by
      rw [List.getElem?_eq_getElem hlt] at hdx
      exact Option.some.inj hdx
    rw [edx] at eg
    unfold forGo at eg
    cases hset : tg.set dx ρi with
    | none => rw [hset] at eg; cases eg
    | some ρ1 =>
      rw [hset, onO_some] at eg
      obtain ⟨⟨fl1, ρ2⟩, st2, eb, eg⟩ := R.bind_eq eg
      have X2 : Ext fi Hi fi H' := Ext.same si.er.st ky
      have s2 := si.step X2 (si.er.st.same ky)
      refine gOf_item tg hl s2.er rx hset fun σ2 E2 c2 => ?_
      obtain ⟨s3, z3⟩ := s2.chg hl E2 c2
      have F3 : Frm f1 (ZO ow Z0 σ ρ) H1 fi (ZO ow Z0 σ2 ρ1) H' := by
        rw [z3]
        exact Fi.trans X2.frm
      refine ⟨f0, H0, Z0, fi, ρ1, sti, s3, fl1, ρ2, st2, eb, ?_⟩
      cases fl1 with
      | next => exact fun f' H' σ' s' F' => ⟨f', ρ2, st2, s', F3.trans F', eg⟩
      | ret d =>
        cases eg
        exact q
  · have hi' : i = l.length := by omega
    subst hi'
    rw [List.drop_length] at eg
    cases eg
    exact .inl ⟨hst, q fi Hi σi si (x1.frm.trans Fi)⟩
end
end SH

namespace SH
open PySem L2
def Zp (Z : Addr → Prop) (ps : List Addr) : Addr → Prop := fun a => Z a ∨ a ∈ ps
theorem Zp_nil {Z : Addr → Prop} : Zp Z [] = Z := by
  funext a
  simp [Zp]
theorem Zp_cons {Z : Addr → Prop} {p : Addr} {ps : List Addr} : Zp (fun a => Z a ∨ a = p) ps = Zp Z (p :: ps) := by
  funext a
  simp [Zp, or_assoc]
/-- what has been made: true: a new object of one's own -/
inductive MV (K : Frag) (f : List Addr) (Z : Addr → Prop) (H0 H : Hp) : List Bool → List D → List V → List Addr → Prop
  | nil : MV K f Z H0 H [] [] [] []
  | c {bs : List Bool} {ds : List D} {vs : List V} {ps : List Addr} {d : D} {v : V} : Rp K f Z H d v → MV K f Z H0 H bs ds vs ps → MV K f Z H0 H (false :: bs) (d :: ds) (v :: vs) ps
  | o {bs : List Bool} {ds : List D} {vs : List V} {ps : List Addr} {d : D} {p : Addr} : H0 p = none → p ∉ ps → d.isObj = true → Tp K f Z H d (.ref p) → MV K f Z H0 H bs ds vs ps → MV K f Z H0 H (true :: bs) (d :: ds) (.ref p :: vs) (p :: ps)
section
variable {K : Frag} {ow : List Nat} {kf : Kd} {f f' f1 f0 : List Addr} {Z Z' Z0 : Addr → Prop} {H H' H1 H0 : Hp} {st st' st1 : Store} {X : Cx} {σ : St} {ρ : Env} {bs : List Bool} {ds : List D} {vs : List V} {ps : List Addr}
theorem MV.fresh (h : MV K f Z H0 H bs ds vs ps) : ∀ p ∈ ps, H0 p = none := by
  induction h with
  | nil => intro p hp; cases hp
  | c _ _ ih => exact ih
  | o h0 _ _ _ _ ih =>
    intro p hp
    rcases List.mem_cons.mp hp with rfl | hp
    · exact h0
    · exact ih p hp
theorem MV.from (h : MV K f Z H0 H bs ds vs ps) (w : ∀ p, H0 p = none → H1 p = none) : MV K f Z H1 H bs ds vs ps := by
  induction h with
  | nil => exact .nil
  | c r _ ih => exact .c r ih
  | o h0 n o t _ ih => exact .o (w _ h0) n o t ih
theorem Tp.less {d : D} {v : V} (t : Tp K f Z H d v) (h : ∀ a, Z' a → Z a) : Tp K f Z' H d v := by
  cases t with
  | rp r => exact .rp (r.less h)
  | lst q r => exact .lst q (r.less h)
  | dic q r l k => exact .dic q (r.less h) l k
theorem MV.less (h : MV K f Z H0 H bs ds vs ps) (w : ∀ a, Z' a → Z a) : MV K f Z' H0 H bs ds vs ps := by
  induction h with
  | nil => exact .nil
  | c r _ ih => exact .c (r.less w) ih
  | o h0 n o t _ ih => exact .o h0 n o (t.less w) ih
theorem Ext.moreL (x : Ext f H f' H') (hp : ∀ p ∈ ps, H p = none) : Frm f Z H f' (Zp Z ps) H' := by
  obtain ⟨g, rfl, hg⟩ := x.pre
  refine ⟨fun b o e n z => ⟨x.keep b o e n, fun hm => ?_, fun q => q.elim z fun q => by rw [hp b q] at e; cases e⟩, g, rfl⟩
  rcases List.mem_append.mp hm with h | h
  · exact n h
  · rw [hg b h] at e; cases e
theorem Tp.moreL {d : D} {v : V} (x : Ext f H f' H') (hp : ∀ p ∈ ps, H p = none) (t : Tp K f Z H d v) : Tp K f' (Zp Z ps) H' d v := by
  have F : Frm f Z H f' (Zp Z ps) H' := x.moreL hp
  cases t with
  | rp h => exact .rp (h.frm F)
  | lst h r => exact .lst (h.frm x.frm) (r.frm F)
  | dic h r l k => exact .dic (h.frm x.frm) (r.frm F) l k
def okOwn : List Bool → List D → Bool
  | b :: bs, d :: ds => (!b || d.isObj) && okOwn bs ds
  | [], [] => true
  | _, _ => false
/-- the expressions, each as it is wanted -/
def tM (K : Frag) (ow : List Nat) : List Bool → List EM → TA
  | b :: bs, m :: ms => tCons (tEv K ow (if b = true then .F else .C) m) (tM K ow bs ms)
  | _, _ => tNil
theorem tM_of : ∀ {bs : List Bool} {ms : List EM} {f : List Addr} {Z : Addr → Prop} {H : Hp} {st : Store} {ds : List D} {Q : List V → Hp → Prop}, ER K ow f Z H σ ρ st → mArgs ms ρ st = .ok ds st' → okOwn bs ds = true →
    (∀ f' H' vs ps, Ext f H f' H' → StR K f' (Zp Z ps) H' st' → MV K f' (Zp Z ps) H H' bs ds vs ps → Q vs H') → tM K ow bs ms σ H Q
  | [], [], f, Z, H, st, ds, Q, E, e, ho, q => by
    cases e
    exact q f H [] [] E.self (by rw [Zp_nil]; exact E.st) .nil
  | [], _ :: _, f, Z, H, st, ds, Q, E, e, ho, q => by
    have := mArgs_len e
    cases ds with
    | nil => simp at this
    | cons d ds => simp [okOwn] at ho
  | _ :: _, [], f, Z, H, st, ds, Q, E, e, ho, q => by
    cases e
    simp [okOwn] at ho
  | b :: bs, m :: ms, f, Z, H, st, ds, Q, E, e, ho, q => by
    obtain ⟨d, st1, e1, e⟩ := R.bind_eq (show (m ρ st).bind _ = _ from e)
    obtain ⟨ds', st2, e2, e⟩ := R.bind_eq e
    cases e
    simp only [okOwn, Bool.and_eq_true] at ho
    cases b with
    | false =>
      refine ⟨f, Z, ρ, st, E, d, st1, e1, fun f1 H1 v x1 ⟨S1, r1⟩ => ?_⟩
      refine tM_of (E.ext x1 S1) e2 ho.2 fun f' H' vs ps x2 S2 mv => ?_
      exact q f' H' _ ps (x1.trans x2) S2 (.c (r1.frm (x2.moreL mv.fresh)) (mv.from fun p hp => x1.isN hp))
    | true =>
      refine ⟨f, Z, ρ, st, E, d, st1, e1, fun f1 H1 v x1 p1 => ?_⟩
      obtain ⟨p, rfl, hp, S1, t1⟩ := p1.2 (by simpa using ho.1)
      refine tM_of (E.more x1 hp S1) e2 ho.2 fun f' H' vs ps x2 S2 mv => ?_
      have hn : p ∉ ps := fun hm => ((S1.zt p (.inr rfl)).2.ne (mv.fresh p hm)).elim
      have t2 := t1.moreL x2 mv.fresh
      rw [Zp_cons] at S2 mv t2
      exact q f' H' _ (p :: ps) (x1.trans x2) S2 (.o hp hn (by simpa using ho.1) t2 (mv.from fun p hp => x1.isN hp))
def setE : Env → List Nat → List D → Env
  | ρ, i :: is, d :: ds => setE (ρ.set i (some d)) is ds
  | ρ, _, _ => ρ
def setL : St → List Nat → List V → St
  | σ, i :: is, v :: vs => setL (σ.set i (some v)) is vs
  | σ, _, _ => σ
def mMany (is : List Nat) (bs : List Bool) (ms : List EM) : SM := fun ρ st => (mArgs ms ρ st).bind fun ds st1 => if okOwn bs ds = true then .ok (.next, setE ρ is ds) st1 else .bad
/-- between the stores: ps are still to be stored -/
structure SRx (K : Frag) (ow : List Nat) (f0 : List Addr) (H0 : Hp) (Z0 : Addr → Prop) (ps : List Addr) (f : List Addr) (H : Hp) (σ : St) (ρ : Env) (st : Store) : Prop where
  er : ER K ow f (Zp (ZO ow Z0 σ ρ) ps) H σ ρ st
  ext : Ext f0 H0 f H
  fr : ∀ i ∈ ow, ∀ d a, ρ[i]? = some (some d) → σ[i]? = some (some (.ref a)) → H0 a = none
  ob : ∀ i ∈ ow, ∀ d, ρ[i]? = some (some d) → d.isObj = true
  ds : ∀ i ∈ ow, ∀ j ∈ ow, i ≠ j → ∀ d d' a, ρ[i]? = some (some d) → ρ[j]? = some (some d') → σ[i]? = some (some (.ref a)) → σ[j]? ≠ some (some (.ref a))
  z0 : ∀ a, Z0 a → H0 a ≠ none
  nz : ∀ p ∈ ps, ¬ ZO ow Z0 σ ρ p
  nf : ∀ p ∈ ps, H0 p = none
theorem set_back {α : Type} {l : List (Option α)} {i j : Nat} {x y : α} (h : (l.set i (some x))[j]? = some (some y)) : (i = j ∧ y = x) ∨ (i ≠ j ∧ l[j]? = some (some y)) := by
  by_cases hij : i = j
  · subst hij
    have hl : i < l.length := by simpa using (List.getElem?_eq_some_iff.mp h).1
    rw [List.getElem?_set_self hl] at h
    cases h
    exact .inl ⟨rfl, rfl⟩
  · rw [List.getElem?_set_ne hij] at h
    exact .inr ⟨hij, h⟩
theorem SRx.setC {i : Nat} {d : D} {v : V} (s : SRx K ow f0 H0 Z0 ps f H σ ρ st) (hi : i ∉ ow) (r : Rp K f (Zp (ZO ow Z0 σ ρ) ps) H d v) :
    SRx K ow f0 H0 Z0 ps f H (σ.set i (some v)) (ρ.set i (some d)) st ∧ ZO ow Z0 (σ.set i (some v)) (ρ.set i (some d)) = ZO ow Z0 σ ρ := by
  have k : ∀ j ∈ ow, (σ.set i (some v))[j]? = σ[j]? ∧ (ρ.set i (some d))[j]? = ρ[j]? := fun j hj => by
    have : i ≠ j := fun e => hi (e ▸ hj)
    rw [List.getElem?_set_ne this, List.getElem?_set_ne this]
    exact ⟨rfl, rfl⟩
  have z := ZO_eq (Z0 := Z0) k
  refine ⟨⟨by rw [z]; exact s.er.set (.rp r) fun _ => r, s.ext, fun j hj d a e1 e2 => ?_, fun j hj d e => ?_, fun j hj j' hj' n d d' a e1 e2 e3 => ?_, s.z0, by rw [z]; exact s.nz, s.nf⟩, z⟩
  · rw [(k j hj).2] at e1
    rw [(k j hj).1] at e2
    exact s.fr j hj d a e1 e2
  · rw [(k j hj).2] at e
    exact s.ob j hj d e
  · rw [(k j hj).2] at e1
    rw [(k j' hj').2] at e2
    rw [(k j hj).1] at e3
    rw [(k j' hj').1]
    exact s.ds j hj j' hj' n d d' a e1 e2 e3
theorem SRx.setO {i : Nat} {d : D} {p : Addr} (s : SRx K ow f0 H0 Z0 (p :: ps) f H σ ρ st) (hi : i ∈ ow) (ho : d.isObj = true) (hn : p ∉ ps) (t : Tp K f (Zp (ZO ow Z0 σ ρ) (p :: ps)) H d (.ref p)) :
    SRx K ow f0 H0 Z0 ps f H (σ.set i (some (.ref p))) (ρ.set i (some d)) st ∧ ∀ a, Zp (ZO ow Z0 (σ.set i (some (.ref p))) (ρ.set i (some d))) ps a → Zp (ZO ow Z0 σ ρ) (p :: ps) a := by
  have zz : ∀ a, ZO ow Z0 (σ.set i (some (.ref p))) (ρ.set i (some d)) a → ZO ow Z0 σ ρ a ∨ a = p := fun a z => by
    rcases z with z | ⟨j, hj, ⟨d', h1⟩, h2⟩
    · exact .inl (.inl z)
    · rcases set_back h2 with ⟨rfl, e⟩ | ⟨hij, h2⟩
      · cases e; exact .inr rfl
      · rw [List.getElem?_set_ne hij] at h1
        exact .inl (.inr ⟨j, hj, ⟨d', h1⟩, h2⟩)
  have zw : ∀ a, Zp (ZO ow Z0 (σ.set i (some (.ref p))) (ρ.set i (some d))) ps a → Zp (ZO ow Z0 σ ρ) (p :: ps) a := fun a z => by
    rcases z with z | z
    · rcases zz a z with z | rfl
      · exact .inl z
      · exact .inr List.mem_cons_self
    · exact .inr (List.mem_cons_of_mem _ z)
  refine ⟨⟨(s.er.set t fun q => absurd hi q).less zw, s.ext, fun j hj d' a e1 e2 => ?_, fun j hj d' e => ?_, fun j hj k hk n d' d'' a e1 e2 e3 e4 => ?_, s.z0, fun q hq z => ?_, fun q hq => s.nf q (List.mem_cons_of_mem _ hq)⟩, zw⟩
  · rcases set_back e2 with ⟨rfl, e⟩ | ⟨hij, e2⟩
    · cases e; exact s.nf p List.mem_cons_self
    · rw [List.getElem?_set_ne hij] at e1
      exact s.fr j hj d' a e1 e2
  · rcases set_back e with ⟨rfl, rfl⟩ | ⟨hij, e⟩
    · exact ho
    · exact s.ob j hj d' e
  · have old : ∀ j ∈ ow, ∀ d', ρ[j]? = some (some d') → σ[j]? = some (some (.ref p)) → False := fun j hj d' h1 h2 => s.nz p List.mem_cons_self (.inr ⟨j, hj, ⟨d', h1⟩, h2⟩)
    rcases set_back e3 with ⟨rfl, e⟩ | ⟨hij, e3⟩
    · cases e
      rw [List.getElem?_set_ne n] at e2 e4
      exact old k hk _ e2 e4
    · rw [List.getElem?_set_ne hij] at e1
      rcases set_back e4 with ⟨rfl, e⟩ | ⟨hik, e4⟩
      · cases e
        exact old j hj _ e1 e3
      · rw [List.getElem?_set_ne hik] at e2
        exact s.ds j hj k hk n d' d'' a e1 e2 e3 e4
  · rcases zz q z with z | rfl
    · exact s.nz q (List.mem_cons_of_mem _ hq) z
    · exact hn hq
def owOk (ow : List Nat) : List Nat → List Bool → Prop
  | i :: is, b :: bs => ((b = true ∧ i ∈ ow) ∨ (b = false ∧ i ∉ ow)) ∧ owOk ow is bs
  | [], [] => True
  | _, _ => False
theorem SRx.all : ∀ {is : List Nat} {bs : List Bool} {ds : List D} {vs : List V} {ps : List Addr} {σ : St} {ρ : Env}, owOk ow is bs → SRx K ow f0 H0 Z0 ps f H σ ρ st → MV K f (Zp (ZO ow Z0 σ ρ) ps) H0 H bs ds vs ps →
    SRx K ow f0 H0 Z0 [] f H (setL σ is vs) (setE ρ is ds) st ∧ ∀ a, ZO ow Z0 (setL σ is vs) (setE ρ is ds) a → Zp (ZO ow Z0 σ ρ) ps a
  | [], bs, ds, vs, ps, σ, ρ, ho, s, mv => by
    cases bs with
    | nil =>
      cases mv
      exact ⟨s, fun a z => .inl z⟩
    | cons b bs => simp [owOk] at ho
  | i :: is, bs, ds, vs, ps, σ, ρ, ho, s, mv => by
    cases bs with
    | nil => simp [owOk] at ho
    | cons b bs =>
      simp only [owOk] at ho
      cases mv with
      | c r mv =>
        have hi : i ∉ ow := by
          rcases ho.1 with ⟨h, _⟩ | ⟨_, h⟩
          · cases h
          · exact h
        obtain ⟨s1, z1⟩ := s.setC hi r
        obtain ⟨s2, z2⟩ := SRx.all ho.2 s1 (mv.less fun a z => by rw [z1] at z; exact z)
        exact ⟨s2, fun a z => by have := z2 a z; rw [z1] at this; exact this⟩
      | o h0 hn oo t mv =>
        have hi : i ∈ ow := by
          rcases ho.1 with ⟨_, h⟩ | ⟨h, _⟩
          · exact h
          · cases h
        obtain ⟨s1, z1⟩ := s.setO hi oo hn t
        obtain ⟨s2, z2⟩ := SRx.all ho.2 s1 (mv.less z1)
        exact ⟨s2, fun a z => z1 a (z2 a z)⟩
theorem MV.len (h : MV K f Z H0 H bs ds vs ps) : vs.length = bs.length := by
  induction h with
  | nil => rfl
  | c _ _ ih => simp [ih]
  | o _ _ _ _ _ ih => simp [ih]
theorem owOk_len : ∀ {is : List Nat} {bs : List Bool}, owOk ow is bs → is.length = bs.length
  | [], [], _ => rfl
  | [], _ :: _, h => by simp [owOk] at h
  | _ :: _, [], h => by simp [owOk] at h
  | i :: is, b :: bs, h => by
    simp only [owOk] at h
    simp [owOk_len h.2]
def tMul (is : List Nat) (ta : TA) : TS := fun D σ H => ta σ H fun vs H1 => vs.length = is.length ∧ D.nx (setL σ is vs) H1
theorem tSt_many {is : List Nat} {ms : List EM} {D : Ends} (ho : owOk ow is bs) (q : tSt K ow kf (mMany is bs ms) D σ H) : tMul is (tM K ow bs ms) D σ H := by
  obtain ⟨f0, H0, Z0, f, ρ, st, s, fl, ρ', st', e, q⟩ := q
  obtain ⟨ds, st1, e1, e⟩ := R.bind_eq (show (mArgs ms ρ st).bind _ = _ from e)
  split at e
  · rename_i hok
    cases e
    refine tM_of s.er e1 hok fun f1 H1 vs ps x1 S1 mv => ?_
    have fr : ∀ p ∈ ps, H0 p = none := fun p hp => s.ext.isN (mv.fresh p hp)
    have E1 : ER K ow f1 (Zp (ZO ow Z0 σ ρ) ps) H1 σ ρ st' := ⟨S1, s.er.len, fun i d e => by
      obtain ⟨v, e1, t, r⟩ := s.er.sl i d e
      exact ⟨v, e1, t.moreL x1 mv.fresh, fun h => (r h).frm (x1.moreL mv.fresh)⟩⟩
    have sx : SRx K ow f0 H0 Z0 ps f1 H1 σ ρ st' := ⟨E1, s.ext.trans x1, s.fr, s.ob, s.ds, s.z0, fun p hp z => (s.er.st.zt p z).2.ne (mv.fresh p hp), fr⟩
    obtain ⟨s2, z2⟩ := sx.all ho (mv.from fun p hp => s.ext.isN hp)
    refine ⟨by rw [mv.len, owOk_len ho], q f1 H1 _ ⟨by have := s2.er; rw [Zp_nil] at this; exact this, s2.ext, s2.fr, s2.ob, s2.ds, s2.z0⟩ ((x1.moreL mv.fresh).trans (Frm.less z2))⟩
  · cases e
end
open PySem PySem.Spec PyProof.Rows L2
section
variable {X : Cx}
theorem Rps.vals2 {v w : V} {us : List Value} (r : Vals [v, w] us) : ∃ u1 u2, us = [u1, u2] ∧ RelV v u1 ∧ RelV w u2 := by
  cases r with
  | cons p q =>
    cases q with
    | cons p' q' =>
      cases q'
      exact ⟨_, _, rfl, p, p'⟩
theorem Rps.vals3 {v w y : V} {us : List Value} (r : Vals [v, w, y] us) : ∃ u1 u2 u3, us = [u1, u2, u3] ∧ RelV v u1 ∧ RelV w u2 ∧ RelV y u3 := by
  cases r with
  | cons p q =>
    obtain ⟨a, b, rfl, h1, h2⟩ := Rps.vals2 q
    exact ⟨_, _, _, rfl, p, h1, h2⟩
/-- a, b = x, y -/
theorem ps_mul2 {i j : Nat} {x y : Str} {a b : Expr} {ta : TA} {px py pt : Pos} {kt k2 pt2} {pos : Pos} (hc : X.calm = true) (hN : X.N.Nodup) (hi : X.N[i]? = some x) (hj : X.N[j]? = some y) (hij : i ≠ j)
    (hx : X.env.scope.names.lookup x = some .local) (hy : X.env.scope.names.lookup y = some .local) (ha : PA X [a, b] ta)
    (hw : swappedStores [.Tuple [.Name x px, .Name y py] kt pt] (.Tuple [a, b] k2 pt2) X.env = pure (some [x, y]))
    (hs : swapsWithSole [.Tuple [.Name x px, .Name y py] kt pt] (.Tuple [a, b] k2 pt2) pos.line X.env = pure false := by rfl) :
    PS X (.Assign [.Tuple [.Name x px, .Name y py] kt pt] (.Tuple [a, b] k2 pt2) pos) (tMul [i, j] ta) := by
  refine ⟨fun pins s σ H D I h => ?_⟩
  rw [exec_Assign_arm]
  refine wpAny_bind (wpAny_standAt ?_)
  rw [hs]
  refine wpAny_bind (wpAny_pure ?_)
  rw [if_neg (by decide)]
  refine wpAny_bind (Tuple_ (thn (ha.run _ pins s σ H _ I h) fun us s1 ⟨vs, H1, I1, r1, q1⟩ => ?_))
  obtain ⟨hl, q1⟩ := q1
  obtain ⟨v, w, rfl⟩ : ∃ v w, vs = [v, w] := by
    match vs, hl with
    | [v, w], _ => exact ⟨v, w, rfl⟩
  obtain ⟨u1, u2, rfl, rv, rw'⟩ := Rps.vals2 r1
  refine wpAny_newObj_type ?_ (by show 2 ≤ sizeLine; decide)
  have I2 : Inv X pins σ H1 { s1 with heap := s1.heap.push { cls := .type "tuple", data := .seq [u1, u2].toArray } } := I1.kept (t' := s1.toks) fun b o e => Heap.get?_push_of_some _ e
  rw [hw]
  refine wpAny_bind (wpAny_pure ?_)
  show wpAny (model X.prog X.w) X.A (do rule "assign.swapped-stores"; let items ← unpackItems (.ref s1.heap.objs.size) 2 none; assignInOrder [fun v => bindName X.env y v, fun v => bindName X.env x v] items.reverse; pure Flow.next) _ _ _
  refine wpAny_bind (wpAny_rule (wpAny_bind (unpackItems_tuple (items := #[u1, u2]) (I.ok.hd hc) (IsTup.new s1.heap _) fun h' hx' => ?_)))
  have I3 := I2.kept (h' := h') (t' := s1.toks) fun b o e => hx' b o (Nat.ne_of_lt (Heap.lt_size e)) e
  show wpAny _ _ (assignInOrder [fun v => bindName X.env y v, fun v => bindName X.env x v] [u2, u1] >>= fun _ => pure Flow.next) _ _ _
  refine wpAny_bind (assignInOrder_cons (wpAny_bindName (store_ok I3 hN hj (.inl hy) rw' (fun s2 I4 => ?_) (.inr hy))))
  refine assignInOrder_cons (wpAny_bindName (store_ok I4 hN hi (.inl hx) rv (fun s3 I5 => assignInOrder_nil (wpAny_pure ?_)) (.inr hx)))
  rw [List.set_comm _ _ (Ne.symm hij)] at I5
  exact ⟨_, H1, I5, q1⟩
/-- a, b, c = x, y, z -/
theorem ps_mul3 {i j k : Nat} {x y z : Str} {a b c : Expr} {ta : TA} {px py pz pt : Pos} {kt k2 pt2} {pos : Pos} (hc : X.calm = true) (hN : X.N.Nodup) (hi : X.N[i]? = some x) (hj : X.N[j]? = some y) (hk : X.N[k]? = some z) (hij : i ≠ j) (hik : i ≠ k) (hjk : j ≠ k)
    (hx : X.env.scope.names.lookup x = some .local) (hy : X.env.scope.names.lookup y = some .local) (hz : X.env.scope.names.lookup z = some .local) (ha : PA X [a, b, c] ta)
    (hw : swappedStores [.Tuple [.Name x px, .Name y py, .Name z pz] kt pt] (.Tuple [a, b, c] k2 pt2) X.env = pure (some [x, y, z]))
    (hs : swapsWithSole [.Tuple [.Name x px, .Name y py, .Name z pz] kt pt] (.Tuple [a, b, c] k2 pt2) pos.line X.env = pure false := by rfl) :
    PS X (.Assign [.Tuple [.Name x px, .Name y py, .Name z pz] kt pt] (.Tuple [a, b, c] k2 pt2) pos) (tMul [i, j, k] ta) := by
  refine ⟨fun pins s σ H D I h => ?_⟩
  rw [exec_Assign_arm]
  refine wpAny_bind (wpAny_standAt ?_)
  rw [hs]
  refine wpAny_bind (wpAny_pure ?_)
  rw [if_neg (by decide)]
  refine wpAny_bind (Tuple_ (thn (ha.run _ pins s σ H _ I h) fun us s1 ⟨vs, H1, I1, r1, q1⟩ => ?_))
  obtain ⟨hl, q1⟩ := q1
  obtain ⟨v, w, t, rfl⟩ : ∃ v w t, vs = [v, w, t] := by
    match vs, hl with
    | [v, w, t], _ => exact ⟨v, w, t, rfl⟩
  obtain ⟨u1, u2, u3, rfl, rv, rw', rt⟩ := Rps.vals3 r1
  refine wpAny_newObj_type ?_ (by show 3 ≤ sizeLine; decide)
  have I2 : Inv X pins σ H1 { s1 with heap := s1.heap.push { cls := .type "tuple", data := .seq [u1, u2, u3].toArray } } := I1.kept (t' := s1.toks) fun b o e => Heap.get?_push_of_some _ e
  rw [hw]
  refine wpAny_bind (wpAny_pure ?_)
  show wpAny (model X.prog X.w) X.A (do rule "assign.swapped-stores"; let items ← unpackItems (.ref s1.heap.objs.size) 3 none; assignInOrder [fun v => bindName X.env z v, fun v => bindName X.env y v, fun v => bindName X.env x v] items.reverse; pure Flow.next) _ _ _
  refine wpAny_bind (wpAny_rule (wpAny_bind (unpackItems_tuple (items := #[u1, u2, u3]) (I.ok.hd hc) (IsTup.new s1.heap _) fun h' hx' => ?_)))
  have I3 := I2.kept (h' := h') (t' := s1.toks) fun b o e => hx' b o (Nat.ne_of_lt (Heap.lt_size e)) e
  show wpAny _ _ (assignInOrder [fun v => bindName X.env z v, fun v => bindName X.env y v, fun v => bindName X.env x v] [u3, u2, u1] >>= fun _ => pure Flow.next) _ _ _
  refine wpAny_bind (assignInOrder_cons (wpAny_bindName (store_ok I3 hN hk (.inl hz) rt (fun s2 I4 => ?_) (.inr hz))))
  refine assignInOrder_cons (wpAny_bindName (store_ok I4 hN hj (.inl hy) rw' (fun s3 I5 => ?_) (.inr hy)))
  refine assignInOrder_cons (wpAny_bindName (store_ok I5 hN hi (.inl hx) rv (fun s4 I6 => assignInOrder_nil (wpAny_pure ?_)) (.inr hx)))
  have e : (((σ.set k (some t)).set j (some w)).set i (some v)) = (((σ.set i (some v)).set j (some w)).set k (some t)) := by
    rw [List.set_comm _ _ (Ne.symm hjk), List.set_comm _ _ (Ne.symm hik), List.set_comm _ _ (Ne.symm hij)]
  rw [e] at I6
  exact ⟨_, H1, I6, q1⟩
end
end SH

namespace SH
open PySem L2

mutual
def D.plain : D → Bool
  | .non | .bl _ | .int _ | .str _ => true
  | .tup l => D.plains l
  | .lst l => D.plains l
  | _ => false
def D.plains : List D → Bool
  | [] => true
  | d :: ds => D.plain d && D.plains ds
end
mutual
def D.py : D → PyData
  | .non => .none
  | .bl b => .bool b
  | .int i => .int i
  | .str s => .str s
  | .tup l => .tuple (D.pys l)
  | .lst l => .list (D.pys l)
  | _ => .none
def D.pys : List D → List PyData
  | [] => []
  | d :: ds => D.py d :: D.pys ds
end
/-- == -/
def D.eq (x y : D) : Bool := PyData.eqv x.py y.py
section
variable {K : Frag} {ow : List Nat} {f f' f1 f2 : List Addr} {Z Z' : Addr → Prop} {H H' H1 H2 : Hp} {st st' : Store} {X : Cx} {k : Kd}
theorem TupAt.sqT {a : Addr} {vs : List V} (h : TupAt K f Z H a vs) : SqT K H a vs := h.sq
mutual
theorem Rp.dp : ∀ {d : D} {v : V}, Rp K f Z H d v → d.plain = true → Dp K H v d.py ∧ d.py.canLay0 = true
  | _, _, .non, _ => ⟨.non, by simp [D.py, PyData.canLay0]⟩
  | _, _, .bl b, _ => ⟨.bl b, by simp [D.py, PyData.canLay0]⟩
  | _, _, .int i, _ => ⟨.int i, by simp [D.py, PyData.canLay0]⟩
  | _, _, .str s h, _ => ⟨.str s, by simp only [D.py, PyData.canLay0]; exact h.1⟩
  | _, _, .tup h r, p => by
    have z := Rps.dp r (by simpa only [D.plain] using p)
    exact ⟨by simp only [D.py]; exact .tup h.sq z.1, by simp only [D.py, PyData.canLay0]; exact z.2⟩
  | _, _, .lst h r, p => by
    have z := Rps.dp r (by simpa only [D.plain] using p)
    exact ⟨by simp only [D.py]; exact .lst h.sq z.1, by simp only [D.py, PyData.canLay0]; exact z.2⟩
  | _, _, .dic h r l k, p => by simp [D.plain] at p
  | _, _, .ref h, p => by simp [D.plain] at p
  | _, _, .scr h l, p => by simp [D.plain] at p
theorem Rps.dp : ∀ {ds : List D} {vs : List V}, Rps K f Z H ds vs → D.plains ds = true → DpAll K H vs (D.pys ds) ∧ PyData.canLayAll0 (D.pys ds) = true
  | _, _, .nil, _ => ⟨by simp only [D.pys]; exact .nil, by simp [D.pys, PyData.canLayAll0]⟩
  | _, _, .cons h r, p => by
    simp only [D.plains, Bool.and_eq_true] at p
    have a := Rp.dp h p.1
    have b := Rps.dp r p.2
    exact ⟨by simp only [D.pys]; exact .cons a.1 b.1, by simp only [D.pys, PyData.canLayAll0, a.2, b.2, Bool.and_self]⟩
end
theorem Tp.dp {d : D} {v : V} (t : Tp K f Z H d v) (p : d.plain = true) : Dp K H v d.py ∧ d.py.canLay0 = true := by
  cases t with
  | rp h => exact h.dp p
  | lst h r =>
    have z := Rps.dp r (by simpa only [D.plain] using p)
    exact ⟨by simp only [D.py]; exact .lst h.sq z.1, by simp only [D.py, PyData.canLay0]; exact z.2⟩
  | dic h r l k => simp [D.plain] at p
/-- a scalar's end -/
theorem post_sc {d : D} {v : V} (S : StR K f Z H st) (r : Rp K f Z H d v) (ho : d.isObj = false) : Post K k H f Z H st d v := by
  cases k with
  | T => exact ⟨S, .rp r⟩
  | C => exact ⟨S, r⟩
  | F => exact ⟨fun _ => ⟨S, r⟩, fun e => by rw [ho] at e; cases e⟩
def rEqM (K : Frag) (neg : Bool) : R2 := fun x y H Q => ∃ d e, Dp K H x d ∧ Dp K H y e ∧ d.canLay0 = true ∧ e.canLay0 = true ∧ min d.depth e.depth ≤ 64 ∧ Q (.bl (if neg then !PyData.eqv d e else PyData.eqv d e)) H
theorem op_eqM (hu : X.A.units + 64 < cLine) : OpR X (compareOp .Eq) (rEqM X.K false) := by
  intro pins s σ H x y v u Q I rx ry h
  obtain ⟨d, e, hd, he, sd, se, hm, q⟩ := h
  obtain ⟨as, r1⟩ := Dp.reads I d x v hd rx
  obtain ⟨bs, r2⟩ := Dp.reads I e y u he ry
  exact SeqAt.compareEq_reads r1 r2 sd se (by omega) ⟨.bl _, H, I, rfl, q⟩
theorem op_neM (hu : X.A.units + 64 < cLine) : OpR X (compareOp .NotEq) (rEqM X.K true) := by
  intro pins s σ H x y v u Q I rx ry h
  obtain ⟨d, e, hd, he, sd, se, hm, q⟩ := h
  obtain ⟨as, r1⟩ := Dp.reads I d x v hd rx
  obtain ⟨bs, r2⟩ := Dp.reads I e y u he ry
  exact SeqAt.compareNe_reads r1 r2 sd se (by omega) ⟨.bl _, H, I, rfl, q⟩
def eqOk (x y : D) : Bool := x.plain && y.plain && decide (min x.py.depth y.py.depth ≤ 64)
def eqD (neg : Bool) : Store → D → D → Option D := fun _ x y => if eqOk x y = true then some (.bl (if neg then !D.eq x y else D.eq x y)) else none
theorem ok_eq (neg : Bool) : Op2Ok K k (eqD neg) (rEqM K neg) := by
  intro f Z H st x y dx dy d Q S tx ty e q
  unfold eqD at e
  split at e
  · rename_i h
    cases e
    simp only [eqOk, Bool.and_eq_true, decide_eq_true_eq] at h
    obtain ⟨a1, a2⟩ := tx.dp h.1.1
    obtain ⟨b1, b2⟩ := ty.dp h.1.2
    exact ⟨_, _, a1, b1, a2, b2, h.2, q H _ (Ext.refl S.live) (post_sc S (.bl _) rfl)⟩
  · cases e

def ordD (pi : Int → Int → Bool) (ps : List Nat → List Nat → Bool) : Store → D → D → Option D := fun _ x y => match x, y with
  | .int i, .int j => some (.bl (pi i j))
  | .str a, .str b => some (.bl (ps a.cps.toList b.cps.toList))
  | _, _ => none
def rOrd (pi : Int → Int → Bool) (ps : List Nat → List Nat → Bool) : R2 := fun x y H Q => (rI0 fun i j => .bl (pi i j)) x y H Q ∨ (∃ i j, x = .str i ∧ y = .str j ∧ Q (.bl (ps i.cps.toList j.cps.toList)) H)
theorem ok_ord (pi : Int → Int → Bool) (ps : List Nat → List Nat → Bool) : Op2Ok K k (ordD pi ps) (rOrd pi ps) := by
  intro f Z H st x y dx dy d Q S tx ty e q
  unfold ordD at e
  split at e
  · cases e
    cases tx with
    | rp rx => cases ty with
      | rp ry =>
        cases rx
        cases ry
        exact .inl ⟨_, _, rfl, rfl, q H _ (Ext.refl S.live) (post_sc S (.bl _) rfl)⟩
  · cases e
    cases tx with
    | rp rx => cases ty with
      | rp ry =>
        cases rx
        cases ry
        exact .inr ⟨_, _, rfl, rfl, q H _ (Ext.refl S.live) (post_sc S (.bl _) rfl)⟩
  · cases e
abbrev ltD := ordD (fun i j => decide (i < j)) (fun a b => decide (a < b))
abbrev leD := ordD (fun i j => decide (i ≤ j)) (fun a b => !decide (b < a))
abbrev gtD := ordD (fun i j => decide (j < i)) (fun a b => decide (b < a))
abbrev geD := ordD (fun i j => decide (j ≤ i)) (fun a b => !decide (a < b))
theorem opr_lt : OpR X (compareOp .Lt) (rOrd (fun i j => decide (i < j)) (fun a b => decide (a < b))) := OpR.or op_lt op_lt_str
theorem opr_le : OpR X (compareOp .LtE) (rOrd (fun i j => decide (i ≤ j)) (fun a b => !decide (b < a))) := OpR.or op_le op_le_str
theorem opr_gt : OpR X (compareOp .Gt) (rOrd (fun i j => decide (j < i)) (fun a b => decide (b < a))) := OpR.or op_gt op_gt_str
theorem opr_ge : OpR X (compareOp .GtE) (rOrd (fun i j => decide (j ≤ i)) (fun a b => !decide (a < b))) := OpR.or op_ge op_ge_str

def D.isNon : D → Bool
  | .non => true
  | _ => false
def isND (neg : Bool) : Store → D → D → Option D := fun _ x y => match y with
  | .non => some (.bl (if neg then !x.isNon else x.isNon))
  | .bl b => (match x with
    | .bl a => some (.bl (if neg then !decide (a = b) else decide (a = b)))
    | _ => none)
  | _ => none
def rIsN (neg : Bool) : R2 := fun x y H Q => (y = .non ∧ Q (.bl (if neg then !decide (x = .non) else decide (x = .non))) H) ∨ ∃ a b, x = .bl a ∧ y = .bl b ∧ Q (.bl (if neg then !decide (a = b) else decide (a = b))) H
theorem ok_isN (neg : Bool) : Op2Ok K k (isND neg) (rIsN neg) := by
  intro f Z H st x y dx dy d Q S tx ty e q
  unfold isND at e
  split at e
  · cases e
    cases ty with
    | rp ry =>
      cases ry
      refine .inl ⟨rfl, ?_⟩
      have z : (if neg = true then !decide (x = V.non) else decide (x = V.non)) = (if neg = true then !dx.isNon else dx.isNon) := by
        cases tx with
        | rp rx => cases rx <;> cases neg <;> rfl
        | lst _ _ => cases neg <;> rfl
        | dic _ _ _ _ => cases neg <;> rfl
      rw [z]
      exact q H _ (Ext.refl S.live) (post_sc S (.bl _) rfl)
  · split at e
    · cases e
      cases tx with
      | rp rx => cases ty with
        | rp ry =>
          cases rx
          cases ry
          exact .inr ⟨_, _, rfl, rfl, q H _ (Ext.refl S.live) (post_sc S (.bl _) rfl)⟩
    · cases e
  · cases e
theorem opr_is : OpR X (compareOp .Is) (rIsN false) := OpR.or op_isN op_is_bl
theorem opr_isnot : OpR X (compareOp .IsNot) (rIsN true) := OpR.or op_notN op_isnot_bl

def D.flat : D → Bool
  | .non | .bl _ | .int _ | .str _ => true
  | _ => false
def eqF : D → D → Bool
  | .non, .non => true
  | .bl a, .bl b => a == b
  | .bl a, .int b => (if a then 1 else 0) == b
  | .int a, .bl b => a == (if b then 1 else 0)
  | .int a, .int b => a == b
  | .str a, .str b => a == b
  | _, _ => false
def items : D → Option (List D)
  | .tup l => some l
  | .lst l => some l
  | _ => none
def inD (neg : Bool) : Store → D → D → Option D := fun _ x y => match x, y with
  | .str a, .str b => (match a.cps.toList with
    | [c] => some (.bl (if neg then !decide (c ∈ b.cps.toList) else decide (c ∈ b.cps.toList)))
    | _ => none)
  | .str a, .dic ks vs => some (.bl (if neg then !hasK (.inr a) ks else hasK (.inr a) ks))
  | x, y => (match items y with
    | some l => if x.flat && l.all D.flat then some (.bl (if neg then !(l.any fun z => eqF z x) else l.any fun z => eqF z x)) else none
    | none => none)
def rInA (K : Frag) (neg : Bool) : R2 := fun x y H Q => (∃ (c : Nat) (z : Str), x = .str ⟨#[c]⟩ ∧ y = .str z ∧ Q (.bl (if neg then !decide (c ∈ z.cps.toList) else decide (c ∈ z.cps.toList))) H) ∨
  (∃ (a : Addr) (o : Option V), y = .ref a ∧ DGet H a x o ∧ Q (.bl (if neg then !o.isSome else o.isSome)) H) ∨ rIn K neg x y H Q
theorem opr_in (hu : X.A.units + 1 < cLine) : OpR X (compareOp .In) (rInA X.K false) := by
  intro pins s σ H x y v u Q I rx ry h
  rcases h with h | h | h
  · exact op_in_sign pins s σ H x y v u Q I rx ry h
  · obtain ⟨a, o, rfl, g, q⟩ := h
    cases ry
    exact d_in hu I g rx fun s' I' => ⟨.bl _, H, I', rfl, q⟩
  · exact op_in_seq pins s σ H x y v u Q I rx ry h
theorem opr_notin (hu : X.A.units + 1 < cLine) : OpR X (compareOp .NotIn) (rInA X.K true) := by
  intro pins s σ H x y v u Q I rx ry h
  rcases h with h | h | h
  · exact op_notIn_sign pins s σ H x y v u Q I rx ry h
  · obtain ⟨a, o, rfl, g, q⟩ := h
    cases ry
    exact d_notIn hu I g rx fun s' I' => ⟨.bl _, H, I', rfl, q⟩
  · exact op_notIn_seq pins s σ H x y v u Q I rx ry h
theorem Rp.flat {d : D} {v : V} (r : Rp K f Z H d v) : flatV v = d.flat := by cases r <;> rfl
theorem Rps.flat : ∀ {ds : List D} {vs : List V}, Rps K f Z H ds vs → vs.all flatV = ds.all D.flat
  | _, _, .nil => rfl
  | _, _, .cons h r => by rw [List.all_cons, List.all_cons, h.flat, Rps.flat r]
theorem Rp.eqF {d e : D} {v w : V} (r : Rp K f Z H d v) (t : Rp K f Z H e w) : eqV v w = SH.eqF d e := by cases r <;> cases t <;> rfl
theorem Rps.anyF {e : D} {w : V} (t : Rp K f Z H e w) : ∀ {ds : List D} {vs : List V}, Rps K f Z H ds vs → (vs.any fun y => eqV y w) = ds.any fun y => SH.eqF y e
  | _, _, .nil => rfl
  | _, _, .cons h r => by rw [List.any_cons, List.any_cons, h.eqF t, Rps.anyF t r]
theorem Tp.items {d : D} {v : V} {l : List D} (t : Tp K f Z H d v) (h : items d = some l) : ∃ a vs, v = .ref a ∧ (SqL K H a vs ∨ SqT K H a vs) ∧ Rps K f Z H l vs ∧ vs.length ≤ sizeLine := by
  cases t with
  | rp r =>
    cases r with
    | tup h1 r1 => cases h; exact ⟨_, _, rfl, .inr h1.sq, r1, h1.len⟩
    | lst h1 r1 => cases h; exact ⟨_, _, rfl, .inl h1.sq, r1, h1.2.2.2⟩
    | _ => cases h
  | lst h1 r1 => cases h; exact ⟨_, _, rfl, .inl h1.sq, r1, h1.2.2.2⟩
  | dic _ _ _ _ => cases h
theorem valV_zip (k : Key) : ∀ (ks : List Key) (vs : List V), ks.length = vs.length → (valV (ks.zip vs) k).isSome = hasK k ks
  | [], _, _ => rfl
  | _ :: _, [], h => by simp at h
  | a :: ks, v :: vs, h => by
    rw [List.zip_cons_cons]
    unfold hasK
    rw [List.any_cons]
    by_cases e : a = k
    · rw [valV_pos (p := (a, v)) e, decide_eq_true e]
      rfl
    · rw [valV_neg (p := (a, v)) e, valV_zip k ks vs (by simpa using h), decide_eq_false e]
      rfl
theorem ok_in (neg : Bool) : Op2Ok K k (inD neg) (rInA K neg) := by
  intro f Z H st x y dx dy d Q S tx ty e q
  unfold inD at e
  split at e
  · rename_i a b
    split at e
    · rename_i c hc
      cases e
      cases tx with
      | rp rx => cases ty with
        | rp ry =>
          cases rx
          cases ry
          have ea : a = ⟨#[c]⟩ := by
            obtain ⟨l⟩ := a
            have : l = #[c] := by
              apply Array.toList_inj.mp
              exact hc
            rw [this]
          subst ea
          exact .inl ⟨c, b, rfl, rfl, q H _ (Ext.refl S.live) (post_sc S (.bl _) rfl)⟩
    · cases e
  · rename_i a ks vs
    cases e
    cases tx with
    | rp rx =>
      cases rx
      obtain ⟨p, ws, rfl, h1, h2, h3, r, hl, ko⟩ := ty.dic_at
      refine .inr (.inl ⟨p, _, rfl, DGet.k (k := Sum.inr a) h1, ?_⟩)
      rw [valV_zip _ _ _ (hl.trans r.length)]
      exact q H _ (Ext.refl S.live) (post_sc S (.bl _) rfl)
  · split at e
    · rename_i l hl
      split at e
      · rename_i hf
        cases e
        simp only [Bool.and_eq_true] at hf
        obtain ⟨p, vs, rfl, hs, r, _⟩ := ty.items hl
        have rx : Rp K f Z H dx x := by
          cases tx with
          | rp rx => exact rx
          | lst _ _ => exact absurd hf.1 (by simp [D.flat])
          | dic _ _ _ _ => exact absurd hf.1 (by simp [D.flat])
        refine .inr (.inr ⟨p, vs, rfl, hs, rx.flat.trans hf.1, r.flat.trans hf.2, ?_⟩)
        unfold inV
        rw [Rps.anyF rx r]
        exact q H _ (Ext.refl S.live) (post_sc S (.bl _) rfl)
      · cases e
    · cases e
end
end SH

namespace SH
open PySem
def SOk (s : Str) : Prop := ∀ c ∈ s.cps.toList, c < 0x110000
theorem strOk_iff {s : Str} : PyData.strOk s = true ↔ SOk s := by
  unfold PyData.strOk SOk
  rw [Array.all_eq_true']
  simp
theorem SOk.app {a b : Str} (ha : SOk a) (hb : SOk b) : SOk (a ++ b) := by
  have e : (a ++ b).cps.toList = a.cps.toList ++ b.cps.toList := by
    show (a.cps ++ b.cps).toList = _
    simp
  intro c hc
  rw [e] at hc
  rcases List.mem_append.mp hc with h | h
  · exact ha c h
  · exact hb c h
theorem char_lt (c : Char) : c.toNat < 0x110000 := by
  rcases c.valid with h | h
  · have h' : c.toNat < 0xd800 := h
    omega
  · exact h.2
theorem SOk.of (s : String) : SOk (Str.ofString s) := by
  intro c hc
  rw [Str.ofString_eq_toList] at hc
  obtain ⟨x, _, rfl⟩ := List.mem_map.mp (by simpa using hc)
  exact char_lt x
theorem ite_str (c : Prop) [Decidable c] {a b : Str} (ha : SOk a) (hb : SOk b) : SOk (if c then a else b) := by split <;> assumption
theorem textFrom_ok : ∀ (ts : List Str) (k : Nat) (acc : Str), SOk acc → (∀ t ∈ ts, SOk t) → SOk (textFrom k acc ts)
  | [], _, _, ha, _ => ha
  | t :: ts, k, acc, ha, ht => textFrom_ok ts _ _ ((ha.app (SOk.of _)).app (ht t List.mem_cons_self)) fun x hx => ht x (List.mem_cons_of_mem _ hx)
theorem join_ok {sep : Str} (hs : SOk sep) : ∀ ts : List Str, (∀ t ∈ ts, SOk t) → SOk (Str.join sep ts)
  | [], _ => fun c hc => by
    have : c ∈ ([] : List Nat) := hc
    cases this
  | [t], h => h t (by simp)
  | t :: u :: r, h => ((h t (by simp)).app hs).app (join_ok hs (u :: r) fun x hx => h x (List.mem_cons_of_mem _ hx))
theorem reprChar_ok {q c : Nat} (hq : q < 0x110000) (hc : c < 0x110000) : ∀ x ∈ Builtin.Str.reprChar q c, x < 0x110000 := by
  intro x hx
  have hex : ∀ w, x ∈ (List.replicate (w - ((Nat.toDigits 16 c).map Char.toNat).length) 48 ++ (Nat.toDigits 16 c).map Char.toNat) → x < 0x110000 := by
    intro w h
    rcases List.mem_append.mp h with h | h
    · rw [List.eq_of_mem_replicate h]
      decide
    · obtain ⟨y, _, rfl⟩ := List.mem_map.mp h
      exact char_lt y
  unfold Builtin.Str.reprChar at hx
  dsimp only at hx
  have h92 : ∀ (a : Nat), a < 0x110000 → x ∈ [92, a] → x < 0x110000 := fun a ha h => by
    simp at h
    omega
  split at hx
  · exact h92 _ hc hx
  split at hx
  · exact h92 _ (by decide) hx
  split at hx
  · exact h92 _ (by decide) hx
  split at hx
  · exact h92 _ (by decide) hx
  split at hx
  · simp at hx
    omega
  split at hx
  · rcases List.mem_append.mp hx with h | h
    · exact h92 _ (by decide) h
    · exact hex _ h
  split at hx
  · rcases List.mem_append.mp hx with h | h
    · exact h92 _ (by decide) h
    · exact hex _ h
  · rcases List.mem_append.mp hx with h | h
    · exact h92 _ (by decide) h
    · exact hex _ h
theorem reprText_ok {x : Str} (hx : SOk x) : SOk (reprText x) := by
  have hq : reprQuote x < 0x110000 := by
    unfold reprQuote
    split <;> decide
  have key : ∀ (l : List Nat) (acc : Array Nat), (∀ c ∈ acc.toList, c < 0x110000) → (∀ c ∈ l, c < 0x110000) → ∀ c ∈ (l.foldl (fun out c => out ++ (Builtin.Str.reprChar (reprQuote x) c).toArray) acc).toList, c < 0x110000 := by
    intro l
    induction l with
    | nil => intro acc ha _; exact ha
    | cons a l ih =>
      intro acc ha hl
      refine ih _ (fun c hc => ?_) fun c hc => hl c (List.mem_cons_of_mem _ hc)
      rw [Array.toList_append] at hc
      rcases List.mem_append.mp hc with h | h
      · exact ha c h
      · exact reprChar_ok hq (hl a List.mem_cons_self) c (by simpa using h)
  intro c hc
  unfold reprText at hc
  rw [Array.toList_push] at hc
  rcases List.mem_append.mp hc with h | h
  · rw [← Array.foldl_toList] at h
    exact key x.cps.toList _ (fun c hc => by simp at hc; rw [hc]; exact hq) hx c h
  · simp at h
    rw [h]
    exact hq
mutual
theorem shown_ok : ∀ d : PyData, d.canLay0 = true → d.hasDict = false → SOk d.shown
  | .none, _, _ => by simp only [PyData.shown]; exact SOk.of _
  | .bool b, _, _ => by simp only [PyData.shown]; exact ite_str _ (SOk.of _) (SOk.of _)
  | .int i, _, _ => by simp only [PyData.shown]; exact SOk.of _
  | .str x, h, _ => by
    simp only [PyData.shown]
    exact reprText_ok (strOk_iff.mp (by simpa [PyData.canLay0] using h))
  | .list xs, h, g => by
    simp only [PyData.shown]
    exact (textFrom_ok _ _ _ (SOk.of _) (shownAll_ok xs (by simpa [PyData.canLay0] using h) (by simpa [PyData.hasDict] using g))).app (SOk.of _)
  | .tuple xs, h, g => by
    simp only [PyData.shown]
    exact ((SOk.of _).app (join_ok (SOk.of _) _ (shownAll_ok xs (by simpa [PyData.canLay0] using h) (by simpa [PyData.hasDict] using g)))).app (SOk.of _)
  | .dict kvs, _, g => by simp [PyData.hasDict] at g
theorem shownAll_ok : ∀ ds : List PyData, PyData.canLayAll0 ds = true → PyData.hasDictAll ds = false → ∀ t ∈ PyData.shownAll ds, SOk t
  | [], _, _ => fun t ht => by simp [PyData.shownAll] at ht
  | d :: ds, h, g => fun t ht => by
    simp only [PyData.canLayAll0, Bool.and_eq_true] at h
    simp only [PyData.hasDictAll, Bool.or_eq_false_iff] at g
    simp only [PyData.shownAll] at ht
    rcases List.mem_cons.mp ht with e | ht
    · rw [e]
      exact shown_ok d h.1 g.1
    · exact shownAll_ok ds h.2 g.2 t ht
end
end SH

namespace SH
open PySem PySem.Spec PyProof.Rows L2
/-- what is to be shown of a new tuple -/
def NewT (xs : List V) (H : Hp) (Q : VK) : Prop := ∀ (p : Addr) (o : Obj), o.dict = none → H p = none → Q (.ref p) (upd H p (.frz o (.tup xs)))
section
variable {X : Cx} {pins : List (Addr × Obj)} {σ : L2.St} {H : Hp} {z : Shared} {its : List Value} {xs : List V} {Q : VK} {t' : Nat}
theorem NewT.laid (q : NewT xs H Q) (I : Inv X pins σ H z) (r : Vals xs its) (hz : xs.length ≤ sizeLine) : EP X pins σ Q (.ref z.heap.objs.size) { z with heap := z.heap.push { cls := .type "tuple", data := .seq its.toArray }, toks := t' } :=
  ⟨.ref z.heap.objs.size, _, tup_laid (t' := t') I r hz, rfl, q _ _ rfl (I.hok.fresh (Nat.le_refl _))⟩
/-- t + u -/
def rCatF (K : Frag) : R2 := fun x y H Q => ∃ a b xs ys, x = .ref a ∧ y = .ref b ∧ SqT K H a xs ∧ SqT K H b ys ∧ xs.length + ys.length ≤ sizeLine ∧ (xs = [] → Q (.ref b) H) ∧ (xs ≠ [] → ys = [] → Q (.ref a) H) ∧ (xs ≠ [] → ys ≠ [] → NewT (xs ++ ys) H Q)
theorem op_catF : OpR X (binaryOp .Add) (rCatF X.K) := by
  intro pins z σ H x y v u Q I rx ry h
  obtain ⟨a, b, xs, ys, rfl, rfl, ha, hb, hz, q0, q1, q2⟩ := h
  by_cases hx : xs = []
  · exact op_catA pins z σ H _ _ v u Q I rx ry ⟨a, b, xs, ys, rfl, rfl, ha, hb, hz, q0, q1, fun n => absurd hx n⟩
  by_cases hy : ys = []
  · exact op_catA pins z σ H _ _ v u Q I rx ry ⟨a, b, xs, ys, rfl, rfl, ha, hb, hz, q0, q1, fun _ n => absurd hy n⟩
  cases rx
  cases ry
  obtain ⟨ia, ra, pa, _⟩ := I.tuple ha
  obtain ⟨ib, rb, pb, _⟩ := I.tuple hb
  refine HT.cat_tup pa pb (fun e => hx (ra.nil_iff.mp e)) (fun e => absurd (rb.nil_iff.mp e) hy) (fun _ => ?_) (by rw [← ra.length, ← rb.length]; exact hz)
  exact (q2 hx hy).laid (t' := z.toks) I (ra.append rb) (by rw [List.length_append]; exact hz)
/-- t[lo:hi] -/
def rSlF (K : Frag) : V → Option Int → Option Int → Hp → VK → Prop := fun x lo hi H Q => ∃ a xs, x = .ref a ∧ SqT K H a xs ∧
  (HT.sIx xs.length 0 lo = 0 ∧ HT.sIx xs.length xs.length hi = xs.length → Q (.ref a) H) ∧ (¬ (HT.sIx xs.length 0 lo = 0 ∧ HT.sIx xs.length xs.length hi = xs.length) → NewT (cutV xs lo hi) H Q)
theorem sl_tupF : SlR X (rSlF X.K) := by
  intro pins z σ H x v vl vu lo hi sl Q I rx hs pl pu h
  obtain ⟨a, xs, rfl, hx, q1, q2⟩ := h
  by_cases hw : HT.sIx xs.length 0 lo = 0 ∧ HT.sIx xs.length xs.length hi = xs.length
  · exact sl_tupA pins z σ H _ v vl vu lo hi sl Q I rx hs pl pu ⟨a, xs, rfl, hx, q1, fun n => absurd hw n⟩
  · cases rx
    obtain ⟨ia, ra, pa, hz⟩ := I.tuple hx
    have hl : ia.toArray.size = xs.length := by rw [List.size_toArray]; exact ra.length.symm
    refine ⟨"tuple", _, PyProof.Rows.slot_tuple_getitem.lookup, pa.typeIs, HT.getItem_tuple_cut pa hs pl pu (by rw [hl]; exact hw) ?_ (by rw [hl]; exact hz)⟩
    rw [hl]
    exact (q2 hw).laid (t' := z.toks) I ((ra.drop (HT.sIx xs.length 0 lo)).take (HT.sIx xs.length xs.length hi - HT.sIx xs.length 0 lo)) (Nat.le_trans (cutV_length xs lo hi) hz)
/-- tuple(x) -/
def rTupF (K : Frag) : List V → Hp → VK → Prop := fun xs H Q => ∃ p ys, xs = [.ref p] ∧ ((SqL K H p ys ∧ NewT ys H Q) ∨ (SqT K H p ys ∧ Q (.ref p) H))
theorem call_tupleF : CallR X (.type "tuple") (rTupF X.K) := by
  intro pins z σ H xs us Q I r h
  obtain ⟨p, ys, rfl, h⟩ := h
  rcases h with ⟨hq, q⟩ | ⟨hq, q⟩
  · obtain ⟨u, rfl, rx⟩ := vals1 r
    cases rx
    obtain ⟨ia, ra, pl, hz⟩ := I.list hq
    have hl := ra.length
    refine call_tuple_list pl.isList (fun h' kp => ?_) (by simp only [List.size_toArray] <;> omega)
    exact q.laid (t' := z.toks) (I.kept (h' := h') (t' := z.toks) kp) ra hz
  · exact call_tuple_of pins z σ H _ us Q I r ⟨p, ys, rfl, .inr ⟨hq, q⟩⟩
/-- t * k, 2 ≤ k -/
def rRepF (K : Frag) : R2 := fun x y H Q => ∃ l k xs, x = .ref l ∧ y = .int k ∧ SqT K H l xs ∧ xs ≠ [] ∧ 2 ≤ k ∧ k ≤ 1000 ∧ xs.length ≤ 1000 ∧ NewT (List.replicate k.toNat xs).flatten H Q
theorem op_repF : OpR X (binaryOp .Mult) (rRepF X.K) := by
  intro pins z σ H x y v u Q I rx ry h
  obtain ⟨l, k, xs, rfl, rfl, hT, hne, h1, h2, hs, q⟩ := h
  cases rx
  obtain ⟨t, rfl⟩ := ry
  obtain ⟨ia, ra, ⟨⟨cls, dd, data, sl⟩, ho, hc, n, hd⟩, _⟩ := I.tuple hT
  obtain rfl : cls = _ := hc
  obtain rfl : data = _ := hd
  have hl := ra.length
  have sz : ia.toArray.size = xs.length := by rw [List.size_toArray, hl]
  have ne : ia.toArray.isEmpty = false := by
    cases ia with
    | nil => exact absurd (List.eq_nil_of_length_eq_zero hl) hne
    | cons _ _ => rfl
  have small : k.toNat * xs.length ≤ 1000000 := by
    have := Nat.mul_le_mul (show k.toNat ≤ 1000 by omega) hs
    omega
  have flat : (List.replicate k.toNat xs).flatten.length ≤ sizeLine := by
    rw [PyProof.Rows.lm_len_rep_flat, sizeLine_eq]
    omega
  have flat2 : (List.replicate k.toNat ia).flatten.length ≤ sizeLine := by
    rw [PyProof.Rows.lm_len_rep_flat, ← hl, sizeLine_eq]
    omega
  have prod : ((ia.toArray.size : Nat) : Int) * k ≤ 1000000 := by
    rw [sz]
    have e : (((k.toNat * xs.length : Nat)) : Int) = ((xs.length : Nat) : Int) * k := by
      rw [Int.natCast_mul, Int.mul_comm, Int.toNat_of_nonneg (by omega)]
    rw [← e]
    omega
  have far : (decide (k < -(2 ^ 63)) || decide (k ≥ 2 ^ 63)) = false := by
    rw [Bool.or_eq_false_iff]
    exact ⟨decide_eq_false (by omega), decide_eq_false (by omega)⟩
  have one : (ia.toArray.isEmpty || k == 1) = false := by
    rw [ne, Bool.false_or]
    exact beq_eq_false_iff_ne.mpr (by omega)
  have none_ : (decide (k ≤ 0) || ia.toArray.isEmpty) = false := by
    rw [ne, Bool.or_false]
    exact decide_eq_false (by omega)
  have many : Builtin.Tuple.tupleTooMany (((ia.toArray.size : Nat) : Int) * k) = false := by
    unfold Builtin.Tuple.tupleTooMany
    rw [sizeLine_eq]
    exact decide_eq_false (by omega)
  have ty : z.TypeIs (.ref l) "tuple" := ⟨_, ho, rfl⟩
  have body := tuple_mulW l ia.toArray n dd sl k t far one none_ (by omega) many (by rw [size_rep, List.size_toArray]; exact flat2)
  have inner := call_meets (prog := X.prog) (w := X.w) (A := X.A) (E := X.xe) (Q := EP X pins σ Q) F.slot_tuple_mul ty F.entry_tuple_mul (F.args_tuple_mul_2 _ _) body
  refine wpAny_binaryOp_repeat_ref (T := "tuple") (U := "int") (by decide) ty (fun _ => typeIs_int _ k t) noFill_tuple_mul F.fills_int_mul F.slot_int_rmul repeat_tuple F.slot_int_index.lookup ?_
  refine call_meets F.slot_int_rmul (typeIs_int z k t) F.entry_int_rmul (F.args_int_rmul_2 _ _) (int_rmul_tuple k t l ia.toArray n dd sl) ⟨ho, rfl, ty, inner ⟨ho, ?_⟩⟩
  rw [size_rep]
  exact q.laid (t' := z.toks) I (ra.rep k.toNat) flat
end
end SH

namespace SH
open PySem L2
section
variable {K : Frag} {ow : List Nat} {f f' f1 f2 : List Addr} {Z Z' : Addr → Prop} {H H' H1 H2 : Hp} {st st' : Store} {X : Cx} {k : Kd} {σ : St}
theorem strOk_append {a b : Str} (ha : StrOk a) (hb : StrOk b) (hl : a.length + b.length ≤ sizeLine) : StrOk (a ++ b) := by
  refine ⟨?_, ?_⟩
  · have h1 := ha.1
    have h2 := hb.1
    unfold PyData.strOk at h1 h2 ⊢
    rw [← Array.all_toList] at h1 h2 ⊢
    have e : (a ++ b).cps.toList = a.cps.toList ++ b.cps.toList := TL.tl_append a b
    rw [e, List.all_append, h1, h2]
    rfl
  · have e : (a ++ b).length = a.length + b.length := by
      rw [TL.len_tl, TL.len_tl, TL.len_tl, TL.tl_append, List.length_append]
    rw [e]
    exact hl
def addD : Store → D → D → Option D := fun _ x y => match x, y with
  | .int i, .int j => some (.int (i + j))
  | .str a, .str b => if a.length + b.length ≤ sizeLine then some (.str (a ++ b)) else none
  | .tup a, .tup b => if a.length + b.length ≤ sizeLine then some (.tup (a ++ b)) else none
  | .lst a, .lst b => if a.length + b.length ≤ sizeLine then some (.lst (a ++ b)) else none
  | _, _ => none
def rAddA (K : Frag) : R2 := fun x y H Q => (rI0 fun i j => .int (i + j)) x y H Q ∨ (∃ i j, x = .str i ∧ y = .str j ∧ i.length + j.length ≤ sizeLine ∧ Q (.str (i ++ j)) H) ∨ rCatF K x y H Q ∨ rCat x y H Q
theorem opr_add : OpR X (binaryOp .Add) (rAddA X.K) := OpR.or op_add (OpR.or op_add_str (OpR.or op_catF op_cat))
theorem ok_add : Op2Ok K .F addD (rAddA K) := by
  intro f Z H st x y dx dy d Q S tx ty e q
  unfold addD at e
  split at e
  · cases e
    cases tx with
    | rp rx => cases ty with
      | rp ry =>
        cases rx
        cases ry
        exact .inl ⟨_, _, rfl, rfl, q H _ (Ext.refl S.live) (post_sc S (.int _) rfl)⟩
  · split at e
    · rename_i hl
      cases e
      cases tx with
      | rp rx => cases ty with
        | rp ry =>
          cases rx with
          | str _ h1 => cases ry with
            | str _ h2 => exact .inr (.inl ⟨_, _, rfl, rfl, hl, q H _ (Ext.refl S.live) (post_sc S (.str _ (strOk_append h1 h2 hl)) rfl)⟩)
    · cases e
  · split at e
    · rename_i hl
      cases e
      cases tx with
      | rp rx => cases ty with
        | rp ry =>
          cases rx with
          | @tup a _ xs h1 r1 => cases ry with
            | @tup b _ ys h2 r2 =>
              have hl' : xs.length + ys.length ≤ sizeLine := by rw [← r1.length, ← r2.length]; exact hl
              refine .inr (.inr (.inl ⟨a, b, xs, ys, rfl, rfl, h1.sq, h2.sq, hl', fun e1 => ?_, fun e1 e2 => ?_, fun e1 e2 p o ho hp => ?_⟩))
              · subst e1
                cases r1
                exact q H _ (Ext.refl S.live) (post_sc S (.tup h2 r2) rfl)
              · subst e2
                cases r2
                rw [List.append_nil] at q
                exact q H _ (Ext.refl S.live) (post_sc S (.tup h1 r1) rfl)
              · obtain ⟨x2, S2, r⟩ := tup_new S (r1.append r2) hp ho (by rw [List.length_append]; exact hl')
                exact q _ _ x2 ⟨fun _ => ⟨S2, r⟩, fun e => nomatch e⟩
    · cases e
  · split at e
    · rename_i hl
      cases e
      obtain ⟨a, xs, rfl, h1, _, _, r1⟩ := tx.lst_at
      obtain ⟨b, ys, rfl, h2, _, _, r2⟩ := ty.lst_at
      have hl' : xs.length + ys.length ≤ sizeLine := by rw [← r1.length, ← r2.length]; exact hl
      refine .inr (.inr (.inr ⟨a, b, xs, ys, rfl, rfl, h1, h2, hl', fun p hp => ?_⟩))
      obtain ⟨x2, r⟩ := lst_new S (r1.append r2) hp (by rw [List.length_append]; exact hl')
      exact q _ _ x2 r
    · cases e
  · cases e
/-- two dInts -/
def iiD (c : Int → Int → Bool) (g : Int → Int → Int) : Store → D → D → Option D := fun _ x y => match x, y with
  | .int i, .int j => if c i j = true then some (.int (g i j)) else none
  | _, _ => none
theorem ok_ii {c : Int → Int → Bool} {g : Int → Int → Int} {C : Int → Int → Prop} (h : ∀ i j, c i j = true → C i j) : Op2Ok K k (iiD c g) (rI C fun i j => .int (g i j)) := by
  intro f Z H st x y dx dy d Q S tx ty e q
  unfold iiD at e
  split at e
  · split at e
    · rename_i hc
      cases e
      cases tx with
      | rp rx => cases ty with
        | rp ry =>
          cases rx
          cases ry
          exact ⟨_, _, rfl, rfl, h _ _ hc, q H _ (Ext.refl S.live) (post_sc S (.int _) rfl)⟩
    · cases e
  · cases e
abbrev subD := iiD (fun _ _ => true) (fun i j => i - j)
theorem ok_sub : Op2Ok K k subD (rI0 fun i j => .int (i - j)) := fun f Z H st x y dx dy d Q S tx ty e q => by
  obtain ⟨i, j, e1, e2, _, q⟩ := ok_ii (K := K) (k := k) (C := fun _ _ => True) (fun _ _ _ => trivial) f Z H st x y dx dy d Q S tx ty e q
  exact ⟨i, j, e1, e2, q⟩
abbrev fdivD := iiD (fun _ j => decide (0 < j) && decide (j < 1073741824)) (fun i j => i / j)
theorem ok_fdiv : Op2Ok K k fdivD (rI CDiv fun i j => .int (i / j)) := ok_ii fun i j h => by
  simp only [Bool.and_eq_true, decide_eq_true_eq] at h
  exact h
abbrev modD := iiD (fun _ j => decide (0 < j)) (fun i j => i % j)
theorem ok_mod : Op2Ok K k modD (rI (fun _ j => 0 < j) fun i j => .int (i % j)) := ok_ii fun i j h => of_decide_eq_true h
abbrev powD := iiD (fun i j => decide (0 ≤ j) && decide (j ≤ 1000000) && decide (i.natAbs < 2 ^ 64)) (fun i j => i ^ j.toNat)
theorem ok_pow : Op2Ok K k powD (rI CPow fun i j => .int (i ^ j.toNat)) := ok_ii fun i j h => by
  simp only [Bool.and_eq_true, decide_eq_true_eq] at h
  exact ⟨h.1.1, h.1.2, h.2⟩
def smallI (i : Int) : Bool := decide (-(2 ^ 64) < i) && decide (i < 2 ^ 64)
def repS (s : Str) (n : Nat) : Str := ⟨(List.replicate n s.cps).foldl (· ++ ·) #[]⟩
def mulD : Store → D → D → Option D := fun _ x y => match x, y with
  | .int i, .int j => if (smallI i || smallI j) = true then some (.int (i * j)) else none
  | .lst l, .int j => if (decide (0 ≤ j) && decide (j ≤ 1000000) && decide (l.length * j.toNat ≤ sizeLine)) = true then some (.lst (List.replicate j.toNat l).flatten) else none
  | .tup l, .int j => if (decide (1 ≤ j) && decide (j ≤ 1000) && decide (l.length ≤ 1000) && decide (1 ≤ l.length)) = true then some (.tup (List.replicate j.toNat l).flatten) else none
  | .str s, .int j => if (decide (2 ≤ j) && decide (j ≤ 1000) && decide (1 ≤ s.length) && decide (s.length ≤ 1000)) = true then some (.str (repS s j.toNat)) else if (decide (j = 1) || decide (s.length = 0) && decide (1 ≤ j) && decide (j ≤ 1000)) = true then some (.str s) else if j = 0 then some (.str Str.empty) else none
  | _, _ => none
theorem Rps.rep {ds : List D} {vs : List V} (r : Rps K f Z H ds vs) : ∀ n : Nat, Rps K f Z H (List.replicate n ds).flatten (List.replicate n vs).flatten
  | 0 => .nil
  | n + 1 => by
    rw [List.replicate_succ, List.replicate_succ, List.flatten_cons, List.flatten_cons]
    exact r.append (r.rep n)
/-- a tuple once -/
theorem tup_once (l : Addr) (items : Array Value) (n : Nat) (dd : Option Addr) (sl : Array (Option Value)) (u : Tok) :
    Meets (Builtin.«tuple.__mul__» ⟨[.ref l, .int 1 u], []⟩) (fun _ R s => s.heap.get? l = some { cls := .type "tuple", dict := dd, data := .seq items n, slots := sl } ∧ R (.ok (.ret (Value.ref l))) s) :=
  .of_wp fun prog w A R s h => by
    obtain ⟨hp, g, d, tk, os⟩ := s
    obtain ⟨hl, h⟩ := h
    have f1 := AutoSeq1.idx_int
    have c1 : (items.isEmpty || (1 : Int) == 1) = true := by simp
    wp_walk using wpAny_loadPart' hl
    repeat (first
      | (refine wpAny_ite_true (decide_eq_true (by first | exact c1 | rfl)) ?_; wp_walk using wpAny_loadPart' hl)
      | (refine wpAny_ite_false (by decide) ?_; wp_walk using wpAny_loadPart' hl))
    exact ⟨_, rfl, h⟩
theorem op_once : OpR X (binaryOp .Mult) (fun x y H Q => ∃ l xs, x = .ref l ∧ y = .int 1 ∧ SqT X.K H l xs ∧ Q (.ref l) H) := by
  intro pins s σ H x y v u Q I rx ry h
  obtain ⟨l, xs, rfl, rfl, hT, q⟩ := h
  cases rx
  obtain ⟨t, rfl⟩ := ry
  obtain ⟨its, r, ⟨⟨cls, dd, data, sl⟩, ho, hc, n, hd⟩, hs⟩ := I.tuple hT
  simp only at hc hd
  subst hc hd
  exact wpAny_binaryOp_repeat_ref (T := "tuple") (U := "int") (by decide) ⟨_, ho, rfl⟩ (fun z => typeIs_int z 1 t) noFill_tuple_mul F.fills_int_mul F.slot_int_rmul repeat_tuple F.slot_int_index.lookup (call_meets F.slot_int_rmul (typeIs_int s 1 t) F.entry_int_rmul (F.args_int_rmul_2 _ _) (int_rmul_tuple 1 t l its.toArray n dd sl)
    ⟨ho, rfl, ⟨_, ho, rfl⟩, call_meets F.slot_tuple_mul ⟨_, ho, rfl⟩ F.entry_tuple_mul (F.args_tuple_mul_2 _ _) (tup_once l its.toArray n dd sl t) ⟨ho, ⟨.ref l, H, I, rfl, q⟩⟩⟩)
theorem repS_len (s : Str) : ∀ n : Nat, (repS s n).cps.toList = (List.replicate n s.cps.toList).flatten := by
  have key : ∀ (n : Nat) (a : Array Nat), ((List.replicate n s.cps).foldl (· ++ ·) a).toList = a.toList ++ (List.replicate n s.cps.toList).flatten := fun n => by
    induction n with
    | zero => intro a; simp
    | succ n ih =>
      intro a
      rw [List.replicate_succ, List.foldl_cons, ih, List.replicate_succ, List.flatten_cons, Array.toList_append, List.append_assoc]
  intro n
  have := key n #[]
  simpa [repS] using this
/-- text * int -/
theorem op_repS : OpR X (binaryOp .Mult) (fun x y H Q => ∃ s k, x = .str s ∧ y = .int k ∧ ((2 ≤ k ∧ k ≤ 1000 ∧ 1 ≤ s.length ∧ s.length ≤ 1000 ∧ Q (.str (repS s k.toNat)) H) ∨ (1 ≤ k ∧ k ≤ 1000 ∧ (k = 1 ∨ s.length = 0) ∧ Q (.str s) H) ∨ (k = 0 ∧ Q (.str Str.empty) H))) := by
  intro pins s σ H x y v u Q I rx ry h
  obtain ⟨z, k, rfl, rfl, h⟩ := h
  obtain ⟨t, rfl⟩ := rx
  obtain ⟨t', rfl⟩ := ry
  rw [← or_assoc] at h
  rcases h with h | ⟨h, q⟩
  rotate_left
  · exact PySem.P.mul_str_none (by omega) (by omega) ⟨.str Str.empty, H, I.tok _, ⟨_, rfl⟩, q⟩
  have hk : 1 ≤ k ∧ k ≤ 1000 := by rcases h with ⟨h1, h2, _⟩ | ⟨h1, h2, _⟩ <;> omega
  have c0 : (decide (k < -(2 ^ 63 : Int)) || decide (k ≥ 2 ^ 63)) = false := by
    rw [decide_eq_false (by omega), decide_eq_false (by omega)] <;> rfl
  rcases h with ⟨h1, h2, h3, h4, q⟩ | ⟨h1, h2, h3, q⟩
  · have e0 : (k == 1 || z.length == 0) = false := by
      rw [Bool.or_eq_false_iff]
      exact ⟨beq_eq_false_iff_ne.mpr (by omega), beq_eq_false_iff_ne.mpr (by omega)⟩
    have hz : z.length * k.toNat ≤ 1000 * 1000 := Nat.mul_le_mul h4 (by omega)
    refine PySem.P.mul_str c0 (fun _ _ => ?_) (fun _ _ => ?_) ?_
    · have : (9223372036854775807 : Int) / k ≥ 1000 := by
        refine (Int.le_ediv_iff_mul_le (by omega)).mpr ?_
        omega
      have e : (2 : Int) ^ 63 - 1 = 9223372036854775807 := by decide
      rw [e]
      omega
    · unfold Builtin.Str.tooLong sizeLine
      exact decide_eq_false (by omega)
    · rw [if_neg (by omega), if_neg (by rw [e0]; exact Bool.false_ne_true)]
      have hl : (repS z k.toNat).length ≤ 1000 * 1000 := by
        unfold Str.length
        rw [← Array.length_toList, repS_len]
        simp only [List.length_flatten, List.map_replicate, List.sum_replicate_nat, Array.length_toList]
        rw [Nat.mul_comm]
        exact hz
      exact ⟨Nat.le_trans hl (by decide), ⟨.str (repS z k.toNat), H, I.tok _, ⟨_, rfl⟩, q⟩⟩
  · have e0 : (k == 1 || z.length == 0) = true := by
      rw [Bool.or_eq_true]
      exact h3.imp (fun e => by simp [e]) fun e => by simp [e]
    refine PySem.P.mul_str c0 (fun _ h => ?_) (fun _ h => ?_) ?_
    · rw [e0] at h; cases h
    · rw [e0] at h; cases h
    · rw [if_neg (by omega), if_pos e0]
      exact ⟨.str z, H, I, ⟨_, rfl⟩, q⟩
def rMulA (K : Frag) : R2 := fun x y H Q => (rI CMul fun i j => .int (i * j)) x y H Q ∨ rRep x y H Q ∨ rRepF K x y H Q ∨ (∃ l xs, x = .ref l ∧ y = .int 1 ∧ SqT K H l xs ∧ Q (.ref l) H) ∨
  (∃ s k, x = .str s ∧ y = .int k ∧ ((2 ≤ k ∧ k ≤ 1000 ∧ 1 ≤ s.length ∧ s.length ≤ 1000 ∧ Q (.str (repS s k.toNat)) H) ∨ (1 ≤ k ∧ k ≤ 1000 ∧ (k = 1 ∨ s.length = 0) ∧ Q (.str s) H) ∨ (k = 0 ∧ Q (.str Str.empty) H)))
theorem opr_mul : OpR X (binaryOp .Mult) (rMulA X.K) := OpR.or op_mul (OpR.or op_rep (OpR.or op_repF (OpR.or op_once op_repS)))
theorem strOk_rep {s : Str} {n : Nat} (h : StrOk s) (h1 : s.length ≤ 1000) (h2 : n ≤ 1000) : StrOk (repS s n) := by
  refine ⟨?_, ?_⟩
  · have h3 := h.1
    unfold PyData.strOk at h3 ⊢
    rw [← Array.all_toList] at h3 ⊢
    rw [repS_len]
    refine List.all_eq_true.mpr fun c hc => ?_
    obtain ⟨l, hl, hc⟩ := List.mem_flatten.mp hc
    rw [List.eq_of_mem_replicate hl] at hc
    exact List.all_eq_true.mp h3 c hc
  · unfold Str.length at h1 ⊢
    rw [← Array.length_toList, repS_len]
    simp only [List.length_flatten, List.map_replicate, List.sum_replicate_nat, Array.length_toList]
    have : n * s.cps.size ≤ 1000 * 1000 := Nat.mul_le_mul h2 h1
    show _ ≤ 16777216
    omega
theorem ok_mul : Op2Ok K .F mulD (rMulA K) := by
  intro f Z H st x y dx dy d Q S tx ty e q
  unfold mulD at e
  split at e
  · split at e
    · rename_i hc
      cases e
      cases tx with
      | rp rx => cases ty with
        | rp ry =>
          cases rx
          cases ry
          refine .inl ⟨_, _, rfl, rfl, ?_, q H _ (Ext.refl S.live) (post_sc S (.int _) rfl)⟩
          simp only [smallI, Bool.or_eq_true, Bool.and_eq_true, decide_eq_true_eq] at hc
          exact hc
    · cases e
  · split at e
    · rename_i hc
      cases e
      simp only [Bool.and_eq_true, decide_eq_true_eq] at hc
      obtain ⟨a, xs, rfl, h1, _, _, r1⟩ := tx.lst_at
      cases ty with
      | rp ry =>
        cases ry
        have hz := hc.2
        rw [r1.length] at hz
        refine .inr (.inl ⟨a, _, xs, rfl, rfl, h1, by omega, by omega, hz, fun p hp => ?_⟩)
        obtain ⟨x2, r⟩ := lst_new S (r1.rep _) hp (by
          rw [List.length_flatten, List.map_replicate, List.sum_replicate_nat, Nat.mul_comm]
          exact hz)
        exact q _ _ x2 r
    · cases e
  · rename_i l j
    split at e
    · rename_i hc
      cases e
      simp only [Bool.and_eq_true, decide_eq_true_eq] at hc
      cases tx with
      | rp rx => cases ty with
        | rp ry =>
          cases ry
          cases rx with
          | @tup a _ xs h1 r1 =>
            have hl := r1.length
            by_cases hj : j = 1
            · subst hj
              refine .inr (.inr (.inr (.inl ⟨a, xs, rfl, rfl, h1.sq, ?_⟩)))
              have e1 : (List.replicate (1 : Int).toNat l).flatten = l := by simp
              rw [e1] at q
              exact q H _ (Ext.refl S.live) (post_sc S (.tup h1 r1) rfl)
            · refine .inr (.inr (.inl ⟨a, j, xs, rfl, rfl, h1.sq, ?_, by omega, by omega, by omega, fun p o ho hp => ?_⟩))
              · intro e0
                rw [e0] at hl
                simp at hl
                rw [hl] at hc
                simp at hc
              · obtain ⟨x2, S2, r⟩ := tup_new S (r1.rep j.toNat) hp ho (by
                  rw [List.length_flatten, List.map_replicate, List.sum_replicate_nat, ← hl]
                  have : j.toNat * l.length ≤ 1000 * 1000 := Nat.mul_le_mul (by omega) (by omega)
                  show _ ≤ 16777216
                  omega)
                exact q _ _ x2 ⟨fun _ => ⟨S2, r⟩, fun e => nomatch e⟩
    · cases e
  · rename_i s j
    cases tx with
    | rp rx => cases ty with
      | rp ry =>
        cases ry
        cases rx with
        | str _ hs =>
          split at e
          · rename_i hc
            cases e
            simp only [Bool.and_eq_true, decide_eq_true_eq] at hc
            exact .inr (.inr (.inr (.inr ⟨s, j, rfl, rfl, .inl ⟨by omega, by omega, by omega, by omega, q H _ (Ext.refl S.live) (post_sc S (.str _ (strOk_rep hs hc.2 (by omega))) rfl)⟩⟩)))
          · split at e
            · rename_i hc
              cases e
              simp only [Bool.or_eq_true, Bool.and_eq_true, decide_eq_true_eq] at hc
              refine .inr (.inr (.inr (.inr ⟨s, j, rfl, rfl, .inr (.inl ⟨?_, ?_, ?_, q H _ (Ext.refl S.live) (post_sc S (.str _ hs) rfl)⟩)⟩)))
              · rcases hc with h | h <;> omega
              · rcases hc with h | h <;> omega
              · exact hc.imp id fun h => h.1.1
            · split at e
              · rename_i hc
                cases e
                exact .inr (.inr (.inr (.inr ⟨s, j, rfl, rfl, .inr (.inr ⟨hc, q H _ (Ext.refl S.live) (post_sc S (.str _ ⟨by decide +kernel, by decide⟩) rfl)⟩)⟩)))
              · cases e
  · cases e
def negD : Store → D → Option D := fun _ x => match x with
  | .int i => some (.int (-i))
  | _ => none
theorem ok_neg : Op1Ok K k negD (rU fun i => .int (-i)) := by
  intro f Z H st x dx d Q S tx e q
  unfold negD at e
  split at e
  · cases e
    cases tx with
    | rp rx =>
      cases rx
      exact ⟨_, rfl, q H _ (Ext.refl S.live) (post_sc S (.int _) rfl)⟩
  · cases e

theorem atI_rel {ds : List D} {vs : List V} {i : Int} {d : D} (r : Rps K f Z H ds vs) (h : atI ds i = some d) : ∃ v, atI vs i = some v ∧ Rp K f Z H d v := by
  unfold atI at h ⊢
  rw [← r.length]
  cases e : ixN ds.length i with
  | none => rw [e] at h; cases h
  | some j =>
    rw [e] at h
    exact r.get h
def getK (k : Key) : List Key → List D → Option D
  | a :: ks, d :: ds => if a = k then some d else getK k ks ds
  | _, _ => none
def ixD : Store → D → D → Option D := fun st x y => match x, y with
  | .lst l, .int i => atI l i
  | .tup l, .int i => atI l i
  | .scr ns, .int i => (atI ns i).map D.int
  | .str s, .int i => (atI s.cps.toList i).map fun c => .str ⟨#[c]⟩
  | .ref n, .int i => (match st[n]? with
    | some (.lst l) => atI l i
    | _ => none)
  | .dic ks vs, .str k => getK (.inr k) ks vs
  | _, _ => none
theorem valV_getK {k : Key} : ∀ {ks : List Key} {ds : List D} {vs : List V} {d : D}, Rps K f Z H ds vs → getK k ks ds = some d → ∃ v, valV (ks.zip vs) k = some v ∧ Rp K f Z H d v
  | [], _, _, _, _, e => by simp [getK] at e
  | _ :: _, [], _, _, _, e => by simp [getK] at e
  | a :: ks, d0 :: ds, _, d, .cons h r, e => by
    unfold getK at e
    rw [List.zip_cons_cons]
    split at e
    · rename_i ha
      cases e
      exact ⟨_, valV_pos (p := (a, _)) ha, h⟩
    · rename_i ha
      rw [valV_neg (p := (a, _)) ha]
      exact valV_getK r e
theorem atI_map {α β : Type} (g : α → β) (l : List α) (i : Int) : atI (l.map g) i = (atI l i).map g := by
  unfold atI
  rw [List.length_map]
  cases ixN l.length i with
  | none => rfl
  | some j => simp
theorem strOk_sign {s : Str} (h : StrOk s) {c : Nat} (hc : c ∈ s.cps.toList) : StrOk ⟨#[c]⟩ := by
  refine ⟨?_, ?_⟩
  · have h1 := h.1
    unfold PyData.strOk at h1 ⊢
    rw [← Array.all_toList] at h1 ⊢
    have := List.all_eq_true.mp h1 c hc
    simpa using this
  · show 1 ≤ sizeLine
    decide
theorem atI_mem {α : Type} {l : List α} {i : Int} {a : α} (h : atI l i = some a) : a ∈ l := by
  unfold atI at h
  cases e : ixN l.length i with
  | none => rw [e] at h; cases h
  | some j => rw [e] at h; exact List.mem_of_getElem? h
theorem tIx_of {ma mb : EM} {Q : VK} (q : tEv K ow .C (mOp2 ixD ma mb) σ H Q) : tOp (rIx K) (tEv K ow .T ma) (tEv K ow .T mb) σ H Q ∨ tDGet (tEv K ow .T ma) (tEv K ow .T mb) σ H Q := by
  obtain ⟨f, Z, ρ, st, E, d, st', e, q⟩ := q
  obtain ⟨dx, st1, e1, e⟩ := R.bind_eq (show (ma ρ st).bind _ = _ from e)
  obtain ⟨dy, st2, e2, e⟩ := R.bind_eq e
  obtain ⟨e3, rfl⟩ := liftO_ok e
  have fin : ∀ (R2' : V → V → Hp → VK → Prop), (∀ f2 H2 x y, Ext f H f2 H2 → StR K f2 Z H2 st' → Tp K f2 Z H2 dx x → Tp K f2 Z H2 dy y → R2' x y H2 Q) → tOp R2' (tEv K ow .T ma) (tEv K ow .T mb) σ H Q := fun R2' h =>
    ⟨f, Z, ρ, st, E, dx, st1, e1, fun f1 H1 x x1 ⟨S1, t1⟩ => ⟨f1, Z, ρ, st1, E.ext x1 S1, dy, st', e2, fun f2 H2 y x2 ⟨S2, t2⟩ => h f2 H2 x y (x1.trans x2) S2 (t1.ext x2) t2⟩⟩
  unfold ixD at e3
  split at e3
  · refine .inl (fin _ fun f2 H2 x y x2 S2 tx ty => ?_)
    obtain ⟨a, xs, rfl, h1, _, _, r1⟩ := tx.lst_at
    cases ty with
    | rp ry =>
      cases ry
      obtain ⟨v, hv, r⟩ := atI_rel r1 e3
      exact .inl ⟨a, xs, _, v, rfl, rfl, SqL.of h1, hv, q f2 H2 v x2 ⟨S2, r⟩⟩
  · refine .inl (fin _ fun f2 H2 x y x2 S2 tx ty => ?_)
    cases tx with
    | rp rx => cases ty with
      | rp ry =>
        cases ry
        cases rx with
        | tup h1 r1 =>
          obtain ⟨v, hv, r⟩ := atI_rel r1 e3
          exact .inr (.inl ⟨_, _, _, v, rfl, rfl, h1.sq, hv, q f2 H2 v x2 ⟨S2, r⟩⟩)
  · refine .inl (fin _ fun f2 H2 x y x2 S2 tx ty => ?_)
    cases tx with
    | rp rx => cases ty with
      | rp ry =>
        cases ry
        cases rx with
        | scr h1 _ =>
          obtain ⟨z, hz, ez⟩ := Option.map_eq_some_iff.mp e3
          subst ez
          exact .inl ⟨_, _, _, _, rfl, rfl, h1.sq, by rw [atI_map, hz]; rfl, q f2 H2 _ x2 ⟨S2, .int z⟩⟩
  · refine .inl (fin _ fun f2 H2 x y x2 S2 tx ty => ?_)
    cases tx with
    | rp rx => cases ty with
      | rp ry =>
        cases ry
        cases rx with
        | str _ h1 =>
          obtain ⟨z, hz, ez⟩ := Option.map_eq_some_iff.mp e3
          subst ez
          exact .inr (.inr ⟨_, _, z, rfl, rfl, h1.2, hz, q f2 H2 _ x2 ⟨S2, .str _ (strOk_sign h1 (atI_mem hz))⟩⟩)
  · rename_i n i _
    refine .inl (fin _ fun f2 H2 x y x2 S2 tx ty => ?_)
    cases tx with
    | rp rx => cases ty with
      | rp ry =>
        cases ry
        cases rx with
        | @ref a _ h1 =>
          cases hn : st'[n]? with
          | none => rw [hn] at e3; cases e3
          | some o =>
            cases o with
            | lst l =>
              rw [hn] at e3
              obtain ⟨vs, g1, g2, g3⟩ := S2.at_ n _ a hn h1
              obtain ⟨v, hv, r⟩ := atI_rel g3 e3
              exact .inl ⟨a, vs, _, v, rfl, rfl, SqL.of g1, hv, q f2 H2 v x2 ⟨S2, r⟩⟩
            | tab _ _ =>
              rw [hn] at e3
              cases e3
  · rename_i ks vs kk _
    refine .inr (fin (fun x y H2 Q => ∃ a v, x = .ref a ∧ DGet H2 a y (some v) ∧ Q v H2) fun f2 H2 x y x2 S2 tx ty => ?_)
    obtain ⟨a, ws, rfl, h1, _, _, r1, hl, ko⟩ := tx.dic_at
    cases ty with
    | rp ry =>
      cases ry
      obtain ⟨v, hv, r⟩ := valV_getK r1 e3
      refine ⟨a, v, rfl, ?_, q f2 H2 v x2 ⟨S2, r⟩⟩
      rw [← hv]
      exact DGet.k (k := Sum.inr kk) h1
  · cases e3
theorem PE.or {e : Expr} {t t' : TE} (h : PE X e t) (h' : PE X e t') : PE X e (fun σ H Q => t σ H Q ∨ t' σ H Q) :=
  ⟨fun pins s σ H Q I q => q.elim (h.run pins s σ H Q I) (h'.run pins s σ H Q I)⟩
theorem PS.or {e : Stmt} {t t' : TS} (h : PS X e t) (h' : PS X e t') : PS X e (fun D σ H => t D σ H ∨ t' D σ H) :=
  ⟨fun pins s σ H D I q => q.elim (h.run pins s σ H D I) (h'.run pins s σ H D I)⟩
theorem PI.or {tg it : Expr} {t t' : TI} (h : PI X tg it t) (h' : PI X tg it t') : PI X tg it (fun σ H R => t σ H R ∨ t' σ H R) :=
  ⟨fun pins s σ H R I q => q.elim (h.run pins s σ H R I) (h'.run pins s σ H R I)⟩
theorem pe_mIxA {a b : Expr} {ma mb : EM} {pos : Pos} (hK : X.K = K) (hu : X.A.units + 1 < cLine) (ha : PE X a (tEv K ow .T ma)) (hb : PE X b (tEv K ow .T mb)) (hs : PlainIx b) : PE X (.Subscript a b pos) (tEv K ow .C (mOp2 ixD ma mb)) := by
  subst hK
  exact pe_weak (PE.or (pe_ix ix_seq ha hb hs) (pe_dget hu ha hb hs)) fun σ H Q q => tIx_of q

def cutL {α : Type} (xs : List α) (lo hi : Option Int) : List α := (xs.drop (HT.sIx xs.length 0 lo)).take (HT.sIx xs.length xs.length hi - HT.sIx xs.length 0 lo)
theorem cutL_rel {ds : List D} {vs : List V} (r : Rps K f Z H ds vs) (lo hi : Option Int) : Rps K f Z H (cutL ds lo hi) (cutV vs lo hi) := by
  unfold cutL cutV
  rw [r.length]
  exact (r.drop _).take _
def slD (x : D) (lo hi : Option Int) : Option D := match x with
  | .lst l => some (.lst (cutL l lo hi))
  | .tup l => some (.tup (cutL l lo hi))
  | .str s => some (.str (cutS s lo hi))
  | _ => none
def partD : Option EM → Env → Store → R (Option Int)
  | none, _, st => .ok none st
  | some m, ρ, st => (m ρ st).bind fun d st1 => match d with
    | .int i => .ok (some i) st1
    | _ => .bad
def mSl (a : EM) (lo hi : Option EM) : EM := fun ρ st => (a ρ st).bind fun x st1 => (partD lo ρ st1).bind fun l st2 => (partD hi ρ st2).bind fun h st3 => liftO (slD x l h) st3
def tPo (K : Frag) (ow : List Nat) (m : Option EM) : TO := fun σ H Q => ∃ f Z ρ st, ER K ow f Z H σ ρ st ∧ ∃ o st', partD m ρ st = .ok o st' ∧ ∀ f' H', Ext f H f' H' → StR K f' Z H' st' → Q o H'
theorem PO.weak {e : Option Expr} {t t' : TO} (h : PO X e t) (w : ∀ σ H Q, t' σ H Q → t σ H Q) : PO X e t' := ⟨fun pins s σ H Q I q => h.run pins s σ H Q I (w σ H Q q)⟩
theorem po_mNone : PO X none (tPo K ow none) := PO.weak po_none fun σ H Q => by
  rintro ⟨f, Z, ρ, st, E, o, st', e, q⟩
  cases e
  exact q f H E.self E.st
theorem po_mSome {e : Expr} {m : EM} (h : PE X e (tEv K ow .C m)) : PO X (some e) (tPo K ow (some m)) := PO.weak (po_some h) fun σ H Q => by
  rintro ⟨f, Z, ρ, st, E, o, st', e, q⟩
  obtain ⟨d, st1, e1, e⟩ := R.bind_eq (show (m ρ st).bind _ = _ from e)
  refine ⟨f, Z, ρ, st, E, d, st1, e1, fun f1 H1 v x1 ⟨S1, r1⟩ => ?_⟩
  cases d with
  | int i =>
    cases e
    cases r1
    exact ⟨i, rfl, q f1 H1 x1 S1⟩
  | _ => cases e
def rSlAll (K : Frag) : V → Option Int → Option Int → Hp → VK → Prop := fun x lo hi H Q => rSlL K x lo hi H Q ∨ rSlF K x lo hi H Q ∨ rSlS x lo hi H Q
theorem sl_all : SlR X (rSlAll X.K) := SlR.or sl_list (SlR.or sl_tupF sl_str)
theorem cutS_ok {s : Str} (h : StrOk s) (lo hi : Option Int) : StrOk (cutS s lo hi) := by
  refine ⟨?_, Nat.le_trans (cutS_length s lo hi) h.2⟩
  have h1 := h.1
  unfold PyData.strOk at h1 ⊢
  rw [← Array.all_toList] at h1 ⊢
  rw [List.all_eq_true] at h1 ⊢
  intro c hc
  refine h1 c ?_
  have : c ∈ (s.cps.toList.drop (HT.sIx s.length 0 lo)).take (HT.sIx s.length s.length hi - HT.sIx s.length 0 lo) := hc
  exact List.mem_of_mem_drop (List.mem_of_mem_take this)
theorem tSl_of {ma : EM} {lo hi : Option EM} {Q : VK} (q : tEv K ow .F (mSl ma lo hi) σ H Q) : tSl (rSlAll K) (tEv K ow .T ma) (tPo K ow lo) (tPo K ow hi) σ H Q := by
  obtain ⟨f, Z, ρ, st, E, d, st', e, q⟩ := q
  obtain ⟨dx, st1, e1, e⟩ := R.bind_eq (show (ma ρ st).bind _ = _ from e)
  obtain ⟨l, st2, e2, e⟩ := R.bind_eq e
  obtain ⟨h, st3, e3, e⟩ := R.bind_eq e
  obtain ⟨e4, rfl⟩ := liftO_ok e
  refine ⟨f, Z, ρ, st, E, dx, st1, e1, fun f1 H1 x x1 ⟨S1, t1⟩ => ⟨f1, Z, ρ, st1, E.ext x1 S1, l, st2, e2, fun f2 H2 x2 S2 => ⟨f2, Z, ρ, st2, E.ext (x1.trans x2) S2, h, _, e3, fun f3 H3 x3 S3 => ?_⟩⟩⟩
  have t3 := t1.ext (x2.trans x3)
  have x13 := x1.trans (x2.trans x3)
  unfold slD at e4
  split at e4
  · cases e4
    obtain ⟨a, xs, rfl, h1, _, hz, r1⟩ := t3.lst_at
    refine .inl ⟨a, xs, rfl, SqL.of h1, fun p hp => ?_⟩
    obtain ⟨x4, r⟩ := lst_new S3 (cutL_rel r1 l h) hp (Nat.le_trans (cutV_length xs l h) hz)
    exact q f3 _ _ (x13.trans x4) (r.from x13)
  · cases e4
    cases t3 with
    | rp rx =>
      cases rx with
      | @tup a _ xs h1 r1 =>
        refine .inr (.inl ⟨a, xs, rfl, h1.sq, fun hw => ?_, fun _ p o ho hp => ?_⟩)
        · have e : ∀ dd : List D, dd.length = xs.length → cutL dd l h = dd := fun dd hd => by
            unfold cutL
            rw [hd, hw.1, hw.2, List.drop_zero, Nat.sub_zero, ← hd, List.take_length]
          rw [e _ r1.length] at q
          exact q f3 H3 _ x13 ((post_sc (k := .F) S3 (.tup h1 r1) rfl).from x13)
        · obtain ⟨x4, S4, r⟩ := tup_new S3 (cutL_rel r1 l h) hp ho (Nat.le_trans (cutV_length xs l h) h1.len)
          exact q f3 _ _ (x13.trans x4) ⟨fun _ => ⟨S4, r⟩, fun e => nomatch e⟩
  · cases e4
    cases t3 with
    | rp rx =>
      cases rx with
      | str _ h1 => exact .inr (.inr ⟨_, rfl, h1.2, q f3 H3 _ x13 ((post_sc (k := .F) S3 (.str _ (cutS_ok h1 l h)) rfl).from x13)⟩)
  · cases e4
theorem pe_mSl {a : Expr} {lo hi : Option Expr} {ma : EM} {mlo mhi : Option EM} {pos p2 : Pos} (hK : X.K = K) (ha : PE X a (tEv K ow .T ma)) (hl : PO X lo (tPo K ow mlo)) (hh : PO X hi (tPo K ow mhi)) :
    PE X (.Subscript a (.Slice lo hi none p2) pos) (tEv K ow .F (mSl ma mlo mhi)) := by
  subst hK
  exact pe_weak (pe_slice sl_all ha hl hh) fun σ H Q q => tSl_of q

def lenD : Store → D → Option D := fun _ x => match x with
  | .lst l => some (.int l.length)
  | .tup l => some (.int l.length)
  | .str s => some (.int s.length)
  | .scr ns => some (.int ns.length)
  | _ => none
theorem ok_len : Op1Ok K k lenD (fun x H Q => (fun xs H Q => ∃ x n, xs = [x] ∧ LenV K x H n ∧ Q (.int n) H) [x] H Q) := by
  intro f Z H st x dx d Q S tx e q
  unfold lenD at e
  split at e
  · cases e
    obtain ⟨a, xs, rfl, h1, _, hz, r1⟩ := tx.lst_at
    exact ⟨_, _, rfl, .inl ⟨xs, SqL.of h1, r1.length⟩, q H _ (Ext.refl S.live) (post_sc S (.int _) rfl)⟩
  · cases e
    cases tx with
    | rp rx =>
      cases rx with
      | tup h1 r1 => exact ⟨_, _, rfl, .inr ⟨_, h1.sq, r1.length⟩, q H _ (Ext.refl S.live) (post_sc S (.int _) rfl)⟩
  · cases e
    cases tx with
    | rp rx =>
      cases rx with
      | str _ h1 => exact ⟨_, _, rfl, ⟨h1.2, rfl⟩, q H _ (Ext.refl S.live) (post_sc S (.int _) rfl)⟩
  · cases e
    cases tx with
    | rp rx =>
      cases rx with
      | scr h1 h2 => exact ⟨_, _, rfl, .inl ⟨_, h1.sq, by simp⟩, q H _ (Ext.refl S.live) (post_sc S (.int _) rfl)⟩
  · cases e
def intD : Store → D → Option D := fun _ x => match x with
  | .int i => some (.int i)
  | .bl b => some (.int (if b then 1 else 0))
  | _ => none
theorem ok_int : Op1Ok K k intD (fun x H Q => (fun xs H Q => (∃ i, xs = [.int i] ∧ Q (.int i) H) ∨ ∃ k, xs = [.bl k] ∧ Q (.int (if k then 1 else 0)) H) [x] H Q) := by
  intro f Z H st x dx d Q S tx e q
  unfold intD at e
  split at e
  · cases e
    cases tx with
    | rp rx => cases rx; exact .inl ⟨_, rfl, q H _ (Ext.refl S.live) (post_sc S (.int _) rfl)⟩
  · cases e
    cases tx with
    | rp rx => cases rx; exact .inr ⟨_, rfl, q H _ (Ext.refl S.live) (post_sc S (.int _) rfl)⟩
  · cases e
def dBools : List D → Option (List Bool)
  | [] => some []
  | .bl b :: r => (dBools r).map (b :: ·)
  | _ => none
theorem dBools_eq : ∀ {l : List D} {bs : List Bool}, dBools l = some bs → l = bs.map D.bl
  | [], bs, e => by simp [dBools] at e; subst e; rfl
  | .bl b :: r, bs, e => by
    simp only [dBools] at e
    obtain ⟨z, hz, ez⟩ := Option.map_eq_some_iff.mp e
    subst ez
    rw [dBools_eq hz]
    rfl
  | .non :: _, _, e => by simp [dBools] at e
  | .int _ :: _, _, e => by simp [dBools] at e
  | .str _ :: _, _, e => by simp [dBools] at e
  | .tup _ :: _, _, e => by simp [dBools] at e
  | .lst _ :: _, _, e => by simp [dBools] at e
  | .dic _ _ :: _, _, e => by simp [dBools] at e
  | .ref _ :: _, _, e => by simp [dBools] at e
  | .scr _ :: _, _, e => by simp [dBools] at e
theorem dBools_map (bs : List Bool) : dBools (bs.map D.bl) = some bs := by
  induction bs with
  | nil => rfl
  | cons b r ih => simp [dBools, ih]
def dInts : List D → Option (List Int)
  | [] => some []
  | .int b :: r => (dInts r).map (b :: ·)
  | _ => none
theorem dInts_eq : ∀ {l : List D} {bs : List Int}, dInts l = some bs → l = bs.map D.int
  | [], bs, e => by simp [dInts] at e; subst e; rfl
  | .int b :: r, bs, e => by
    simp only [dInts] at e
    obtain ⟨z, hz, ez⟩ := Option.map_eq_some_iff.mp e
    subst ez
    rw [dInts_eq hz]
    rfl
  | .non :: _, _, e => by simp [dInts] at e
  | .bl _ :: _, _, e => by simp [dInts] at e
  | .str _ :: _, _, e => by simp [dInts] at e
  | .tup _ :: _, _, e => by simp [dInts] at e
  | .lst _ :: _, _, e => by simp [dInts] at e
  | .dic _ _ :: _, _, e => by simp [dInts] at e
  | .ref _ :: _, _, e => by simp [dInts] at e
  | .scr _ :: _, _, e => by simp [dInts] at e
theorem dInts_map (bs : List Int) : dInts (bs.map D.int) = some bs := by
  induction bs with
  | nil => rfl
  | cons b r ih => simp [dInts, ih]
def dStrs : List D → Option (List Str)
  | [] => some []
  | .str b :: r => (dStrs r).map (b :: ·)
  | _ => none
theorem dStrs_eq : ∀ {l : List D} {bs : List Str}, dStrs l = some bs → l = bs.map D.str
  | [], bs, e => by simp [dStrs] at e; subst e; rfl
  | .str b :: r, bs, e => by
    simp only [dStrs] at e
    obtain ⟨z, hz, ez⟩ := Option.map_eq_some_iff.mp e
    subst ez
    rw [dStrs_eq hz]
    rfl
  | .non :: _, _, e => by simp [dStrs] at e
  | .bl _ :: _, _, e => by simp [dStrs] at e
  | .int _ :: _, _, e => by simp [dStrs] at e
  | .tup _ :: _, _, e => by simp [dStrs] at e
  | .lst _ :: _, _, e => by simp [dStrs] at e
  | .dic _ _ :: _, _, e => by simp [dStrs] at e
  | .ref _ :: _, _, e => by simp [dStrs] at e
  | .scr _ :: _, _, e => by simp [dStrs] at e
theorem dStrs_map (bs : List Str) : dStrs (bs.map D.str) = some bs := by
  induction bs with
  | nil => rfl
  | cons b r ih => simp [dStrs, ih]
def allD : Store → D → Option D := fun _ x => match x with
  | .lst l => (dBools l).map fun bs => .bl (bs.all id)
  | _ => none
def anyD : Store → D → Option D := fun _ x => match x with
  | .lst l => (dBools l).map fun bs => .bl (bs.any id)
  | _ => none
def sumD : Store → D → Option D := fun _ x => match x with
  | .lst l => (dInts l).map fun bs => .int bs.sum
  | _ => none
theorem ok_all : Op1Ok K k allD (fun x => rAll K [x]) := by
  intro f Z H st x dx d Q S tx e q
  unfold allD at e
  split at e
  · obtain ⟨bs, hb, ez⟩ := Option.map_eq_some_iff.mp e
    subst ez
    have el := dBools_eq hb
    subst el
    obtain ⟨a, xs, rfl, h1, _, hz, r1⟩ := tx.lst_at
    rw [r1.bls] at h1
    exact ⟨a, bs, rfl, SqL.of h1, q H _ (Ext.refl S.live) (post_sc S (.bl _) rfl)⟩
  · cases e
theorem ok_any : Op1Ok K k anyD (fun x => rAny K [x]) := by
  intro f Z H st x dx d Q S tx e q
  unfold anyD at e
  split at e
  · obtain ⟨bs, hb, ez⟩ := Option.map_eq_some_iff.mp e
    subst ez
    have el := dBools_eq hb
    subst el
    obtain ⟨a, xs, rfl, h1, _, hz, r1⟩ := tx.lst_at
    rw [r1.bls] at h1
    exact ⟨a, bs, rfl, SqL.of h1, q H _ (Ext.refl S.live) (post_sc S (.bl _) rfl)⟩
  · cases e
theorem ok_sum : Op1Ok K k sumD (fun x => rSum K [x]) := by
  intro f Z H st x dx d Q S tx e q
  unfold sumD at e
  split at e
  · obtain ⟨bs, hb, ez⟩ := Option.map_eq_some_iff.mp e
    subst ez
    have el := dInts_eq hb
    subst el
    obtain ⟨a, xs, rfl, h1, _, hz, r1⟩ := tx.lst_at
    rw [r1.ints] at h1
    exact ⟨a, bs, rfl, SqL.of h1, q H _ (Ext.refl S.live) (post_sc S (.int _) rfl)⟩
  · cases e
def listD : Store → D → Option D := fun _ x => (items x).map D.lst
def tupleD : Store → D → Option D := fun _ x => (items x).map D.tup
theorem ok_list : Op1Ok K .F listD (fun x H Q => (fun xs H Q => ∃ p ys, xs = [.ref p] ∧ (SqL K H p ys ∨ SqT K H p ys) ∧ ∀ l, H l = none → Q (.ref l) (upd H l (.lst ys))) [x] H Q) := by
  intro f Z H st x dx d Q S tx e q
  obtain ⟨l, hl, ez⟩ := Option.map_eq_some_iff.mp (show (items dx).map D.lst = some d from e)
  subst ez
  obtain ⟨a, vs, rfl, hs, r, hz⟩ := tx.items hl
  refine ⟨a, vs, rfl, hs, fun p hp => ?_⟩
  obtain ⟨x2, r2⟩ := lst_new S r hp hz
  exact q _ _ x2 r2
theorem ok_tuple : Op1Ok K .C tupleD (fun x H Q => rTupF K [x] H Q) := by
  intro f Z H st x dx d Q S tx e q
  obtain ⟨l, hl, ez⟩ := Option.map_eq_some_iff.mp (show (items dx).map D.tup = some d from e)
  subst ez
  cases dx with
  | lst l' =>
    cases hl
    obtain ⟨a, vs, rfl, h1, _, hz, r⟩ := tx.lst_at
    refine ⟨a, vs, rfl, .inl ⟨SqL.of h1, fun p o ho hp => ?_⟩⟩
    obtain ⟨x2, S2, r2⟩ := tup_new S r hp ho hz
    exact q _ _ x2 ⟨S2, r2⟩
  | tup l' =>
    cases hl
    cases tx with
    | rp rx =>
      cases rx with
      | tup h1 r1 => exact ⟨_, _, rfl, .inr ⟨h1.sq, q H _ (Ext.refl S.live) ⟨S, .tup h1 r1⟩⟩⟩
  | _ => cases hl
/-- repr of plain data -/
def reprOk (x : D) : Bool := x.plain && x.py.showable && decide (x.py.depth ≤ 60) && decide (x.py.shown.length ≤ sizeLine)
def reprB : Store → D → Option D := fun _ x => match x with
  | .bl b => some (.str (if b then "True" else "False"))
  | x => if reprOk x = true then some (.str x.py.shown) else none
def rReprM (K : Frag) : List V → Hp → VK → Prop := fun xs H Q => ∃ x d, xs = [x] ∧ Dp K H x d ∧ d.canLay0 = true ∧ d.showable = true ∧ d.depth ≤ 60 ∧ d.shown.length ≤ sizeLine ∧ Q (.str d.shown) H
theorem call_reprM (hg : X.A.guards = some []) (hu : X.A.units + 64 < cLine) : CallR X (.builtin "repr") (rReprM X.K) := by
  intro pins s σ H xs us Q I r h
  obtain ⟨x, d, rfl, hd, hc, hs, hn, hl, q⟩ := h
  obtain ⟨u, rfl, ru⟩ := vals1 r
  obtain ⟨as, rd⟩ := Dp.reads I d x u hd ru
  cases u with
  | ref a => exact PySem.repr_of_reads' rd hs (PyData.noDict_hsm (PyData.hasDict_of_canLay d hc)) hg (by omega) (fun _ _ e => e) (fun h' u tk hk => ⟨.str _, H, I.kept hk, ⟨_, rfl⟩, q⟩) hl
  | _ =>
    cases rd <;> first
      | exact PySem.P.repr_of_none ⟨.str _, H, I.tok _, ⟨_, rfl⟩, by simpa only [PyData.shown] using q⟩
      | exact PySem.P.repr_of_bool ⟨.str _, H, I.tok _, ⟨_, rfl⟩, by simpa only [PyData.shown] using q⟩
      | exact PySem.P.repr_of_int (by simpa [PyData.showable] using hs) ⟨.str _, H, I.tok _, ⟨_, rfl⟩, by simpa only [PyData.shown] using q⟩
      | exact PySem.P.repr_of_str ⟨.str _, H, I.tok _, ⟨_, rfl⟩, by simpa only [PyData.shown] using q⟩ (by simpa only [PyData.shown] using hl)
theorem reprB_some {x d : D} (h : reprB st x = some d) : x.plain = true ∧ x.py.showable = true ∧ x.py.depth ≤ 60 ∧ x.py.shown.length ≤ sizeLine ∧ d = .str x.py.shown := by
  unfold reprB at h
  split at h
  · rename_i b
    cases h
    refine ⟨rfl, rfl, Nat.zero_le _, ?_, ?_⟩
    · cases b <;> decide +kernel
    · simp only [D.py, PyData.shown]
  · split at h
    · rename_i c
      cases h
      simp only [reprOk, Bool.and_eq_true, decide_eq_true_eq] at c
      exact ⟨c.1.1.1, c.1.1.2, c.1.2, c.2, rfl⟩
    · cases h
theorem ok_repr : Op1Ok K k reprB (fun x H Q => rReprM K [x] H Q) := by
  intro f Z H st x dx d Q S tx e q
  obtain ⟨h1, h2, h3, h4, rfl⟩ := reprB_some e
  obtain ⟨a1, a2⟩ := tx.dp h1
  exact ⟨x, _, rfl, a1, a2, h2, h3, h4, q H _ (Ext.refl S.live) (post_sc S (.str _ ⟨strOk_iff.mpr (shown_ok _ a2 (PyData.hasDict_of_canLay _ a2)), h4⟩) rfl)⟩
def max2D : Store → D → D → Option D := fun _ x y => match x, y with
  | .int i, .int j => some (.int (if j > i then j else i))
  | _, _ => none
def min2D : Store → D → D → Option D := fun _ x y => match x, y with
  | .int i, .int j => some (.int (if j < i then j else i))
  | _, _ => none
theorem ok_max2 : Op2Ok K k max2D (fun x y H Q => (fun xs H Q => ∃ i j, xs = [V.int i, .int j] ∧ Q (.int (if j > i then j else i)) H) [x, y] H Q) := by
  intro f Z H st x y dx dy d Q S tx ty e q
  unfold max2D at e
  split at e
  · cases e
    cases tx with
    | rp rx => cases ty with
      | rp ry => cases rx; cases ry; exact ⟨_, _, rfl, q H _ (Ext.refl S.live) (post_sc S (.int _) rfl)⟩
  · cases e
theorem ok_min2 : Op2Ok K k min2D (fun x y H Q => (fun xs H Q => ∃ i j, xs = [V.int i, .int j] ∧ Q (.int (if j < i then j else i)) H) [x, y] H Q) := by
  intro f Z H st x y dx dy d Q S tx ty e q
  unfold min2D at e
  split at e
  · cases e
    cases tx with
    | rp rx => cases ty with
      | rp ry => cases rx; cases ry; exact ⟨_, _, rfl, q H _ (Ext.refl S.live) (post_sc S (.int _) rfl)⟩
  · cases e
end
end SH

namespace SH
open PySem PySem.Spec PyProof.Rows L2
theorem meets_enum1 {v : Value} {o : Obj} {H : Heap → Prop} (B : Begins v o H) :
    Meets (Builtin.«enumerate.__new__» ⟨[.type "enumerate", v], []⟩) (fun _ R s => H s.heap ∧
      R (.ok (.ret (.ref (s.heap.push o).objs.size))) { s with heap := (s.heap.push o).push { cls := .type "enumerate", data := .fields #[.none, .bool false, .ref s.heap.objs.size, rawInt 0, .none, .none] } }) :=
  .of_wp fun prog w A R s h => by
    obtain ⟨hp, g, d, tk, os⟩ := s; obtain ⟨h1, h⟩ := h
    have hsub := sub_enumerate
    have q1 : ∀ {A' : Around} {E : Value → Shared → Prop} {Q : Value → Shared → Prop}, Q (.ref hp.objs.size) ⟨hp.push o, g, d, tk, os⟩ → wpAny (model prog w) A' (pyIter v) Q E ⟨hp, g, d, tk, os⟩ :=
      fun q => B.iter prog w _ _ ⟨hp, g, d, tk, os⟩ _ h1 q
    wp_walk using q1
    refine wpAny_stack_any fun st => wpAny_pure ?_
    split
    · rename_i c _ _ _ _ _
      cases (c == Value.type "enumerate")
      · wp_walk using q1
        exact ⟨_, rfl, h⟩
      · wp_walk using q1
        exact ⟨_, rfl, h⟩
    · wp_walk using q1
      exact ⟨_, rfl, h⟩
theorem call_enum1 {prog : Program} {w : World} {A : Around} {E : Value → Shared → Prop} {s : Shared} {v : Value} {o : Obj} {H : Heap → Prop} {Q : Value → Shared → Prop} (B : Begins v o H) (h1 : H s.heap)
    (h : ∀ h', IsEnum h' (s.heap.objs.size + 1) s.heap.objs.size 0 .none → h'.get? s.heap.objs.size = some o → h'.objs.size = s.heap.objs.size + 2 →
      (∀ b o, s.heap.get? b = some o → h'.get? b = some o) → Q (.ref (s.heap.objs.size + 1)) { s with heap := h' }) :
    wpAny (model prog w) A (call (.type "enumerate") [v]) Q E s := by
  refine callType_new F.called_enumerate (by decide) (F.typeCall_enumerate_1 _) (F.newCall_enumerate_1 _) (fun obj => F.args_object_init_2 obj _) F.entry_enumerate_new
    (meets_enum1 B) ⟨h1, ?_⟩
  have hz : (s.heap.push o).objs.size = s.heap.objs.size + 1 := Heap.size_push ..
  show _ ∧ _
  rw [hz]
  have he : IsEnum ((s.heap.push o).push { cls := .type "enumerate", data := .fields #[.none, .bool false, .ref s.heap.objs.size, rawInt 0, .none, .none] }) (s.heap.objs.size + 1) s.heap.objs.size 0 .none := by
    have := Heap.get?_push_size (s.heap.push o) (o := { cls := .type "enumerate", data := .fields #[.none, .bool false, .ref s.heap.objs.size, rawInt 0, .none, .none] }) rfl
    rw [hz] at this; exact this
  refine ⟨⟨_, he, rfl⟩, h _ he (Heap.get?_push_of_some _ (Heap.get?_push_size _ B.free)) (by rw [Heap.size_push, hz]) fun b o x => Heap.get?_push_of_some _ (Heap.get?_push_of_some _ x)⟩
theorem next_enumT_end {prog : Program} {w : World} {A : Around} {E : Value → Shared → Prop} {s : Shared} {e it l : Addr} {i : Nat} {items : Array Value} {old : Value} {Q : Option Value → Shared → Prop} (hh : A.handled = none)
    (he : IsEnum s.heap e it i old) (hit : s.heap.IsTupleIter it l i) (hl : s.heap.IsTuple l items) (hx : items[i]? = none)
    (hQ : ∀ h', Heap.ExtBut it s.heap h' → Q none { s with heap := h' }) : wpAny (model prog w) A (pyNext (.ref e)) Q E s := by
  have hT : s.TypeIs (.ref e) "enumerate" := ⟨_, he, rfl⟩
  unfold pyNext
  refine wpAny_bind (wpAny_attempt (wpAny_callSpecial?_slot (name := Str.ofString "__next__") hT F.slot_enumerate_next
    (wpAny_call_entry F.slot_enumerate_next hT F.entry_enumerate_next ?_ (F.args_enumerate_next_1 _))))
  show wpAny _ _ (field (.ref e) 2 >>= _) _ _ _
  refine wpAny_bind (wpAny_field he rfl (x := .ref it) rfl ?_)
  refine wpAny_bind (wpAny_nextOf_tuple_end hh hit hl hx fun h' x he' hx' => ?_)
  obtain ⟨o, ho, hc⟩ := hx'
  refine wpAny_bind (wpAny_isInstance (T := "StopIteration") (b := true) ⟨o, ho, hc⟩ isSubtype_stop ?_)
  exact wpAny_pure (hQ _ he')
def Itu (K : PySem.W.Frag) (a : Addr) : It :=
  ⟨fun i H => ∃ (xs : List V) (x : V), SqT K H a xs ∧ xs[i]? = some x, fun i H v H' => ∃ T x, v = .ref T ∧ H T = none ∧ H' = upd H T (.tup [.int (i : Nat), x]) ∧ ∀ xs, SqT K H a xs → xs[i]? = some x, fun i H => ∃ xs : List V, SqT K H a xs ∧ xs.length ≤ i⟩
theorem turn_enumT {P : Program} {w : World} {K : PySem.W.Frag} {elts : List Expr} {kk : Nat} {tpos : Pos} (a e it : Addr) :
    Turn P w K (.Tuple elts kk tpos) (Itu K a) [e, it] e (fun i h => (∃ old, IsEnum h e it ((i : Nat) : Int) old) ∧ h.IsTupleIter it a i ∧ e ≠ it ∧ e ≠ a ∧ a ≠ it) where
  mem := by simp
  obj := fun i h st b hb => by
    obtain ⟨⟨old, he⟩, ⟨o, ho, hc, hd⟩, _⟩ := st
    have e' : b = e ∨ b = it := by simpa using hb
    rcases e' with z | z
    · rw [z]; exact ⟨_, he, fun v q => nomatch q⟩
    · rw [z]; exact ⟨o, ho, fun v q => by rw [hd] at q; cases q⟩
  keep := fun i h h' st k => let ⟨⟨old, he⟩, hi, hne⟩ := st; ⟨⟨old, k e (by simp) _ he⟩, hi.at fun o q => k it (by simp) o q, hne⟩
  item := by
    intro X hP hw hK hc i pins s σ H E I hf st hg
    subst hP hw hK
    obtain ⟨⟨old, he⟩, hit, hne, hea, hai⟩ := st
    obtain ⟨xs, x, hq, hx⟩ := hg
    obtain ⟨its, rv, p, hz⟩ := I.tuple hq
    obtain ⟨u, hu, ru⟩ := rv.get hx
    have hel : e < s.heap.objs.size := Heap.lt_size he
    have hil : it < s.heap.objs.size := by obtain ⟨_, q, _⟩ := hit; exact Heap.lt_size q
    have hlt : i < its.toArray.size := by simpa using (List.getElem?_eq_some_iff.mp hu).1
    have D := Draws.tuple (prog := X.prog) (w := X.w) (A := X.A.in1) (I.ok.hd hc) it a hai its.toArray
    refine wpAny_pyNext_enum_itemD D he ⟨hit, p⟩ hlt hne (by simp; exact ⟨hne, hea⟩) fun u' h' tk hu' ho hit' hT hsz hk => ?_
    have eu : u' = u := by
      have h1 : its.toArray[i]? = some u := by simpa using hu
      rw [hu'] at h1
      exact Option.some.inj h1
    subst eu
    refine ⟨_, rfl, wpAny_letOwnedTupleGo_enum (s := { s with heap := h', toks := tk + 1 }) ho fun h'' he' sb => ?_⟩
    have hT2 : h''.get? s.heap.objs.size = some { cls := .type "tuple", data := .seq #[.int i tk, u'] } := (sb.2 _ (Nat.ne_of_gt hel)).trans hT
    have new : ObjOk X.prog X.w (upd H s.heap.objs.size (.tup [.int (i : Nat), x])) h'' s.heap.objs.size (.tup [.int (i : Nat), x]) :=
      ⟨by show 2 ≤ sizeLine; decide, [.int i tk, u'], .cons ⟨_, rfl⟩ (.cons ru .nil), ⟨_, hT2, rfl, _, rfl⟩⟩
    have I1 : Inv X pins σ (upd H s.heap.objs.size (.tup [.int (i : Nat), x])) { s with heap := h'', toks := tk + 1 } :=
      I.turnedNew (ch := [e, it]) (fun b ob hb q => (sb.2 b (fun z => hb (by simp [z]))).trans (hk b ob (fun z => hb (by simp [z])) (fun z => hb (by simp [z])) q)) hf (Nat.le_refl _) new
    refine ⟨.ref s.heap.objs.size, _, I1, rfl, ⟨_, x, rfl, I.hok.fresh (Nat.le_refl _), rfl, fun ys hy => by rw [I.tuple_inj hy hq]; exact hx⟩, ⟨⟨u', ?_⟩, hit'.1.at fun o q => (sb.2 it (Ne.symm hne)).trans q, hne, hea, hai⟩, fun b hb => ?_⟩
    · have e1 : ((i + 1 : Nat) : Int) = (i : Int) + 1 := by omega
      rw [e1]; exact he'
    · have hb' : b < s.heap.objs.size := by
        have e' : b = e ∨ b = it := by simpa using hb
        rcases e' with z | z
        · rw [z]; exact hel
        · rw [z]; exact hil
      rw [upd_ne (Nat.ne_of_lt hb')]
      exact (hf b hb).1
  done := by
    intro X hP hw hK hc i pins s σ H E I hf st hg
    subst hP hw hK
    obtain ⟨⟨old, he⟩, hit, hne, hea, hai⟩ := st
    obtain ⟨xs, hq, hx⟩ := hg
    obtain ⟨its, rv, p, hz⟩ := I.tuple hq
    obtain ⟨f0, f1, f2, f3, f4, f5⟩ := hf it (by simp)
    have hl := rv.length
    exact next_enumT_end (I.ok.hd hc) he hit p (by simp; omega) fun h' eb => ⟨rfl, I.turned (t' := s.toks) (fun b o hb q => eb b o hb q) f0 f1 f3 f4 f5⟩
  self := fun A i s Q E st h => let ⟨⟨_, he⟩, _⟩ := st; wpAny_pyIter_enum he h
def iEnumT (K : PySem.W.Frag) (ta : TA) : TI := fun σ H R => ta σ H fun vs H1 => ∃ a xs, vs = [.ref a] ∧ SqT K H1 a xs ∧ R (Itu K a) H1
theorem pi_enumT {X : Cx} {e : Expr} {ta : TA} {p pos tpos : Pos} {elts : List Expr} {kk : Nat} (hg : Gl X "enumerate") (hm : X.mg "enumerate" = none) (ha : PA X [e] ta) (hs : starEach [e] X.env = [(false, eval e X.env)] := by rfl) :
    PI X (.Tuple elts kk tpos) (.Call (.Name "enumerate" p) [e] [] pos) (iEnumT X.K ta) := by
  refine ⟨fun pins s σ H R I h => ?_⟩
  refine Call_ (ld_blt I hg hm boot_enumerate (PyProof.Rows.callWith_type1 (thn (ha.run pos pins s σ H _ I h) fun us s1 ⟨vs, H1, I1, r1, q1⟩ => ?_) hs rfl))
  obtain ⟨a, xs, ex, hq, q⟩ := q1
  subst ex
  cases r1 with
  | cons r rr =>
    cases rr
    cases r
    obtain ⟨its, rv, p', hz⟩ := I1.tuple hq
    have hal : a < s1.heap.objs.size := by obtain ⟨_, q, _⟩ := p'; exact Heap.lt_size q
    refine call_enum1 (begins_tuple a its.toArray) p' fun h' he hit hsz hk => wpAny_pyIter_enum he ?_
    have I2 : Inv X pins σ H1 { s1 with heap := h' } := I1.kept (t' := s1.toks) hk
    refine ⟨s1.heap.objs.size + 1, [s1.heap.objs.size + 1, s1.heap.objs.size], _, _, H1, rfl, I2, turn_enumT a (s1.heap.objs.size + 1) s1.heap.objs.size, ⟨⟨.none, he⟩, ⟨_, hit, rfl, rfl⟩, Nat.succ_ne_self _, Nat.ne_of_gt (Nat.lt_succ_of_lt hal), Nat.ne_of_lt hal⟩, fun b hb => ?_, q⟩
    have e' : b = s1.heap.objs.size + 1 ∨ b = s1.heap.objs.size := by simpa using hb
    have hle : s1.heap.objs.size ≤ b := by
      rcases e' with z | z
      · rw [z]; exact Nat.le_add_right _ _
      · rw [z]; exact Nat.le_refl _
    exact I1.fpOk hle (I1.hok.fresh hle)
end SH

namespace SH
open PySem PySem.Spec PyProof.Rows L2
def revS (s : Str) : Str := ⟨s.cps.toList.reverse.toArray⟩
def revD : Store → D → Option D := fun _ x => match x with
  | .tup l => some (.tup l.reverse)
  | .str s => some (.str (revS s))
  | _ => none
theorem fm_congr {α β : Type} {l : List α} {f g : α → Option β} (h : ∀ x ∈ l, f x = g x) : l.filterMap f = l.filterMap g := by
  induction l with
  | nil => rfl
  | cons a l ih => rw [List.filterMap_cons, List.filterMap_cons, h a List.mem_cons_self, ih fun x hx => h x (List.mem_cons_of_mem _ hx)]
theorem back_pick (xs : List Nat) : (List.range xs.length).filterMap (fun m => xs[xs.length - 1 - m]?) = xs.reverse := by
  apply List.ext_getElem?
  intro i
  have e : (List.range xs.length).filterMap (fun m => xs[xs.length - 1 - m]?) = (List.range xs.length).map fun m => xs.getD (xs.length - 1 - m) 0 := by
    rw [← List.filterMap_eq_map]
    refine fm_congr ?_
    intro m hm
    have := List.mem_range.mp hm
    rw [List.getElem?_eq_getElem (by omega)]
    simp [List.getD_eq_getElem?_getD, List.getElem?_eq_getElem (show xs.length - 1 - m < xs.length by omega)]
  rw [e, List.getElem?_map]
  by_cases hi : i < xs.length
  · rw [List.getElem?_range hi, List.getElem?_reverse hi]
    simp [List.getD_eq_getElem?_getD, List.getElem?_eq_getElem (show xs.length - 1 - i < xs.length by omega)]
  · rw [List.getElem?_eq_none (by simpa using hi), List.getElem?_eq_none (by simpa using hi)]
    rfl
theorem revS_ok {s : Str} (h : StrOk s) : StrOk (revS s) := by
  obtain ⟨h1, h2⟩ := h
  refine ⟨?_, ?_⟩
  · unfold PyData.strOk at h1 ⊢
    simpa [revS] using h1
  · have h3 : s.cps.size ≤ sizeLine := h2
    show (s.cps.toList.reverse.toArray).size ≤ _
    simpa using h3
theorem back_goes {A : Around} {prog : Program} {w : World} {E : Value → Shared → Prop} {z : Shared} {sl : Addr} {vl vu vs : Value} {n : Nat} {Q : Int × Int × Nat → Shared → Prop} (hs : z.heap.IsSliceOf sl vl vu vs) (pl : IsPart vl none) (pu : IsPart vu none) (ps : IsPart vs (some (-1)))
    (h : Q ((n : Int) - 1, -1, n) z) : wpAny (model prog w) A (Builtin.Slice.sliceApplied (.ref sl) (pure (n : Int))) Q E z := by
  obtain ⟨os, hos, hcs, hds⟩ := id hs
  unfold Builtin.Slice.sliceApplied Builtin.Slice.sliceFields
  refine wpAny_bind (wpAny_bind (wpAny_field hos hds (x := vl) rfl (wpAny_bind (wpAny_field hos hds (x := vu) rfl (wpAny_bind (wpAny_field hos hds (x := vs) rfl (wpAny_pure ?_)))))))
  refine wpAny_bind (HT.slicePart_ ps ?_)
  show wpAny _ _ (if ((-1 : Int) == 0) = true then _ else _) _ _ z
  rw [if_neg (by decide)]
  refine wpAny_bind (HT.slicePart_ pl (wpAny_bind (HT.slicePart_ pu (wpAny_bind (wpAny_pure ?_)))))
  show wpAny _ _ (pure (((n : Int) - 1), (-1 : Int), Builtin.Slice.slicePlaces ((n : Int) - 1) (-1) (-1))) _ _ z
  have e : Builtin.Slice.slicePlaces ((n : Int) - 1) (-1) (-1) = n := by
    unfold Builtin.Slice.slicePlaces
    rw [if_neg (by decide)]
    split
    · rw [show (- -1 : Int) = 1 by decide, Int.ediv_one]; omega
    · omega
  rw [e]
  exact wpAny_pure h
theorem pick_back (xs : Array Value) : ((List.range xs.size).filterMap fun (m : Nat) => xs[(((xs.size : Int) - 1) + (m : Int) * (-1)).toNat]?).toArray = xs.toList.reverse.toArray := by
  congr 1
  apply List.ext_getElem?
  intro i
  have e : ((List.range xs.size).filterMap fun (m : Nat) => xs[(((xs.size : Int) - 1) + (m : Int) * (-1)).toNat]?) = (List.range xs.size).map fun m => xs.toList.getD (xs.size - 1 - m) default := by
    rw [← List.filterMap_eq_map]
    refine fm_congr ?_
    intro m hm
    have := List.mem_range.mp hm
    have e2 : (((xs.size : Int) - 1) + (m : Int) * (-1)).toNat = xs.size - 1 - m := by omega
    rw [e2, Array.getElem?_eq_getElem (by omega)]
    simp [List.getD_eq_getElem?_getD, Array.getElem?_eq_getElem (show xs.size - 1 - m < xs.size by omega)]
  rw [e, List.getElem?_map]
  by_cases hi : i < xs.size
  · rw [List.getElem?_range hi, List.getElem?_reverse (by simpa using hi)]
    simp [List.getD_eq_getElem?_getD, Array.getElem?_eq_getElem (show xs.size - 1 - i < xs.size by omega)]
  · rw [List.getElem?_eq_none (by simpa using hi), List.getElem?_eq_none (by simpa using hi)]
    rfl
theorem back_tuple {A : Around} {prog : Program} {w : World} {E : Value → Shared → Prop} {z : Shared} {t sl : Addr} {xs : Array Value} {vl vu vs : Value} {Q : Value → Shared → Prop} (ht : IsTup z.heap t xs) (hs : z.heap.IsSliceOf sl vl vu vs) (pl : IsPart vl none) (pu : IsPart vu none) (ps : IsPart vs (some (-1)))
    (hz : xs.size ≤ sizeLine) (h : Q (.ref z.heap.objs.size) { z with heap := z.heap.push { cls := .type "tuple", data := .seq xs.toList.reverse.toArray } }) : wpAny (model prog w) A (getItem (.ref t) (.ref sl)) Q E z := by
  have ok : sizeOk (.seq xs.toList.reverse.toArray) := by
    show (xs.toList.reverse.toArray).size ≤ sizeLine
    simpa using hz
  have ty : z.TypeIs (.ref sl) "slice" := hs.elim fun os q => ⟨os, q.1, q.2.1⟩
  unfold getItem
  try with_reducible refine wpAny_holding ?_
  first | refine wpAny_bind (wpAny_pure ?_) | skip
  refine wpAny_bind (wpAny_sequenceKey ht.typeIs (by decide) ?_)
  refine wpAny_bind (wpAny_callSpecial?_slot (name := Str.ofString "__getitem__") ht.typeIs PyProof.Rows.slot_tuple_getitem ?_)
  refine wpAny_call_entry PyProof.Rows.slot_tuple_getitem ht.typeIs entry_tuple_getitem ?_ (args_tuple_getitem _ _)
  show wpAny _ _ (Builtin.Tuple.tupleItemsOf (.ref t) >>= _) _ _ z
  refine wpAny_bind (tupleItemsOf_ ht (wpAny_bind (wpAny_typeOf ty ?_)))
  rw [if_pos (by decide)]
  refine wpAny_bind (back_goes hs pl pu ps ?_)
  show wpAny _ _ (if (((xs.size : Int) - 1) == 0 && (-1 : Int) == 1 && xs.size == xs.size) = true then _ else _) _ _ z
  rw [if_neg (by rw [show ((-1 : Int) == 1) = false from rfl]; simp), pick_back]
  first
    | exact wpAny_bind (m := Builtin.Tuple.tupleExact _) (wpAny_newObj_type (wpAny_pure ⟨_, rfl, wpAny_pure h⟩) ok)
    | exact wpAny_bind (m := Builtin.Tuple.tupleExact _) (wpAny_newObj_type (wpAny_bind (wpAny_pure (wpAny_pure ⟨_, rfl, wpAny_pure h⟩))) ok)
    | exact wpAny_bind (wpAny_bind (m := Builtin.Tuple.tupleExact _) (wpAny_newObj_type (wpAny_pure (wpAny_pure ⟨_, rfl, wpAny_pure h⟩)) ok))
    | exact wpAny_bind (wpAny_bind (m := Builtin.Tuple.tupleExact _) (wpAny_newObj_type (wpAny_pure ⟨_, rfl, wpAny_pure h⟩) ok))
section
variable {K : Frag} {ow : List Nat} {f f' : List Addr} {Z : Addr → Prop} {H H' : Hp} {st st' : Store} {d : D} {v : V} {X : Cx} {σ : L2.St}
theorem Rps.reverse : ∀ {ds : List D} {vs : List V}, Rps K f Z H ds vs → Rps K f Z H ds.reverse vs.reverse
  | _, _, .nil => .nil
  | _, _, .cons h r => by
    rw [List.reverse_cons, List.reverse_cons]
    exact r.reverse.snoc h
def tRevM (K : Frag) (te : TE) : TE := fun σ H Q => te σ H fun x H1 => (∃ a xs, x = .ref a ∧ SqT K H1 a xs ∧ NewT xs.reverse H1 Q) ∨ ∃ s, x = .str s ∧ s.length ≤ sizeLine ∧ Q (.str (revS s)) H1
theorem pe_revM {e : Expr} {te : TE} {k : Nat} {p1 p2 p3 pos : Pos} (he : PE X e te) : PE X (.Subscript e (.Slice none none (some (.UnaryOp .USub (.Constant (.int 1) k p1) p2)) p3) pos) (tRevM X.K te) := by
  constructor
  intro pins z σ H Q I h
  have step : PO X (some (.UnaryOp .USub (.Constant (.int 1) k p1) p2)) (tPart (tUn (rU fun i => .int (-i)) (tC (.int 1)))) := po_some (pe_un un_neg pe_int)
  refine Subscript_ (thn (he.run pins z σ H _ I h) ?_)
  rintro v z1 ⟨x, H1, I1, r1, q⟩
  apply wpAny_Slice
  refine thn (po_none.run pins z1 σ H1 (fun o H2 => o = none ∧ H2 = H1) I1 ⟨rfl, rfl⟩) ?_
  rintro vl z2 ⟨_, _, I2, pl, rfl, rfl⟩
  refine thn (po_none.run pins z2 σ _ (fun o H3 => o = none ∧ H3 = _) I2 ⟨rfl, rfl⟩) ?_
  rintro vu z3 ⟨_, _, I3, pu, rfl, rfl⟩
  refine thn (step.run pins z3 σ _ (fun o H4 => o = some (-1) ∧ H4 = _) I3 ⟨1, rfl, -1, rfl, rfl, rfl⟩) ?_
  rintro vs z4 ⟨_, _, I4, ps, rfl, rfl⟩
  have I5 := I4.kept (h' := z4.heap.push { cls := .type "slice", data := .fields #[vl, vu, vs] }) (t' := z4.toks) fun b ob q => Heap.get?_push_of_some _ q
  rcases q with ⟨a, xs, rfl, hx, q⟩ | ⟨s, rfl, hz, q⟩
  · cases r1
    obtain ⟨its, r, ht, hz⟩ := I5.tuple hx
    refine tail_any (ops := [.ref a, .ref z4.heap.objs.size]) ht.typeIs PyProof.Rows.slot_tuple_getitem.lookup ?_ (by with_unfolding_all rfl)
    refine back_tuple ht (Heap.IsSliceOf.new _ vl vu vs) pl pu ps (by rw [List.size_toArray, ← r.length]; exact hz) ?_
    exact q.laid (t' := z4.toks) I5 r.reverse (by rw [List.length_reverse]; exact hz)
  · obtain ⟨t, rfl⟩ := r1
    obtain ⟨l, rfl, el⟩ := IsPart.raw pl
    obtain ⟨u, rfl, eu⟩ := IsPart.raw pu
    obtain ⟨c, rfl, ec⟩ := IsPart.raw ps
    refine tail_any (ops := [.str s t, .ref z4.heap.objs.size]) (typeIs_str _ _ _) F.slot_str_getitem.lookup ?_ (by with_unfolding_all rfl)
    refine wpAny_getItem_str_slice (l := l) (u := u) (st := c) ⟨_, Heap.get?_push_size _ rfl, rfl, rfl⟩ (by rw [ec]; rfl) ?_
    have e1 : slicePicked s l u c = (List.range s.length).map fun k => s.length - 1 - k := by
      unfold slicePicked Builtin.Str.strSliceIndices
      rw [el, eu, ec]
      exact PySem.W.krv_sliceRange s.length
    unfold sliceMade
    rw [if_neg (by rw [ec]; simp), e1, List.filterMap_map]
    have e2 : (List.range s.length).filterMap ((fun x => s.cps[x]?) ∘ fun k => s.length - 1 - k) = s.cps.toList.reverse := by
      have := back_pick s.cps.toList
      rw [Array.length_toList] at this
      rw [← this]
      refine fm_congr ?_
      intro m hm
      show s.cps[s.length - 1 - m]? = _
      rw [Array.getElem?_toList]
      rfl
    rw [e2]
    refine ⟨?_, .str _, _, I5.tok _, ⟨_, rfl⟩, q⟩
    have h3 : s.cps.size ≤ sizeLine := hz
    show (s.cps.toList.reverse.toArray).size ≤ sizeLine
    simpa using h3
theorem tRev_of {ma : EM} {Q : VK} (q : tEv K ow .C (mOp1 revD ma) σ H Q) : tRevM K (tEv K ow .T ma) σ H Q := by
  obtain ⟨f, Z, ρ, st, E, d, st', e, q⟩ := q
  obtain ⟨dx, st1, e1, e⟩ := R.bind_eq (show (ma ρ st).bind _ = _ from e)
  obtain ⟨e2, rfl⟩ := liftO_ok e
  refine ⟨f, Z, ρ, st, E, dx, _, e1, fun f1 H1 x x1 ⟨S1, t1⟩ => ?_⟩
  unfold revD at e2
  split at e2
  · cases e2
    cases t1 with
    | rp rx =>
      cases rx with
      | tup h1 r1 =>
        refine .inl ⟨_, _, rfl, h1.sq, fun p o ho hp => ?_⟩
        obtain ⟨x2, S2, r2⟩ := tup_new S1 r1.reverse hp ho (by rw [List.length_reverse]; exact h1.len)
        exact q _ _ _ (x1.trans x2) ⟨S2, r2⟩
  · cases e2
    cases t1 with
    | rp rx =>
      cases rx with
      | str _ h1 => exact .inr ⟨_, rfl, h1.2, q _ _ _ x1 ⟨S1, .str _ (revS_ok h1)⟩⟩
  · cases e2
theorem pe_mRev {a : Expr} {ma : EM} {k : Nat} {p1 p2 p3 pos : Pos} (hK : X.K = K) (ha : PE X a (tEv K ow .T ma)) : PE X (.Subscript a (.Slice none none (some (.UnaryOp .USub (.Constant (.int 1) k p1) p2)) p3) pos) (tEv K ow .C (mOp1 revD ma)) := by
  subst hK
  exact pe_weak (pe_revM ha) fun σ H Q q => tRev_of q
end
end SH

namespace SH
open PySem L2
inductive Ty where
  | non | bool | int | str | tuple | list | dict
  deriving DecidableEq
def Ty.nm : Ty → String
  | .non => "NoneType"
  | .bool => "bool"
  | .int => "int"
  | .str => "str"
  | .tuple => "tuple"
  | .list => "list"
  | .dict => "dict"
def Ty.of (s : Str) : Option Ty :=
  if s = ("bool" : Str) then some .bool else if s = ("int" : Str) then some .int else if s = ("str" : Str) then some .str else if s = ("tuple" : Str) then some .tuple else if s = ("list" : Str) then some .list else if s = ("dict" : Str) then some .dict else none
def Ty.sub : Ty → Ty → Bool
  | .bool, .int => true
  | a, b => decide (a = b)
theorem kit_sub (a b : Ty) : kitB a.nm b.nm = some (a.sub b) := by cases a <;> cases b <;> decide +kernel
theorem boot_ty {s : Str} {t : Ty} (h : Ty.of s = some t) : bootBuiltins s = some (.type t.nm) := by
  unfold Ty.of at h
  split at h
  · rename_i e; subst e; cases h; decide +kernel
  split at h
  · rename_i e; subst e; cases h; decide +kernel
  split at h
  · rename_i e; subst e; cases h; decide +kernel
  split at h
  · rename_i e; subst e; cases h; decide +kernel
  split at h
  · rename_i e; subst e; cases h; decide +kernel
  split at h
  · rename_i e; subst e; cases h; decide +kernel
  · cases h
def D.ty : D → Option Ty
  | .non => some .non
  | .bl _ => some .bool
  | .int _ => some .int
  | .str _ => some .str
  | .tup _ => some .tuple
  | .lst _ => some .list
  | .dic _ _ => some .dict
  | .scr _ => some .list
  | .ref _ => none
def isiD (ts : List Ty) : Store → D → Option D := fun _ x => match x.ty with
  | some t => some (.bl (ts.any fun u => t.sub u))
  | none => none
section
variable {K : Frag} {ow : List Nat} {f f' f1 f2 : List Addr} {Z Z' : Addr → Prop} {H H' H1 H2 : Hp} {st st' : Store} {X : Cx} {k : Kd} {σ : St}
theorem Tp.ty {d : D} {v : V} {t : Ty} (x : Tp K f Z H d v) (h : d.ty = some t) : TyX K H v (.type t.nm) := by
  cases x with
  | rp r =>
    cases r with
    | non => cases h; exact .base .non
    | bl b => cases h; exact .base (.bl b)
    | int b => cases h; exact .base (.int b)
    | str b _ => cases h; exact .base (.str b)
    | tup h1 r1 =>
      cases h
      obtain ⟨o, e, _⟩ := h1
      exact .fTuple e
    | lst h1 r1 => cases h; exact .base (.lst h1.1)
    | dic h1 r1 _ _ => cases h; exact .base (.dK h1.1)
    | ref _ => cases h
    | scr h1 _ =>
      cases h
      rcases h1 with ⟨⟨u, e, hu⟩, _⟩ | ⟨o, its, n, e, c, _⟩
      · rcases hu with rfl | ⟨o, rfl⟩
        · exact .base (.lst e)
        · exact .base (.frz e)
      · exact .kList e c
  | lst h1 r1 => cases h; exact .base (.lst h1.1)
  | dic h1 r1 _ _ => cases h; exact .base (.dK h1.1)
theorem kitAny_tys (t : Ty) : ∀ ts : List Ty, PySem.W.kitAny K (.type t.nm) (ts.map fun u => Value.type u.nm) = some (ts.any fun u => t.sub u)
  | [] => kitAny_nil
  | u :: ts => kitAny_cons (kit_ty (kit_sub t u)) (fun e => by rw [kitAny_tys t ts, List.any_cons, e]; rfl) (fun e => by rw [List.any_cons, e]; rfl)
theorem pe_mIsi {a : Expr} {ma : EM} {pos p p2 : Pos} {c : Str} {t : Ty} (hK : X.K = K) (hg : Gl X "isinstance") (hm : X.mg "isinstance" = none) (hg2 : Gl X c) (hm2 : X.mg c = none) (hc : Ty.of c = some t)
    (ha : PE X a (tEv K ow .T ma)) (hs : starEach (a :: [.Name c p2]) X.env = (false, eval a X.env) :: starEach [.Name c p2] X.env) (hn : c ≠ "__name__") (hdb : (c == ("__debug__" : Str)) = false) :
    PE X (.Call (.Name "isinstance" p) [a, .Name c p2] [] pos) (tEv K ow .C (mOp1 (isiD [t]) ma)) := by
  subst hK
  refine pe_weak (pe_callB call_isi hg hm (by decide +kernel) (pa_cons ha (pa_cons (pe_bltn (v := .ty t.nm) hg2 hm2 (boot_ty hc) rfl hn hdb) pa_nil rfl) hs) (by decide) (by decide) hs rfl) fun σ H Q q => ?_
  obtain ⟨f, Z, ρ, st, E, d, st', e, q⟩ := q
  obtain ⟨dx, st1, e1, e⟩ := R.bind_eq (show (ma ρ st).bind _ = _ from e)
  obtain ⟨e3, rfl⟩ := liftO_ok e
  refine ⟨f, Z, ρ, st, E, dx, _, e1, fun f1 H1 x x1 ⟨S1, t1⟩ => ?_⟩
  unfold isiD at e3
  split at e3
  · rename_i u hu
    cases e3
    refine ⟨x, _, _, _, _, rfl, .ty _, t1.ty hu, kit_ty (kit_sub u t), ?_⟩
    have z : ([t].any fun w => u.sub w) = u.sub t := by simp
    rw [z] at q
    exact q f1 H1 _ x1 ⟨S1, .bl _⟩
  · cases e3
/-- a tuple of built-in types -/
structure TyArgs (X : Cx) (es : List Expr) (ts : List Ty) : Prop where
  pa : ∀ (t : TA), (∀ σ H Q, t σ H Q → Q (ts.map fun u => V.ty u.nm) H) → PA X es t
theorem tyArgs_nil : TyArgs X [] [] := ⟨fun t h => PA.weak pa_nil fun σ H Q q => h σ H Q q⟩
theorem tyArgs_cons {c : Str} {t : Ty} {p : Pos} {es : List Expr} {ts : List Ty} (hg : Gl X c) (hm : X.mg c = none) (hc : Ty.of c = some t) (hn : c ≠ "__name__") (hdb : (c == ("__debug__" : Str)) = false) (hr : TyArgs X es ts) : TyArgs X (.Name c p :: es) (t :: ts) :=
  ⟨fun tt h => PA.weak (pa_cons (pe_bltn (v := .ty t.nm) hg hm (boot_ty hc) rfl hn hdb) (hr.pa (fun _ H Q => Q (ts.map fun u : Ty => V.ty u.nm) H) fun _ _ _ q => q) rfl) fun σ H Q q => (show Q (V.ty t.nm :: ts.map fun u : Ty => V.ty u.nm) H from h σ H Q q)⟩
theorem clsV_tys : ∀ ts : List Ty, Paired ClsV (ts.map fun u => V.ty u.nm) (ts.map fun u => Value.type u.nm)
  | [] => .nil
  | t :: ts => .cons (.ty _) (clsV_tys ts)
theorem pe_mIsiT {a : Expr} {ma : EM} {pos p p2 : Pos} {es : List Expr} {kk : Nat} {ts : List Ty} (hK : X.K = K) (hg : Gl X "isinstance") (hm : X.mg "isinstance" = none) (hc : TyArgs X es ts) (hl : ts.length ≤ 1000)
    (ha : PE X a (tEv K ow .T ma)) (hs : starEach (a :: [.Tuple es kk p2]) X.env = (false, eval a X.env) :: starEach [.Tuple es kk p2] X.env) :
    PE X (.Call (.Name "isinstance" p) [a, .Tuple es kk p2] [] pos) (tEv K ow .C (mOp1 (isiD ts) ma)) := by
  subst hK
  refine pe_weak (pe_callB call_isiT hg hm (by decide +kernel) (pa_cons ha (pa_cons (pe_tup (hc.pa (fun _ H Q => Q (ts.map fun u => V.ty u.nm) H) fun _ _ _ q => q)) pa_nil rfl) hs) (by decide) (by decide) hs rfl) fun σ H Q q => ?_
  obtain ⟨f, Z, ρ, st, E, d, st', e, q⟩ := q
  obtain ⟨dx, st1, e1, e⟩ := R.bind_eq (show (ma ρ st).bind _ = _ from e)
  obtain ⟨e3, rfl⟩ := liftO_ok e
  refine ⟨f, Z, ρ, st, E, dx, _, e1, fun f1 H1 x x1 ⟨S1, t1⟩ => ⟨by rw [List.length_map]; exact Nat.le_trans hl (by decide), fun tp hp => ?_⟩⟩
  unfold isiD at e3
  split at e3
  · rename_i u hu
    cases e3
    have kp := keep_new (o := HO.tup (ts.map fun u => V.ty u.nm)) hp
    have x2 := Ext.same S1 kp
    exact ⟨x, tp, _, _, _, _, rfl, upd_same, clsV_tys ts, (t1.ext x2).ty hu, kitAny_tys u ts, q f1 _ _ (x1.trans x2) ⟨S1.same kp, .bl _⟩⟩
  · cases e3

def elems : D → Option (List D)
  | .tup l => some l
  | .lst l => some l
  | .str s => some (s.cps.toList.map fun c => .str ⟨#[c]⟩)
  | .scr ns => some (ns.map D.int)
  | _ => none
def onL (o : Option (List D)) (st : Store) : R (List D) := match o with
  | some l => .ok l st
  | none => .bad
@[simp] theorem onL_some (l : List D) (st : Store) : onL (some l) st = .ok l st := rfl
@[simp] theorem onL_none (st : Store) : onL none st = .bad := rfl
theorem onL_ok {o : Option (List D)} {st st' : Store} {l : List D} (h : onL o st = .ok l st') : o = some l ∧ st' = st := by
  cases o with
  | none => cases h
  | some x => cases h; exact ⟨rfl, rfl⟩
def iSeq (e : EM) : LM := fun ρ st => (e ρ st).bind fun d st1 => onL (elems d) st1
def rangeL (n : Nat) : List D := (List.range n).map fun i => .int (i : Nat)
def iRange (e : EM) : LM := fun ρ st => (e ρ st).bind fun d st1 => match d with
  | .int j => if -1000000 ≤ j ∧ j ≤ sizeLine then .ok (rangeL j.toNat) st1 else .bad
  | _ => .bad
def pairs (l m : List D) : List D := (l.zip m).map fun p => .tup [p.1, p.2]
def enums (l : List D) : List D := l.zipIdx.map fun p => .tup [.int (p.2 : Nat), p.1]
def iEnumL (e : EM) : LM := fun ρ st => (e ρ st).bind fun d st1 => match d with
  | .lst l => .ok (enums l) st1
  | .tup l => .ok (enums l) st1
  | _ => .bad
def iZipL (a b : EM) : LM := fun ρ st => (a ρ st).bind fun d st1 => (b ρ st1).bind fun e st2 => match d, e with
  | .lst l, .lst m => .ok (pairs l m) st2
  | .tup l, .tup m => .ok (pairs l m) st2
  | _, _ => .bad
/-- the reading of a source by its kind -/
theorem stab_of {d : D} {v : V} (hk : k = .T ∨ k = .C) : Stab k (fun f Z H => if k = .T then Tp K f Z H d v else Rp K f Z H d v) := by
  intro f Z H f' Z' H' x F o
  rcases hk with rfl | rfl
  · rw [if_pos rfl] at o ⊢
    have x' := x rfl
    cases o with
    | rp h => exact .rp (h.frm F)
    | lst h r => exact .lst (h.frm x'.frm) (r.frm F)
    | dic h r l k => exact .dic (h.frm x'.frm) (r.frm F) l k
  · rw [if_neg (by decide)] at o ⊢
    exact o.frm F
theorem okTp {d : D} {v : V} (hk : k = .T ∨ k = .C) (h : if k = .T then Tp K f Z H d v else Rp K f Z H d v) : Tp K f Z H d v := by
  rcases hk with rfl | rfl
  · rw [if_pos rfl] at h; exact h
  · rw [if_neg (by decide)] at h; exact .rp h
theorem post_ok {d : D} {v : V} (hk : k = .T ∨ k = .C) (p : Post K k H1 f' Z H' st' d v) : StR K f' Z H' st' ∧ (if k = .T then Tp K f' Z H' d v else Rp K f' Z H' d v) := by
  rcases hk with rfl | rfl
  · rw [if_pos rfl]; exact p
  · rw [if_neg (by decide)]; exact p
theorem en_list {bb : Bool} {a : Addr} {l : List D} {Ok : List Addr → (Addr → Prop) → Hp → Prop} (h : ∀ f Z H, Ok f Z H → ∃ vs, SqL K H a vs ∧ Rps K f Z H l vs) (hu : ∀ f Z H, Ok f Z H → ∀ xs ys, SqL K H a xs → SqL K H a ys → xs = ys ∨ True) : Enums K bb (Itl K a) l Ok := by
  intro f Z H st ho S
  obtain ⟨vs, hs, r⟩ := h f Z H ho
  refine ⟨fun i hi => ?_, ⟨vs, hs, by rw [← r.length]; exact Nat.le_refl _⟩⟩
  obtain ⟨v, hv, rv⟩ := r.get (List.getElem?_eq_getElem hi)
  refine ⟨⟨vs, v, hs, hv⟩, fun x H' hy => ?_⟩
  obtain ⟨rfl, hy⟩ := hy
  have e := hy vs hs
  rw [hv] at e
  cases e
  exact ⟨fun _ _ e => e, _, List.getElem?_eq_getElem hi, .rp rv⟩
theorem en_tup {bb : Bool} {a : Addr} {l : List D} {Ok : List Addr → (Addr → Prop) → Hp → Prop} (h : ∀ f Z H, Ok f Z H → ∃ vs, SqT K H a vs ∧ Rps K f Z H l vs) : Enums K bb (Itt K a) l Ok := by
  intro f Z H st ho S
  obtain ⟨vs, hs, r⟩ := h f Z H ho
  refine ⟨fun i hi => ?_, ⟨vs, hs, by rw [← r.length]; exact Nat.le_refl _⟩⟩
  obtain ⟨v, hv, rv⟩ := r.get (List.getElem?_eq_getElem hi)
  refine ⟨⟨vs, v, hs, hv⟩, fun x H' hy => ?_⟩
  obtain ⟨rfl, hy⟩ := hy
  have e := hy vs hs
  rw [hv] at e
  cases e
  exact ⟨fun _ _ e => e, _, List.getElem?_eq_getElem hi, .rp rv⟩
theorem Tp.tup_at {l : List D} {v : V} (t : Tp K f Z H (.tup l) v) : ∃ a vs, v = .ref a ∧ SqT K H a vs ∧ vs.length ≤ sizeLine ∧ Rps K f Z H l vs ∧ TupAt K f Z H a vs := by
  cases t with
  | rp h =>
    cases h with
    | tup h r => exact ⟨_, _, rfl, h.sq, h.len, r, h⟩
theorem tSeq_of {e : EM} {bb : Bool} {RR : It → Hp → Prop} (hk : k = .T ∨ k = .C) (q : tIv K ow k bb (iSeq e) σ H RR) : iList K (tEv K ow k e) σ H RR ∨ iTup K (tEv K ow k e) σ H RR ∨ iStr (tEv K ow k e) σ H RR := by
  obtain ⟨f, Z, ρ, st, E, l, st', e0, q⟩ := q
  obtain ⟨d, st1, e1, e2⟩ := R.bind_eq (show (e ρ st).bind _ = _ from e0)
  obtain ⟨e3, rfl⟩ := onL_ok e2
  have stab := fun v => stab_of (K := K) (d := d) (v := v) hk
  cases d with
  | lst m =>
    cases e3
    refine .inl ⟨f, Z, ρ, st, E, _, _, e1, fun f1 H1 v x1 p => ?_⟩
    obtain ⟨S1, o1⟩ := post_ok hk p
    obtain ⟨a, vs, rfl, h1, _, hz, r1⟩ := (okTp hk o1).lst_at
    refine ⟨a, rfl, ⟨vs, SqL.of h1⟩, q f1 H1 _ _ x1 S1 (by rw [r1.length]; exact hz) (stab (.ref a)) o1 (en_list (fun f Z H ho => ?_) fun _ _ _ _ _ _ _ _ => .inr trivial)⟩
    obtain ⟨a', vs', ea, h2, _, _, r2⟩ := (okTp hk ho).lst_at
    cases ea
    exact ⟨vs', SqL.of h2, r2⟩
  | tup m =>
    cases e3
    refine .inr (.inl ⟨f, Z, ρ, st, E, _, _, e1, fun f1 H1 v x1 p => ?_⟩)
    obtain ⟨S1, o1⟩ := post_ok hk p
    obtain ⟨a, vs, rfl, h1, hz, r1, _⟩ := (okTp hk o1).tup_at
    refine ⟨a, rfl, ⟨vs, h1⟩, q f1 H1 _ _ x1 S1 (by rw [r1.length]; exact hz) (stab (.ref a)) o1 (en_tup fun f Z H ho => ?_)⟩
    obtain ⟨a', vs', ea, h2, _, r2, _⟩ := (okTp hk ho).tup_at
    cases ea
    exact ⟨vs', h2, r2⟩
  | scr m =>
    cases e3
    refine .inl ⟨f, Z, ρ, st, E, _, _, e1, fun f1 H1 v x1 p => ?_⟩
    obtain ⟨S1, o1⟩ := post_ok hk p
    have scr : ∀ f Z H v, Tp K f Z H (.scr m) v → ∃ a, v = .ref a ∧ SqL K H a (m.map V.int) ∧ m.length ≤ 63 := fun f Z H v t => by
      cases t with
      | rp h =>
        cases h with
        | scr h l => exact ⟨_, rfl, h.sq, l⟩
    obtain ⟨a, rfl, h1, hl⟩ := scr _ _ _ _ (okTp hk o1)
    refine ⟨a, rfl, ⟨_, h1⟩, q f1 H1 _ _ x1 S1 (by rw [List.length_map]; exact Nat.le_trans hl (by decide)) (stab (.ref a)) o1 (en_list (fun f Z H ho => ?_) fun _ _ _ _ _ _ _ _ => .inr trivial)⟩
    obtain ⟨a', ea, h2, _⟩ := scr _ _ _ _ (okTp hk ho)
    cases ea
    exact ⟨_, h2, Rps.of_ints⟩
  | str s =>
    cases e3
    refine .inr (.inr ⟨f, Z, ρ, st, E, _, _, e1, fun f1 H1 v x1 p => ?_⟩)
    obtain ⟨S1, o1⟩ := post_ok hk p
    have sok : StrOk s ∧ v = .str s := by
      cases okTp hk o1 with
      | rp h => cases h with
        | str _ h => exact ⟨h, rfl⟩
    obtain ⟨sok, rfl⟩ := sok
    refine ⟨s, rfl, q f1 H1 (Its s) (fun _ _ _ => True) x1 S1 (by rw [List.length_map, Array.length_toList]; exact sok.2) (fun _ _ _ _ _ _ _ _ _ => trivial) trivial ?_⟩
    intro f Z H st _ S
    refine ⟨fun i hi => ?_, by show s.cps.size ≤ _; rw [List.length_map, Array.length_toList]; exact Nat.le_refl _⟩
    rw [List.length_map, Array.length_toList] at hi
    refine ⟨hi, fun x H' hy => ?_⟩
    obtain ⟨rfl, c, hc, rfl⟩ := hy
    have hc' : s.cps.toList[i]? = some c := by rw [Array.getElem?_toList]; exact hc
    exact ⟨fun _ _ e => e, _, by rw [List.getElem?_map, hc']; rfl, .rp (.str _ (strOk_sign sok (List.mem_of_getElem? hc')))⟩
  | _ => cases e3
theorem pi_mSeq {bb : Bool} {tg it : Expr} {e : EM} (hk : k = .T ∨ k = .C) (hK : X.K = K) (h : PE X it (tEv K ow k e)) : PI X tg it (tIv K ow k bb (iSeq e)) := by
  subst hK
  exact PI.weak (PI.or (pi_list h) (PI.or (pi_tup h) (pi_str h))) fun σ H RR q => tSeq_of hk q
theorem pi_mRange {bb : Bool} {tg a : Expr} {e : EM} {p pos : Pos} (hg : Gl X "range") (hm : X.mg "range" = none) (h : PE X a (tEv K ow .C e)) (hs : starEach (a :: []) X.env = (false, eval a X.env) :: starEach [] X.env) :
    PI X tg (.Call (.Name "range" p) [a] [] pos) (tIv K ow k bb (iRange e)) := by
  refine PI.weak (pi_range1 hg hm (pa_cons h pa_nil hs) hs) fun σ H RR q => ?_
  obtain ⟨f, Z, ρ, st, E, l, st', e0, q⟩ := q
  obtain ⟨d, st1, e1, e2⟩ := R.bind_eq (show (e ρ st).bind _ = _ from e0)
  refine ⟨f, Z, ρ, st, E, d, st1, e1, fun f1 H1 v x1 ⟨S1, r1⟩ => ?_⟩
  cases d with
  | int j =>
    cases r1
    have e2 : (if -1000000 ≤ j ∧ j ≤ sizeLine then .ok (rangeL j.toNat) st1 else .bad) = R.ok l st' := e2
    by_cases hj : -1000000 ≤ j ∧ j ≤ sizeLine
    · rw [if_pos hj] at e2
      cases e2
      have hs : (sizeLine : Int) = 16777216 := by decide
      refine ⟨j, rfl, by omega, by omega, q f1 H1 _ (fun _ _ _ => True) x1 S1 (by unfold rangeL; rw [List.length_map, List.length_range]; omega) (fun _ _ _ _ _ _ _ _ _ => trivial) trivial ?_⟩
      intro f Z H st _ S
      unfold rangeL
      rw [List.length_map, List.length_range]
      refine ⟨fun i hi => ⟨hi, fun x H' hy => ?_⟩, Nat.le_refl _⟩
      obtain ⟨rfl, rfl⟩ := hy
      exact ⟨fun _ _ e => e, .int (i : Nat), by rw [List.getElem?_map, List.getElem?_range hi]; rfl, by rw [Int.zero_add]; exact .rp (.int _)⟩
    · rw [if_neg hj] at e2; cases e2
  | _ => cases e2
/-- a new pair -/
theorem pair_new {T : Addr} {d e : D} {x y : V} (S : StR K f Z H st) (hT : H T = none) (rx : Rp K f Z H d x) (ry : Rp K f Z H e y) :
    (∀ b o, H b = some o → (upd H T (.tup [x, y])) b = some o) ∧ Ip K f Z (upd H T (.tup [x, y])) true (.tup [d, e]) (.ref T) := by
  have k := keep_new (o := .tup [x, y]) hT
  have F := (Ext.same S k).frm (Z := Z)
  exact ⟨k, .pr upd_same (rx.frm F) (ry.frm F)⟩
theorem pi_mEnum {a : Expr} {e : EM} {p pos tpos : Pos} {elts : List Expr} {kk : Nat} (hk : k = .T ∨ k = .C) (hK : X.K = K) (hg : Gl X "enumerate") (hm : X.mg "enumerate" = none) (h : PE X a (tEv K ow k e)) (hs : starEach (a :: []) X.env = (false, eval a X.env) :: starEach [] X.env) :
    PI X (.Tuple elts kk tpos) (.Call (.Name "enumerate" p) [a] [] pos) (tIv K ow k true (iEnumL e)) := by
  subst hK
  refine PI.weak (PI.or (pi_enum hg hm (pa_cons h pa_nil hs) hs) (pi_enumT hg hm (pa_cons h pa_nil hs) hs)) fun σ H RR q => ?_
  obtain ⟨f, Z, ρ, st, E, l, st', e0, q⟩ := q
  obtain ⟨d, st1, e1, e2⟩ := R.bind_eq (show (e ρ st).bind _ = _ from e0)
  cases d with
  | lst m =>
    refine .inl ⟨f, Z, ρ, st, E, _, st1, e1, fun f1 H1 v x1 p => ?_⟩
    obtain ⟨S1, o1⟩ := post_ok hk p
    cases e2
    obtain ⟨a, vs, rfl, h1, _, hz, r1⟩ := (okTp hk o1).lst_at
    have hlen : (enums m).length = m.length := by simp [enums]
    refine ⟨a, vs, rfl, SqL.of h1, q f1 H1 _ _ x1 S1 (by rw [hlen, r1.length]; exact hz) (stab_of hk) o1 ?_⟩
    intro f Z H st ho S
    obtain ⟨a', vs', ea, h2, _, _, r2⟩ := (okTp hk ho).lst_at
    cases ea
    rw [hlen]
    refine ⟨fun i hi => ?_, ⟨vs', SqL.of h2, by rw [← r2.length]; exact Nat.le_refl _⟩⟩
    obtain ⟨v, hv, rv⟩ := r2.get (List.getElem?_eq_getElem hi)
    refine ⟨⟨vs', v, SqL.of h2, hv⟩, fun x H' hy => ?_⟩
    obtain ⟨T, y, rfl, hT, rfl, hy⟩ := hy
    have e := hy vs' (SqL.of h2)
    rw [hv] at e
    cases e
    obtain ⟨k1, r⟩ := pair_new S hT (.int (i : Nat)) rv
    exact ⟨k1, _, by simp [enums, hi], r⟩
  | tup m =>
    refine .inr ⟨f, Z, ρ, st, E, _, st1, e1, fun f1 H1 v x1 p => ?_⟩
    obtain ⟨S1, o1⟩ := post_ok hk p
    cases e2
    obtain ⟨a, vs, rfl, h1, hz, r1, _⟩ := (okTp hk o1).tup_at
    have hlen : (enums m).length = m.length := by simp [enums]
    refine ⟨a, vs, rfl, h1, q f1 H1 _ _ x1 S1 (by rw [hlen, r1.length]; exact hz) (stab_of hk) o1 ?_⟩
    intro f Z H st ho S
    obtain ⟨a', vs', ea, h2, _, r2, _⟩ := (okTp hk ho).tup_at
    cases ea
    rw [hlen]
    refine ⟨fun i hi => ?_, ⟨vs', h2, by rw [← r2.length]; exact Nat.le_refl _⟩⟩
    obtain ⟨v, hv, rv⟩ := r2.get (List.getElem?_eq_getElem hi)
    refine ⟨⟨vs', v, h2, hv⟩, fun x H' hy => ?_⟩
    obtain ⟨T, y, rfl, hT, rfl, hy⟩ := hy
    have e := hy vs' h2
    rw [hv] at e
    cases e
    obtain ⟨k1, r⟩ := pair_new S hT (.int (i : Nat)) rv
    exact ⟨k1, _, by simp [enums, hi], r⟩
  | _ => cases e2
theorem pairs_get {l m : List D} {i : Nat} {a b : D} (h1 : l[i]? = some a) (h2 : m[i]? = some b) : (pairs l m)[i]? = some (.tup [a, b]) := by
  unfold pairs
  rw [List.getElem?_map, (List.getElem?_zip_eq_some (z := (a, b))).mpr ⟨h1, h2⟩]
  rfl
theorem pi_mZip {a b : Expr} {ma mb : EM} {p pos tpos : Pos} {elts : List Expr} {kk : Nat} (hK : X.K = K) (hc : X.calm = true) (hg : Gl X "zip") (hm : X.mg "zip" = none) (h : PE X a (tEv K ow .C ma)) (h2 : PE X b (tEv K ow .C mb))
    (hs : starEach (a :: [b]) X.env = (false, eval a X.env) :: starEach [b] X.env) (hs2 : starEach (b :: []) X.env = (false, eval b X.env) :: starEach [] X.env) (hpl : (backTo pos (starEach [b] X.env)).any (·.1) = false) :
    PI X (.Tuple elts kk tpos) (.Call (.Name "zip" p) [a, b] [] pos) (tIv K ow .C true (iZipL ma mb)) := by
  subst hK
  refine PI.weak (RZ.pi_zipA hg hm (pa_cons h (pa_cons h2 pa_nil hs2) hs) hs hpl) fun σ H RR q => ?_
  obtain ⟨f, Z, ρ, st, E, l, st', e0, q⟩ := q
  obtain ⟨d, st1, e1, e2⟩ := R.bind_eq (show (ma ρ st).bind _ = _ from e0)
  obtain ⟨d2, st2, e2, e3⟩ := R.bind_eq e2
  refine ⟨f, Z, ρ, st, E, d, st1, e1, fun f1 H1 v x1 ⟨S1, r1⟩ => ⟨f1, Z, ρ, st1, E.ext x1 S1, d2, st2, e2, fun f2 H2 w x2 ⟨S2, r2⟩ => ?_⟩⟩
  have r1 := r1.frm x2.frm
  have x12 := x1.trans x2
  have stab : Stab .C (fun f Z H => Rp X.K f Z H d v ∧ Rp X.K f Z H d2 w) := fun f Z H f' Z' H' _ F o => ⟨o.1.frm F, o.2.frm F⟩
  cases d with
  | lst m => cases d2 with
    | lst n =>
      cases e3
      obtain ⟨a, vs, rfl, h1, _, hz, g1⟩ := (Tp.rp r1).lst_at
      obtain ⟨b, ws, rfl, h2, _, hz2, g2⟩ := (Tp.rp r2).lst_at
      have hlen : (pairs m n).length = min m.length n.length := by simp [pairs]
      refine ⟨a, b, vs, ws, rfl, .inl ⟨SqL.of h1, SqL.of h2, q f2 H2 _ _ x12 S2 (by rw [hlen, g1.length]; exact Nat.le_trans (Nat.min_le_left _ _) hz) stab ⟨r1, r2⟩ ?_⟩⟩
      intro f Z H st ho S
      obtain ⟨a', vs', ea, h1', _, _, g1'⟩ := (Tp.rp ho.1).lst_at
      obtain ⟨b', ws', eb, h2', _, _, g2'⟩ := (Tp.rp ho.2).lst_at
      cases ea
      cases eb
      rw [hlen]
      refine ⟨fun i hi => ?_, ⟨vs', ws', SqL.of h1', SqL.of h2', by rw [← g1'.length, ← g2'.length]; omega⟩⟩
      have hi1 : i < m.length := by omega
      have hi2 : i < n.length := by omega
      obtain ⟨v, hv, rv⟩ := g1'.get (List.getElem?_eq_getElem hi1)
      obtain ⟨w, hw, rw'⟩ := g2'.get (List.getElem?_eq_getElem hi2)
      refine ⟨⟨vs', ws', v, w, SqL.of h1', SqL.of h2', hv, hw⟩, fun x H' hy => ?_⟩
      obtain ⟨T, y, z, rfl, hT, rfl, hy, hz⟩ := hy
      have e := hy vs' (SqL.of h1')
      rw [hv] at e
      cases e
      have e := hz ws' (SqL.of h2')
      rw [hw] at e
      cases e
      obtain ⟨k1, r⟩ := pair_new S hT rv rw'
      exact ⟨k1, _, pairs_get (List.getElem?_eq_getElem hi1) (List.getElem?_eq_getElem hi2), r⟩
    | _ => cases e3
  | tup m => cases d2 with
    | tup n =>
      cases e3
      obtain ⟨a, vs, rfl, h1, hz, g1, _⟩ := (Tp.rp r1).tup_at
      obtain ⟨b, ws, rfl, h2, hz2, g2, _⟩ := (Tp.rp r2).tup_at
      have hlen : (pairs m n).length = min m.length n.length := by simp [pairs]
      refine ⟨a, b, vs, ws, rfl, .inr ⟨h1, h2, q f2 H2 _ _ x12 S2 (by rw [hlen, g1.length]; exact Nat.le_trans (Nat.min_le_left _ _) hz) stab ⟨r1, r2⟩ ?_⟩⟩
      intro f Z H st ho S
      obtain ⟨a', vs', ea, h1', _, g1', _⟩ := (Tp.rp ho.1).tup_at
      obtain ⟨b', ws', eb, h2', _, g2', _⟩ := (Tp.rp ho.2).tup_at
      cases ea
      cases eb
      rw [hlen]
      refine ⟨fun i hi => ?_, ⟨vs', ws', h1', h2', by rw [← g1'.length, ← g2'.length]; omega⟩⟩
      have hi1 : i < m.length := by omega
      have hi2 : i < n.length := by omega
      obtain ⟨v, hv, rv⟩ := g1'.get (List.getElem?_eq_getElem hi1)
      obtain ⟨w, hw, rw'⟩ := g2'.get (List.getElem?_eq_getElem hi2)
      refine ⟨⟨vs', ws', v, w, h1', h2', hv, hw⟩, fun x H' hy => ?_⟩
      obtain ⟨T, y, z, rfl, hT, rfl, hy, hz⟩ := hy
      have e := hy vs' h1'
      rw [hv] at e
      cases e
      have e := hz ws' h2'
      rw [hw] at e
      cases e
      obtain ⟨k1, r⟩ := pair_new S hT rv rw'
      exact ⟨k1, _, pairs_get (List.getElem?_eq_getElem hi1) (List.getElem?_eq_getElem hi2), r⟩
    | _ => cases e3
  | _ => cases e3
end
end SH

namespace SH
open PySem L2
section
variable {K : Frag} {ow : List Nat} {kf : Kd} {f f' f1 f2 f0 : List Addr} {Z Z' Z0 : Addr → Prop} {H H' H1 H2 H0 : Hp} {st st' st1 : Store} {X : Cx} {k : Kd} {σ : St} {ρ : Env}
theorem tChain_of {f g : Store → D → D → Option D} {r r' : R2} (hf : Op2Ok K .C f r) (hg : Op2Ok K .C g r') {ma mb mc : EM} {Q : VK} (q : tEv K ow .C (mChain f g ma mb mc) σ H Q) :
    tChain r r' (tEv K ow .T ma) (tEv K ow .T mb) (tEv K ow .T mc) σ H Q := by
  obtain ⟨fs, Z, ρ, st, E, d, st', e, q⟩ := q
  obtain ⟨dx, st1, e1, e⟩ := R.bind_eq (show (ma ρ st).bind _ = _ from e)
  obtain ⟨dy, st2, e2, e⟩ := R.bind_eq e
  obtain ⟨dt, st3, e3, e⟩ := R.bind_eq e
  obtain ⟨e3, rfl⟩ := liftO_ok e3
  refine ⟨fs, Z, ρ, st, E, dx, st1, e1, fun f1 H1 x x1 ⟨S1, t1⟩ => ⟨f1, Z, ρ, st1, E.ext x1 S1, dy, _, e2, fun f2 H2 y x2 ⟨S2, t2⟩ => ?_⟩⟩
  refine hf f2 Z H2 _ x y dx dy dt _ S2 (t1.ext x2) t2 e3 fun H3 v x3 ⟨S3, r3⟩ => ?_
  cases dt with
  | bl c =>
    cases r3
    refine ⟨c, rfl, ?_⟩
    have x13 := x1.trans (x2.trans x3)
    cases c with
    | false =>
      rw [onB_false] at e
      cases e
      rw [if_neg Bool.false_ne_true]
      exact q f2 H3 _ x13 ⟨S3, .bl _⟩
    | true =>
      rw [onB_true] at e
      obtain ⟨dz, st4, e4, e⟩ := R.bind_eq e
      obtain ⟨e5, rfl⟩ := liftO_ok e
      rw [if_pos rfl]
      refine ⟨f2, Z, ρ, _, E.ext x13 S3, dz, _, e4, fun f4 H4 z x4 ⟨S4, t4⟩ => ?_⟩
      exact hg f4 Z H4 _ y z dy dz d Q S4 (t2.ext (x3.trans x4)) t4 e5 fun H5 v x5 p => q f4 H5 v (x13.trans (x4.trans x5)) p
  | _ => cases e
def tChain3 (r r' r'' : R2) (ta tb tc td : TE) : TE := fun σ H Q => ta σ H fun x H1 => tb σ H1 fun y H2 => r x y H2 fun z H3 => ∃ k, z = .bl k ∧
  (if k = true then tc σ H3 fun w H4 => r' y w H4 fun z' H5 => ∃ k', z' = .bl k' ∧ (if k' = true then td σ H5 fun u H6 => r'' w u H6 Q else Q (.bl false) H5) else Q (.bl false) H3)
theorem pe_chain3 {a b c d : Expr} {pos : Pos} {op op' op'' : CmpOp} {r r' r'' : R2} {ta tb tc td : TE} (ho : OpR X (compareOp op) r) (ho' : OpR X (compareOp op') r') (ho'' : OpR X (compareOp op'') r'') (ha : PE X a ta) (hb : PE X b tb) (hc : PE X c tc) (hd : PE X d td)
    (hm : lastMarks [op, op', op''] [b, c, d] = false) : PE X (.Compare a [op, op', op''] [b, c, d] pos) (tChain3 r r' r'' ta tb tc td) := by
  refine ⟨fun pins s σ H Q I h => ?_⟩
  refine PyProof.Rows.Compare_chain (thn (ha.run pins s σ H _ I h) fun v s1 ⟨x, H1, I1, r1, q1⟩ => PyProof.Rows.chain_link (thn (hb.run pins s1 σ H1 _ I1 q1) fun u s2 ⟨y, H2, I2, r2, q2⟩ =>
    thn (ho pins s2 σ H2 x y v u _ I2 r1 r2 q2) fun t s3 ⟨z, H3, I3, r3, k, e, q3⟩ => ?_)) hm
  subst e
  cases r3
  refine wpAny_truthy_bool ?_
  cases k with
  | false => exact PyProof.Rows.ite_ff ⟨.bl false, H3, I3, rfl, q3⟩
  | true =>
    refine PyProof.Rows.ite_tt (PyProof.Rows.chain_link (thn (hc.run pins s3 σ H3 _ I3 q3) fun w s4 ⟨y', H4, I4, r4, q4⟩ => thn (ho' pins s4 σ H4 y y' u w _ I4 r2 r4 q4) fun t' s5 ⟨z', H5, I5, r5, k', e', q5⟩ => ?_))
    subst e'
    cases r5
    refine wpAny_truthy_bool ?_
    cases k' with
    | false => exact PyProof.Rows.ite_ff ⟨.bl false, H5, I5, rfl, q5⟩
    | true => exact PyProof.Rows.ite_tt (PyProof.Rows.chain_last (thn (hd.run pins s5 σ H5 _ I5 q5) fun w' s6 ⟨y2, H6, I6, r6, q6⟩ => ho'' pins s6 σ H6 y' y2 w w' Q I6 r4 r6 q6))
theorem pt_chain3 {a b c d : Expr} {pos : Pos} {op op' op'' : CmpOp} {r r' r'' : R2} {ta tb tc td : TE} (ho : OpR X (compareOp op) r) (ho' : OpR X (compareOp op') r') (ho'' : OpR X (compareOp op'') r'') (ha : PE X a ta) (hb : PE X b tb) (hc : PE X c tc) (hd : PE X d td)
    (hm : lastMarks [op, op', op''] [b, c, d] = false) : PT X (.Compare a [op, op', op''] [b, c, d] pos) (tTest (tChain3 r r' r'' ta tb tc td)) := by
  refine ⟨fun pins s σ H Q I h => ?_⟩
  refine PyProof.Rows.isTrue_chain (thn (ha.run pins s σ H _ I h) fun v s1 ⟨x, H1, I1, r1, q1⟩ => PyProof.Rows.test_link (thn (hb.run pins s1 σ H1 _ I1 q1) fun u s2 ⟨y, H2, I2, r2, q2⟩ =>
    thn (ho pins s2 σ H2 x y v u _ I2 r1 r2 q2) fun t s3 ⟨z, H3, I3, r3, k, e, q3⟩ => ?_)) hm
  subst e
  cases r3
  refine wpAny_truthy_bool ?_
  cases k with
  | false =>
    obtain ⟨k', e', q'⟩ := q3
    cases e'
    exact PyProof.Rows.ite_ff ⟨H3, I3, q'⟩
  | true =>
    refine PyProof.Rows.ite_tt (PyProof.Rows.test_link (thn (hc.run pins s3 σ H3 _ I3 q3) fun w s4 ⟨y', H4, I4, r4, q4⟩ => thn (ho' pins s4 σ H4 y y' u w _ I4 r2 r4 q4) fun t' s5 ⟨z', H5, I5, r5, k', e', q5⟩ => ?_))
    subst e'
    cases r5
    refine wpAny_truthy_bool ?_
    cases k' with
    | false =>
      obtain ⟨k'', e'', q''⟩ := q5
      cases e''
      exact PyProof.Rows.ite_ff ⟨H5, I5, q''⟩
    | true =>
      refine PyProof.Rows.ite_tt (PyProof.Rows.test_last (thn (hd.run pins s5 σ H5 _ I5 q5) fun w' s6 ⟨y2, H6, I6, r6, q6⟩ => thn (ho'' pins s6 σ H6 y' y2 w w' _ I6 r4 r6 q6) fun t2 s7 ⟨z2, H7, I7, r7, k2, e2, q7⟩ => ?_))
      subst e2
      cases r7
      exact wpAny_truthy_bool ⟨H7, I7, q7⟩
theorem tChain3_of {f g h : Store → D → D → Option D} {r r' r'' : R2} (hf : Op2Ok K .C f r) (hg : Op2Ok K .C g r') (hh : Op2Ok K .C h r'') {ma mb mc md : EM} {Q : VK} (q : tEv K ow .C (mChain3 f g h ma mb mc md) σ H Q) :
    tChain3 r r' r'' (tEv K ow .T ma) (tEv K ow .T mb) (tEv K ow .T mc) (tEv K ow .T md) σ H Q := by
  obtain ⟨fs, Z, ρ, st, E, d, st', e, q⟩ := q
  obtain ⟨dx, st1, e1, e⟩ := R.bind_eq (show (ma ρ st).bind _ = _ from e)
  obtain ⟨dy, st2, e2, e⟩ := R.bind_eq e
  obtain ⟨dt, st3, e3, e⟩ := R.bind_eq e
  obtain ⟨e3, rfl⟩ := liftO_ok e3
  refine ⟨fs, Z, ρ, st, E, dx, st1, e1, fun f1 H1 x x1 ⟨S1, t1⟩ => ⟨f1, Z, ρ, st1, E.ext x1 S1, dy, _, e2, fun f2 H2 y x2 ⟨S2, t2⟩ => ?_⟩⟩
  refine hf f2 Z H2 _ x y dx dy dt _ S2 (t1.ext x2) t2 e3 fun H3 v x3 ⟨S3, r3⟩ => ?_
  cases dt with
  | bl c =>
    cases r3
    refine ⟨c, rfl, ?_⟩
    have x13 := x1.trans (x2.trans x3)
    cases c with
    | false =>
      rw [onB_false] at e
      cases e
      rw [if_neg Bool.false_ne_true]
      exact q f2 H3 _ x13 ⟨S3, .bl _⟩
    | true =>
      rw [onB_true] at e
      obtain ⟨dz, st4, e4, e⟩ := R.bind_eq e
      obtain ⟨du, st5, e5, e⟩ := R.bind_eq e
      obtain ⟨e5, rfl⟩ := liftO_ok e5
      rw [if_pos rfl]
      refine ⟨f2, Z, ρ, _, E.ext x13 S3, dz, _, e4, fun f4 H4 z x4 ⟨S4, t4⟩ => ?_⟩
      refine hg f4 Z H4 _ y z dy dz du _ S4 (t2.ext (x3.trans x4)) t4 e5 fun H5 v x5 ⟨S5, r5⟩ => ?_
      have x15 := x13.trans (x4.trans x5)
      cases du with
      | bl c' =>
        cases r5
        refine ⟨c', rfl, ?_⟩
        cases c' with
        | false =>
          rw [onB_false] at e
          cases e
          rw [if_neg Bool.false_ne_true]
          exact q f4 H5 _ x15 ⟨S5, .bl _⟩
        | true =>
          rw [onB_true] at e
          obtain ⟨dw, st6, e6, e⟩ := R.bind_eq e
          obtain ⟨e7, rfl⟩ := liftO_ok e
          rw [if_pos rfl]
          refine ⟨f4, Z, ρ, _, E.ext x15 S5, dw, _, e6, fun f6 H6 w x6 ⟨S6, t6⟩ => ?_⟩
          exact hh f6 Z H6 _ z w dz dw d Q S6 (t4.ext (x5.trans x6)) t6 e7 fun H7 v x7 p => q f6 H7 v (x15.trans (x6.trans x7)) p
      | _ => cases e
  | _ => cases e

theorem putK_dic {ks : List Key} {ds : List D} {vs : List V} {kk : Key} {d : D} {v : V} (r : Rps K f Z H ds vs) (hl : ks.length = ds.length) (rv : Rp K f Z H d v) (hk : KeysOk ks) (hkk : ∀ s, kk = .inr s → StrOk s) :
    ∃ ks' ds' vs', dicPut ks ds kk d = .dic ks' ds' ∧ putK (ks.zip vs) kk v = ks'.zip vs' ∧ Rps K f Z H ds' vs' ∧ ks'.length = ds'.length ∧ KeysOk ks' := by
  have hlv : ks.length = vs.length := hl.trans r.length
  have hany : ((ks.zip vs).any fun kv => decide (kv.1 = kk)) = hasK kk ks := by
    unfold hasK
    have z : ∀ (ks : List Key) (vs : List V), ks.length = vs.length → ((ks.zip vs).any fun kv => decide (kv.1 = kk)) = ks.any fun x => decide (x = kk) := by
      intro ks
      induction ks with
      | nil => intro vs _; rfl
      | cons a ks ih =>
        intro vs h
        cases vs with
        | nil => simp at h
        | cons v vs => rw [List.zip_cons_cons, List.any_cons, List.any_cons, ih vs (by simpa using h)]
    exact z ks vs hlv
  unfold dicPut
  by_cases hh : hasK kk ks = true
  · rw [if_pos hh]
    refine ⟨ks, _, (ks.zip vs).map fun p => if p.1 = kk then v else p.2, rfl, ?_, ?_, by simp [hl], hk⟩
    · unfold putK
      rw [hany, hh, if_pos rfl]
      have z : ∀ (ks : List Key) (vs : List V), ((ks.zip vs).map fun kv => if kv.1 = kk then (kv.1, v) else kv) = ks.zip ((ks.zip vs).map fun p => if p.1 = kk then v else p.2) := by
        intro ks
        induction ks with
        | nil => intro vs; rfl
        | cons a ks ih =>
          intro vs
          cases vs with
          | nil => rfl
          | cons w vs =>
            rw [List.zip_cons_cons, List.map_cons, List.map_cons, List.zip_cons_cons, ih vs]
            by_cases e : a = kk
            · simp [e]
            · simp [e]
      exact z ks vs
    · have z : ∀ (ks : List Key) (ds : List D) (vs : List V), Rps K f Z H ds vs → Rps K f Z H ((ks.zip ds).map fun p => if p.1 = kk then d else p.2) ((ks.zip vs).map fun p => if p.1 = kk then v else p.2) := by
        intro ks
        induction ks with
        | nil => intro ds vs _; exact .nil
        | cons a ks ih =>
          intro ds vs r
          cases r with
          | nil => exact .nil
          | cons h r =>
            rw [List.zip_cons_cons, List.zip_cons_cons, List.map_cons, List.map_cons]
            refine .cons ?_ (ih _ _ r)
            by_cases e : a = kk
            · simp only [e, if_true]; exact rv
            · simp only [e, if_false]; exact h
      exact z ks ds vs r
  · rw [if_neg hh]
    refine ⟨ks ++ [kk], ds ++ [d], vs ++ [v], rfl, ?_, r.snoc rv, by simp [hl], fun s hs => ?_⟩
    · unfold putK
      rw [hany]
      rw [if_neg hh, List.zip_append hlv]
      rfl
    · rcases List.mem_append.mp hs with h | h
      · exact hk s h
      · exact hkk s (List.mem_singleton.mp h).symm
theorem tSt_setO {i : Nat} {me mv : EM} {D : Ends} (hi : i ∈ ow) (q : tSt K ow kf (mSetO i me mv) D σ H) :
    tAsg (tEv K ow .C mv) (gSub (tVar i) (tEv K ow .C me) rSetL) D σ H ∨ sDPut (tVar i) (tEv K ow .C me) (tEv K ow .C mv) D σ H := by
  obtain ⟨f0, H0, Z0, f, ρ, st, s, fl, ρ', st', e, q⟩ := q
  obtain ⟨d, st1, e1, e⟩ := R.bind_eq (show (mv ρ st).bind _ = _ from e)
  split at e
  · rename_i l hl
    left
    obtain ⟨dk, st2, e2, e⟩ := R.bind_eq e
    split at e
    · rename_i z
      cases hj : L2.ixN l.length z with
      | none => rw [hj] at e; cases e
      | some j =>
        rw [hj] at e
        cases e
        obtain ⟨v, hv, t, _⟩ := s.er.sl i _ hl
        refine ⟨f, _, ρ, st, s.er, d, st1, e1, fun f1 H1 w x1 ⟨S1, r1⟩ => ?_⟩
        have s1 := s.step x1 S1
        refine ⟨v, hv, f1, _, ρ, st1, s1.er, .int z, _, e2, fun f2 H2 y x2 ⟨S2, r2⟩ => ?_⟩
        cases r2
        have s2 := s1.step x2 S2
        obtain ⟨a, vs, rfl, ha, nf, lz, r⟩ := (t.ext (x1.trans x2)).lst_at
        refine ⟨a, vs, z, j, rfl, rfl, ha, by rw [← r.length]; exact hj, ?_⟩
        have F := Frm.updZ (f := f2) (H := H2) (p := a) (.lst (vs.set j w)) (show ZO ow Z0 σ ρ a from .inr ⟨i, hi, ⟨_, hl⟩, hv⟩)
        obtain ⟨s3, F3⟩ := s2.updO (o := .lst (vs.set j w)) (d := .lst (l.set j d)) hi hl hv rfl
          (.lst ⟨upd_same, nf, fun z => z, by rw [List.length_set]; exact lz⟩ ((r.frm F).set j ((r1.frm x2.frm).frm F)))
        exact q f2 _ σ s3 ((x1.trans x2).frm.trans F3)
    · cases e
  · rename_i ks ds hl
    right
    obtain ⟨dk, st2, e2, e⟩ := R.bind_eq e
    split at e
    · rename_i z
      by_cases hz : ks.length < sizeLine
      · rw [if_pos hz] at e
        cases e
        obtain ⟨v, hv, t, _⟩ := s.er.sl i _ hl
        refine ⟨f, _, ρ, st, s.er, d, st1, e1, fun f1 H1 w x1 ⟨S1, r1⟩ => ?_⟩
        have s1 := s.step x1 S1
        refine ⟨v, hv, f1, _, ρ, st1, s1.er, .str z, _, e2, fun f2 H2 y x2 ⟨S2, r2⟩ => ?_⟩
        have s2 := s1.step x2 S2
        obtain ⟨a, vs, rfl, ha, nf, lz, r, hlk, ko⟩ := (t.ext (x1.trans x2)).dic_at
        cases r2 with
        | str _ hzs =>
          have F := fun o => Frm.updZ (f := f2) (H := H2) (p := a) o (show ZO ow Z0 σ ρ a from .inr ⟨i, hi, ⟨_, hl⟩, hv⟩)
          obtain ⟨ks', ds', vs', p1, p2, p3, p4, p5⟩ := putK_dic (kk := .inr z) r hlk (r1.frm x2.frm) ko fun s e => by cases e; exact hzs
          rw [p1] at q
          have hlen : (ks.zip vs).length < sizeLine := by rw [List.length_zip]; omega
          refine ⟨a, _, rfl, DPut.k (k := Sum.inr z) ha hlen, ?_⟩
          rw [p2]
          have hlen2 : (ks'.zip vs').length ≤ sizeLine := by
            rw [← p2]
            have := length_putK (ks.zip vs) (Sum.inr z : Key) w
            omega
          obtain ⟨s3, F3⟩ := s2.updO (o := .dK (ks'.zip vs')) (d := .dic ks' ds') hi hl hv rfl (.dic ⟨upd_same, nf, fun z => z, hlen2⟩ (p3.frm (F _)) p4 p5)
          exact q f2 _ σ s3 ((x1.trans x2).frm.trans F3)
      · rw [if_neg hz] at e; cases e
    · cases e
  · cases e
/-- an object of the store is written -/
theorem StR.put {n : Nat} {a : Addr} {o : O} {ob : HO} (S : StR K f Z H st) (hn : f[n]? = some a) (ho : Frm f Z H f Z (L2.upd H a ob) → ORel K f Z (L2.upd H a ob) o a) :
    StR K f Z (L2.upd H a ob) (st.set n o) ∧ Ext f H f (L2.upd H a ob) := by
  have hm : a ∈ f := List.mem_of_getElem? hn
  have F : Frm f Z H f Z (L2.upd H a ob) := ⟨fun b u e n' z => ⟨by rw [upd_ne (fun q => n' (by rw [q]; exact hm))]; exact e, n', z⟩, [], by simp⟩
  have live : ∀ b, H b ≠ none → L2.upd H a ob b ≠ none := fun b hb => by
    by_cases h : b = a
    · rw [h, upd_same]; exact fun z => nomatch z
    · rw [upd_ne h]; exact hb
  refine ⟨⟨S.nd, by rw [List.length_set]; exact S.len, fun m u b e1 e2 => ?_, fun b z => ⟨(S.zt b z).1, by rw [upd_ne fun (q : b = a) => (S.zt b z).1 (q ▸ hm)]; exact (S.zt b z).2⟩⟩, ⟨fun b u e n' => by rw [upd_ne (fun q => n' (by rw [q]; exact hm))]; exact e, ⟨[], by simp⟩, fun b hb => live b (S.live b hb)⟩⟩
  by_cases hmn : n = m
  · subst hmn
    rw [hn] at e2
    cases e2
    have hl : n < st.length := by rw [← S.len]; exact (List.getElem?_eq_some_iff.mp hn).1
    rw [List.getElem?_set_self hl] at e1
    cases e1
    exact ho F
  · rw [List.getElem?_set_ne hmn] at e1
    refine (S.at_ m u b e1 e2).frm F (upd_ne fun z => hmn ?_)
    subst z
    obtain ⟨h1, g1⟩ := List.getElem?_eq_some_iff.mp hn
    obtain ⟨h2, g2⟩ := List.getElem?_eq_some_iff.mp e2
    exact (List.getElem_inj S.nd).mp (g1.trans g2.symm)
theorem tSt_setS {i : Nat} {me mv : EM} {D : Ends} (q : tSt K ow kf (mSetS i me mv) D σ H) : tAsg (tEv K ow .C mv) (gSub (tVar i) (tEv K ow .C me) rSetL) D σ H := by
  obtain ⟨f0, H0, Z0, f, ρ, st, s, fl, ρ', st', e, q⟩ := q
  obtain ⟨d, st1, e1, e⟩ := R.bind_eq (show (mv ρ st).bind _ = _ from e)
  split at e
  · rename_i n hl
    obtain ⟨dk, st2, e2, e⟩ := R.bind_eq e
    split at e
    · rename_i z l hst
      cases hj : L2.ixN l.length z with
      | none => rw [hj] at e; cases e
      | some j =>
        rw [hj] at e
        cases e
        obtain ⟨v, hv, t, _⟩ := s.er.sl i _ hl
        refine ⟨f, _, ρ, st, s.er, d, st1, e1, fun f1 H1 w x1 ⟨S1, r1⟩ => ?_⟩
        have s1 := s.step x1 S1
        refine ⟨v, hv, f1, _, ρ, st1, s1.er, .int z, _, e2, fun f2 H2 y x2 ⟨S2, r2⟩ => ?_⟩
        cases r2
        have s2 := s1.step x2 S2
        cases t.ext (x1.trans x2) with
        | rp r =>
          cases r with
          | @ref a _ hn =>
            obtain ⟨vs, g1, g2, g3⟩ := S2.at_ n _ a hst hn
            refine ⟨a, vs, z, j, rfl, rfl, g1, by rw [← g3.length]; exact hj, ?_⟩
            obtain ⟨S3, x3⟩ := S2.put (o := .lst (l.set j d)) (ob := .lst (vs.set j w)) hn fun F => ⟨_, upd_same, by rw [List.length_set]; exact g2, (g3.frm F).set j ((r1.frm x2.frm).frm F)⟩
            exact q f2 _ σ (s2.step x3 S3) ((x1.trans x2).trans x3).frm
    · cases e
  · cases e
end
end SH

namespace SH
open PySem PySem.Spec PyProof.Rows L2
/-- like FnOk, with no guard around -/
structure FnG (P : Program) (w : World) (K : Frag) (mg : Str → Option Value) (base : Heap) (CX : CXT) (k : Nat) (f : Addr) (fd : FuncData) (ps : List Str) (sp : Sp) : Prop where
  many : ∀ xs H Q E, sp xs H Q E → xs.length = ps.length
  goes : ∀ (A : Around) (up : List PySem.Env) (z : Shared) (H : Hp) (ar : Args) (ws : List Value) (xs : List V) (Q : VK) (E : XK), A.guards = some [] → Room k A → Env0 P w K mg base A up z H → BindsTo z fd ar (ps.zip ws) → Vals xs ws → sp xs H Q E →
    codeAny (model P w) A (.call (.ref f) ar) (CR CX up P w H z Q E) z
theorem deeper_gd {A : Around} (h : A.guards = some []) (e : PySem.Env) : (A.deeper e).guards = some [] := h
section
variable {P : Program} {w : World} {K : Frag} {mg : Str → Option Value} {base : Heap} {CX : CXT} {k : Nat} {f : Addr} {fd : FuncData} {ps : List Str} {sp : Sp}
/-- a def of the text -/
theorem fnG_of {N : List Str} {x qual : Str} {params : Arguments} {body : List Stmt} {scope : Scope} {dV kV doc pm cdv ct oc : Value} {an od : Option Addr} {osl : Array (Option Value)}
    (look : K.lookup f = some ⟨oc, od, .func (PySem.W.fnOf x qual params body scope dV kV doc pm an cdv ct), osl⟩) (hc : PySem.W.codeIn K cdv qual = true) (S : FnScope N ps scope) (many : ∀ xs H Q E, sp xs H Q E → xs.length = ps.length)
    (inner : ∀ (A : Around) (up : List PySem.Env) (z : Shared) (H : Hp) (xs : List V) (Q : VK) (E : XK), A.guards = some [] → Room k (A.deeper (envOfC qual scope z.heap.objs.size f cdv)) → sp xs H Q E →
      ∃ t, PSs (cxOf CX P w K mg base N qual scope f cdv A up z H E) body t ∧ t { nx := fun _ H' => Q .non H', rt := Q } (L2.start N xs) H) :
    FnG P w K mg base CX (k + 1) f (PySem.W.fnOf x qual params body scope dV kV doc pm an cdv ct) ps sp := by
  constructor
  · exact many
  intro A up z H ar ws xs Q E hg room e0 hb rs wish
  have hn := many _ _ _ _ wish
  have stays : ∀ {b : Addr} {o : Obj}, base.get? b = some o → z.heap.get? b = some o := fun {b o} e => (e0.bs b o e).1
  have inK : K.In z.heap := e0.mod.kin.keeps fun _ _ => stays
  have par : ∀ y ∈ ps.zip ws, scope.names.lookup y.1 = some .local ∨ (scope.names.lookup y.1 = some .cell ∧ ((cellsFrom (z.heap.objs.size + 1) scope.names []).lookup y.1).isSome = true) := by
    rintro ⟨n, v⟩ hy
    exact (S.par n (List.of_mem_zip hy).1).imp id fun c => ⟨c, PySem.W.cellsFrom_some _ _ _ (.inl c)⟩
  apply codeAny_call_function room.depth (inK _ _ look) rfl S.co S.gen rfl (PySem.W.codeRec_of inK hc)
  apply hb
  refine wpAny_newFunctionEnv_cells S.kind par ?_
  rintro _ rfl z1 y
  refine ⟨(e0.mod.nolimit.keeps fun _ _ => stays).keeps y.toInCall.keep, codeAny_func ?_⟩
  obtain ⟨t, run, wt⟩ := inner A up z H xs Q E hg (room.deeper _) wish
  refine wpAny_mono (run.run [] z1 _ H _ (inv_start S room.hd e0 hn rs y) wt) ?_ fun _ _ q => q
  intro fl z2 q
  cases fl with
  | next =>
    obtain ⟨_, H', J, q⟩ := q
    exact ⟨V.non, H', J.os, J.bare, J.base, J.hok, rfl, q⟩
  | ret u =>
    obtain ⟨v, _, H', J, rv, q⟩ := q
    exact ⟨v, H', J.os, J.bare, J.base, J.hok, rv, q⟩
  | brk =>
    obtain ⟨_, _, _, q⟩ := q
    exact False.elim q
  | cont =>
    obtain ⟨_, _, _, q⟩ := q
    exact False.elim q
end
section
variable {X : Cx} {CX : CXT} {k : Nat} {f : Addr} {fd : FuncData} {ps : List Str} {sp : Sp} {E : XK} {x : Str} {p pos : Pos} {e : Expr} {es : List Expr} {t : TA}
theorem go_fnG {pins : List (Addr × Obj)} {σ : L2.St} {H : Hp} {z : Shared} {Q : VK} {ws : List Value} {xs : List V} (F : FnG X.prog X.w X.K X.mg X.base CX k f fd ps sp) (hg : X.A.guards = some []) (room : Room k X.A) (hb : Binds X.K fd ps []) (out : Passes CX X E)
    (I : Inv X pins σ H z) (rs : Vals xs ws) (wish : sp xs H Q E) : wpAny (model X.prog X.w) X.A (call (.ref f) ws) (EP X pins σ Q) X.xe z := by
  have hn := F.many _ _ _ _ wish
  have bd := hb z ws I.kIn (by rw [List.append_nil, ← rs.length]; exact hn)
  rw [List.append_nil] at bd
  apply wpAny_call
  refine codeAny_mono (F.goes X.A X.stack z H _ ws xs Q E hg room I.env0 bd rs wish) ?_
  intro r z' q
  match r, q with
  | .error e, q => exact out pins σ H z e z' I q
  | .ok (.ret u), q => exact I.after q
/-- f(e, ..) -/
theorem pe_callG (F : FnG X.prog X.w X.K X.mg X.base CX k f fd ps sp) (hgd : X.A.guards = some []) (room : Room k X.A) (gl : Gl X x) (at_ : X.mg x = some (.ref f)) (kp : PySem.W.keepIn X.K (.ref f) = true) (hb : Binds X.K fd ps []) (out : Passes CX X E) (ha : PA X (e :: es) t)
    (nd : (x == ("__debug__" : Str)) = false) (st : starEach (e :: es) X.env = (false, eval e X.env) :: starEach es X.env) (pl : (backTo pos (starEach es X.env)).any (·.1) = false) : PE X (.Call (.Name x p) (e :: es) [] pos) (tCall sp [] E t) := by
  constructor
  intro pins z σ H Q I q
  apply wpAny_Call_Name_kw
  apply ld_glob I gl at_ ?_ nd
  apply PySem.W.callWith_K (h₀ := X.base) I.ok.mod.kin kp ?_ st pl
  refine thn (ha.run pos pins z σ H _ I q) ?_
  rintro ws z1 ⟨xs, H1, J, rs, q1⟩
  rw [List.append_nil] at q1
  exact ⟨J.kIn, go_fnG F hgd room hb out J rs q1⟩
/-- f() -/
theorem pe_callG0 (F : FnG X.prog X.w X.K X.mg X.base CX k f fd ps sp) (hgd : X.A.guards = some []) (room : Room k X.A) (gl : Gl X x) (at_ : X.mg x = some (.ref f)) (kp : PySem.W.keepIn X.K (.ref f) = true) (hb : Binds X.K fd ps []) (out : Passes CX X E)
    (nd : (x == ("__debug__" : Str)) = false) : PE X (.Call (.Name x p) [] [] pos) (tCall sp [] E tNil) := by
  constructor
  intro pins z σ H Q I q
  apply wpAny_Call_Name_kw
  apply ld_glob I gl at_ ?_ nd
  exact PySem.W.callWith_K0 I.kIn kp (go_fnG (ws := []) F hgd room hb out I .nil q)
end
end SH

namespace SH
open PySem PySem.Spec PyProof.Rows L2
/-- what is told of at the start: the tables, and the script where the fragment does not hold it -/
def hp0 (K : Frag) (T : List Addr) (a : Addr) (o : Obj) (xs : List V) : Hp := fun b => if b ∈ T then some (.tbl #[]) else if b = a ∧ (K.lookup a).isNone = true then some (.frz o (.lst xs)) else none
theorem hp0_in {K : Frag} {T : List Addr} {a b : Addr} {o : Obj} {xs : List V} (h : b ∈ T) : hp0 K T a o xs b = some (.tbl #[]) := if_pos h
theorem hp0_out {K : Frag} {T : List Addr} {a b : Addr} {o : Obj} {xs : List V} (h : b ∉ T) (n : b ≠ a ∨ ∃ u, K.lookup a = some u) : hp0 K T a o xs b = none := by
  unfold hp0
  rw [if_neg h, if_neg]
  rintro ⟨rfl, z⟩
  rcases n with n | ⟨u, n⟩
  · exact n rfl
  · rw [n] at z; cases z
theorem hp0_at {K : Frag} {T : List Addr} {a : Addr} {o : Obj} {xs : List V} (h : a ∉ T) (n : K.lookup a = none) : hp0 K T a o xs a = some (.frz o (.lst xs)) := by
  unfold hp0
  rw [if_neg h, if_pos ⟨rfl, by rw [n]; rfl⟩]
/-- the law's promise at the head's heap -/
def LawAtG (l : PySem.W.OpenLaw) (w : World) (K : Frag) (CX : CXT) (k n : Nat) (x : Str) (mg : Str → Option Value) (fa : Addr) (h : Heap) : Prop :=
  ∃ (fd : FuncData) (cs : List (Addr × Addr)) (sp : Sp), (∀ c ∈ cs, h.get? c.2 = some { cls := .none, data := .fields #[] } ∧ K.lookup c.2 = none ∧ PySem.W.CodeHd h c.1 c.2) ∧ (∀ (z : Shared) (u : Value), BindsTo z fd ⟨[u], []⟩ [(x, u)]) ∧
    (∀ (H : Hp) (a : Addr) (ns : List Int), ns.length ≤ n → (∀ c ∈ cs, H c.2 = some (.tbl #[])) → SqL K H a (ns.map V.int) → sp [.ref a] H (fun v _ => v = .bl true) fun _ _ _ => False) ∧
    ∀ base : Heap, K.In base → base.Ns mainGlobals mg → (∀ c ∈ cs, LamX.TabB base mg c.1 c.2) → FnG l.prog w K mg base CX k fa fd [x] sp
section
variable {P : Program} {w : World} {K : Frag} {mg mb : Str → Option Value} {CX : CXT} {k : Nat} {fa a : Addr} {cs : List (Addr × Addr)} {fd : FuncData} {x : Str} {sp : Sp} {z : Shared} {vs : List Value} {ns : List Int}
theorem law_endG (inK : K.In z.heap) (top : z.heap.Ns mainGlobals mg) (bi : z.heap.Ns builtinsNs mb) (biB : ∀ y : Str, y ≠ "__name__" → mb y = bootBuiltins y) (lim : z.heap.NoLimit) (noG : z.gens = #[])
    (tb : ∀ c ∈ cs, z.heap.get? c.2 = some { cls := .none, data := .fields #[] } ∧ K.lookup c.2 = none ∧ PySem.W.CodeHd z.heap c.1 c.2)
    (bm : ∃ (m : Addr) (ob : Obj), mg "__builtins__" = some (.ref m) ∧ m ≠ builtinsNs ∧ z.heap.get? m = some ob ∧ ob.cls = .type "module" ∧ ob.dict = some builtinsNs ∧ ob.data = .plain)
    (scr : z.heap.get? a = some { cls := .type "list", data := .seq vs.toArray }) (itg : IntsAre vs ns) (len : ns.length ≤ sizeLine) (room : Room k callerA)
    (F : ∀ base : Heap, K.In base → base.Ns mainGlobals mg → (∀ c ∈ cs, LamX.TabB base mg c.1 c.2) → FnG P w K mg base CX k fa fd [x] sp) (bd : ∀ (z : Shared) (u : Value), BindsTo z fd ⟨[u], []⟩ [(x, u)])
    (wish : ∀ H : Hp, (∀ c ∈ cs, H c.2 = some (.tbl #[])) → SqL K H a (ns.map V.int) → sp [.ref a] H (fun v _ => v = .bl true) fun _ _ _ => False) (calm : ∀ H e z', CX [] H z (fun _ _ _ => False) e z' → False) :
    codeAny (model P w) callerA (.call (.ref fa) ⟨[.ref a], []⟩) (fun r z' => r = .ok (.ret (.bool true)) ∧ OldK z.heap z'.heap ∧ z'.os = z.os ∧ AllBare z'.gens) z := by
  obtain ⟨T, eT⟩ : ∃ T, T = cs.map (·.2) := ⟨_, rfl⟩
  obtain ⟨H, eH⟩ : ∃ H, H = hp0 K T a { cls := .type "list", data := .seq vs.toArray } (ns.map V.int) := ⟨_, rfl⟩
  have inT : ∀ b ∈ T, ∃ c ∈ cs, c.2 = b := fun b hb => by rw [eT] at hb; exact List.mem_map.mp hb
  have memT : ∀ c ∈ cs, c.2 ∈ T := fun c hc => by rw [eT]; exact List.mem_map_of_mem hc
  have atT : ∀ b ∈ T, z.heap.get? b = some { cls := .none, data := .fields #[] } := fun b hb => by
    obtain ⟨c, hc, rfl⟩ := inT b hb
    exact (tb c hc).1
  have aT : a ∉ T := fun q => by
    have e := atT a q
    rw [scr] at e
    have e2 : Data.seq vs.toArray _ = Data.fields #[] := congrArg Obj.data (Option.some.inj e)
    cases e2
  have rel := vals_ints itg
  have three : ∀ b, (b ∈ T ∧ H b = some (.tbl #[])) ∨ (b ∉ T ∧ b = a ∧ K.lookup a = none ∧ H b = some (.frz { cls := .type "list", data := .seq vs.toArray } (.lst (ns.map V.int)))) ∨ (b ∉ T ∧ H b = none) := fun b => by
    rw [eH]
    by_cases hb : b ∈ T
    · exact .inl ⟨hb, hp0_in hb⟩
    by_cases ha : b = a
    · subst ha
      cases q : K.lookup b with
      | none => exact .inr (.inl ⟨hb, rfl, rfl, hp0_at hb q⟩)
      | some u => exact .inr (.inr ⟨hb, hp0_out hb (.inr ⟨u, q⟩)⟩)
    · exact .inr (.inr ⟨hb, hp0_out hb (.inl ha)⟩)
  have tabs : ∀ c ∈ cs, H c.2 = some (.tbl #[]) := fun c hc => by rw [eH]; exact hp0_in (memT c hc)
  have script : SqL K H a (ns.map V.int) := by
    cases q : K.lookup a with
    | none =>
      refine .inl (.inr ⟨{ cls := .type "list", data := .seq vs.toArray }, ?_⟩)
      rw [eH]
      exact hp0_at aT q
    | some u =>
      have e := inK a u q
      rw [scr] at e
      cases e
      exact .inr ⟨_, vs.toArray, _, q, rfl, rfl, rfl, by rw [List.size_toArray, itg.length]; exact len, by simpa using rel⟩
  have told : HOk P w H z.heap := fun b u e => by
    rcases three b with ⟨h1, h2⟩ | ⟨_, rfl, _, h2⟩ | ⟨_, h2⟩ <;> rw [h2] at e <;> cases e
    · exact atT b h1
    · exact ⟨scr, by rw [List.length_map]; exact len, vs, _, rel, scr⟩
  have hidden : ∀ {b : Addr} {o : Obj}, z.heap.get? b = some o → (∀ us n, o.data ≠ .seq us n) → o.data ≠ .fields #[] → H b = none := fun {b o} e n1 n2 => by
    rcases three b with ⟨h1, _⟩ | ⟨_, rfl, _, _⟩ | ⟨_, h2⟩
    · rw [atT b h1] at e
      cases e
      exact (n2 rfl).elim
    · rw [scr] at e
      cases e
      exact (n1 _ _ rfl).elim
    · exact h2
  obtain ⟨base, eb⟩ : ∃ base, base = hidT z.heap H := ⟨_, rfl⟩
  have at_ : ∀ {b : Addr} {o : Obj}, z.heap.get? b = some o → (∀ us n, o.data ≠ .seq us n) → o.data ≠ .fields #[] → base.get? b = some o := fun {b o} e n1 n2 => by rw [eb]; exact hidT_get e (hidden e n1 n2)
  have space : ∀ {b : Addr} {m : Str → Option Value}, z.heap.Ns b m → base.Ns b m := by
    rintro b m ⟨o, es, ep, e, d, r⟩
    have n1 : ∀ us n, o.data ≠ .seq us n := fun us n q => by rw [d] at q; cases q
    have n2 : o.data ≠ .fields #[] := fun q => by rw [d] at q; cases q
    exact ⟨o, es, ep, at_ e n1 n2, d, r⟩
  have kb : K.In base := fun b u e => by
    rw [eb]
    refine hidT_get (inK b u e) ?_
    rcases three b with ⟨h1, _⟩ | ⟨_, rfl, h3, _⟩ | ⟨_, h2⟩
    · obtain ⟨c, hc, rfl⟩ := inT b h1
      rw [(tb c hc).2.1] at e
      cases e
    · rw [h3] at e
      cases e
    · exact h2
  have md : L2.Mod K mg base := ⟨kb, space top, ⟨mb, space bi, biB⟩, lim.elim fun m q => ⟨m, space q.1, q.2⟩⟩
  have T2 : ∀ c ∈ cs, LamX.TabB base mg c.1 c.2 := by
    intro c hc
    obtain ⟨e1, _, o, us, file, tf, flags, tg, inF, text, tt, g1, g2, g3, g4, g5⟩ := tb c hc
    constructor
    · refine ⟨o, us, file, tf, flags, tg, inF, text, tt, at_ g1 (fun us n q => ?_) fun q => ?_, g2, g3, g4, g5⟩ <;> rw [g3] at q <;> cases q
      simp at g4
    · obtain ⟨m, ob, b1, b2, b3, b4, b5, b6⟩ := bm
      refine ⟨m, ob, b1, b2, ?_, ?_, at_ b3 (fun us n q => ?_) fun q => ?_, b4, b5, b6⟩
      · rintro rfl
        obtain ⟨o, es, ep, e, d, _⟩ := top
        rw [b3] at e
        cases e
        rw [b6] at d
        cases d
      · rintro rfl
        rw [e1] at b3
        cases b3
        cases b6
      · rw [b6] at q; cases q
      · rw [b6] at q; cases q
    · intro q
      obtain ⟨o, es, ep, e, d, _⟩ := top
      rw [q, e1] at e
      cases e
      cases d
  have env : Env0 P w K mg base callerA [] z H := by
    rw [eb] at md ⊢
    exact ⟨rfl, md, fun b o e => of_hidT e, Nat.le_of_eq (hidT_size _ _), trivial, (by intro b hb; cases hb), told, .of_eq noG⟩
  refine codeAny_mono ((F base kb (space top) T2).goes callerA [] z H ⟨[.ref a], []⟩ [.ref a] [.ref a] _ _ rfl room env (bd z (.ref a)) (.cons rfl .nil) (wish H tabs script)) ?_
  intro r z' q
  match r, q with
  | .error e, q => exact (calm H e z' q).elim
  | .ok (.ret u), q =>
    obtain ⟨v, H', os, bare, un, told', r', hv⟩ := q
    obtain rfl : v = .bl true := hv
    obtain rfl : u = Value.bool true := r'
    have rest : ∀ b o, b ∉ T → z.heap.get? b = some o → z'.heap.get? b = some o := fun b o nb e => by
      rcases three b with ⟨h1, _⟩ | ⟨_, rfl, _, h2⟩ | ⟨_, h2⟩
      · exact (nb h1).elim
      · have e1 := (told b _ h2).1
        have e2 := (told' b _ (un.frzs b _ _ h2)).1
        rw [e] at e1
        cases e1
        exact e2
      · exact un.keep b o e h2 (by intro hb; cases hb) (by simp)
    have more : ∀ c ∈ cs, ∃ l : Array Value, z'.heap.get? c.2 = some { cls := .none, data := .fields l } := fun c hc => by
      obtain ⟨l, q⟩ := un.tbls c.2 #[] (tabs c hc)
      exact ⟨_, told' c.2 _ q⟩
    refine ⟨rfl, ⟨fun b o e => ?_, fun b o e => ?_⟩, os, bare⟩ <;> by_cases hb : b ∈ T
    · obtain ⟨c, hc, rfl⟩ := inT b hb
      obtain ⟨l, hl⟩ := more c hc
      rw [(tb c hc).1] at e
      cases e
      exact .inr (.inl ⟨((tb c hc).2.2.tab (tb c hc).1).isCodeTable, rfl, #[], l, rfl, by rw [Array.empty_append]; exact hl⟩)
    · exact .inl (rest b o hb e)
    · obtain ⟨c, hc, rfl⟩ := inT b hb
      obtain ⟨l, hl⟩ := more c hc
      exact ⟨_, hl⟩
    · exact ⟨o, rest b o hb e⟩
end
theorem walkG {l : PySem.W.OpenLaw} {n k : Nat} {q : Program} {loose : List Str} {XP : (Str → Option Value) → Heap → Prop} {YP : World → Heap → Prop} {d : DefRec} {CX : World → CXT} {x : Str} (hn : l.most = some n) (hn2 : n ≤ sizeLine) (hdf : d.params.defaults = []) (room : Room k callerA)
    (F : ∀ (w : World) (mg : Str → Option Value) (fa : Addr) (h : Heap), YP w h → h.Ns mainGlobals mg → mg d.name = some (.ref fa) → ∃ K : Frag, K.In h ∧ LawAtG l w K (CX w) k n x mg fa h) (calm : ∀ (w : World) (H : Hp) (z : Shared) (e : Value) (z' : Shared), CX w [] H z (fun _ _ _ => False) e z' → False) :
    PySem.W.WalkO q loose XP YP l.row.toRowW d [] (fun f vs => PySem.call f vs) := by
  refine Att.attach_callB hn hdf ?_
  intro w z₀ z mg mb fa o pm cd doc a vs ns G Y ho hd hcd hmg hobj itg len bits noG
  obtain ⟨K, inK, fd, cs, sp, tb, bd, wish, FG⟩ := F w mg fa _ Y G.T.g hmg
  exact law_endG inK G.T.g G.T.b G.T.builtins G.T.nolimit noG tb G.T.bmain hobj itg (Nat.le_trans len hn2) room FG bd (fun H hT hS => wish H a ns len hT hS) fun H e z' => calm w H z e z'
end SH

namespace SH
open PySem L2
def kdOf (T : List FnDef) (i : Nat) : Kd := match T[i]? with
  | some fn => if fn.fresh = true then .F else .C
  | none => .C
/-- what the i-th def promises with n calls -/
def spF (K : Frag) (T : List FnDef) (n i : Nat) : Sp := fun vs H Q _ => ∃ f Z ds st, StR K f Z H st ∧ Rps K f Z H ds vs ∧ ∃ d st', callT T n i ds st = .ok d st' ∧
  ∀ f' H' v, Ext f H f' H' → Post K (kdOf T i) H f' Z H' st' d v → Q v H'
section
variable {K : Frag} {ow : List Nat} {kf : Kd} {X : Cx} {σ : St} {ρ : Env} {T : List FnDef} {n i : Nat}
/-- a def of the table stands at f -/
structure FnAt (X : Cx) (T : List FnDef) (n i : Nat) (x : Str) : Prop where
  ex : ∃ (f : Addr) (fd : FuncData) (ps : List Str), FnG X.prog X.w X.K X.mg X.base CX0 n f fd ps (spF X.K T n i) ∧ X.mg x = some (.ref f) ∧ PySem.W.keepIn X.K (.ref f) = true ∧ Binds X.K fd ps []
theorem Post.mono {f f1 : List Addr} {Z : Addr → Prop} {H H1 : Hp} {kk : Kd} {f' : List Addr} {H' : Hp} {st' : Store} {d : D} {v : V} (x : Ext f H f1 H1) (h : Post K kk H1 f' Z H' st' d v) : Post K kk H f' Z H' st' d v := h.from x
theorem tCall_of {ms : List EM} {Q : VK} (q : tEv K ow (kdOf T i) (mCall (callT T n) i ms) σ H Q) : tCall (spF K T n i) [] E0 (tAv K ow (mArgs ms)) σ H Q := by
  obtain ⟨f, Z, ρ, st, E, d, st', e, q⟩ := q
  obtain ⟨ds, st1, e1, e⟩ := R.bind_eq (show (mArgs ms ρ st).bind _ = _ from e)
  refine ⟨f, Z, ρ, st, E, ds, st1, e1, fun f1 H1 vs x1 S1 r1 => ?_⟩
  show spF K T n i (vs ++ []) H1 Q E0
  rw [List.append_nil]
  exact ⟨f1, Z, ds, st1, S1, r1, d, st', e, fun f' H' v x2 p => q f' H' v (x1.trans x2) (p.from x1)⟩
theorem pe_mCall {x : Str} {p pos : Pos} {es : List Expr} {ms : List EM} (hK : X.K = K) (F : FnAt X T n i x) (hgd : X.A.guards = some []) (hr : Room n X.A) (hg : Gl X x) (ha : PA X es (tAv K ow (mArgs ms))) (hdb : (x == ("__debug__" : Str)) = false)
    (he : ∀ e r, es = e :: r → starEach (e :: r) X.env = (false, eval e X.env) :: starEach r X.env) (hpl : ∀ e r, es = e :: r → (backTo pos (starEach r X.env)).any (·.1) = false) (h0 : es = [] → ms = []) :
    PE X (.Call (.Name x p) es [] pos) (tEv K ow (kdOf T i) (mCall (callT T n) i ms)) := by
  subst hK
  obtain ⟨f, fd, ps, F1, hm, hk, hb⟩ := F.ex
  cases es with
  | nil =>
    refine pe_weak (pe_callG0 F1 hgd hr hg hm hk hb pass0 hdb) fun σ H Q q => ?_
    obtain ⟨f, Z, ρ, st, E, d, st', e, q⟩ := q
    rw [h0 rfl] at e
    show spF X.K T n i [] H Q E0
    exact ⟨f, Z, [], st, E.st, .nil, d, st', e, fun f' H' v x2 p => q f' H' v x2 p⟩
  | cons e r => exact pe_weak (pe_callG F1 hgd hr hg hm hk hb pass0 ha hdb (he e r rfl) (hpl e r rfl)) fun σ H Q q => tCall_of q
end
theorem start_get {N : List Str} {vs : List V} {j : Nat} {v : V} (h : vs[j]? = some v) : (L2.start N vs)[j]? = some (some v) := by
  unfold L2.start
  rw [List.getElem?_append_left (by simpa using (List.getElem?_eq_some_iff.mp h).1), List.getElem?_map, h]
  rfl
theorem startE_get {m : Nat} {ds : List D} {j : Nat} {d : D} (h : (startE m ds)[j]? = some (some d)) : ds[j]? = some d := by
  unfold startE at h
  by_cases hj : j < ds.length
  · rw [List.getElem?_append_left (by simpa using hj), List.getElem?_map] at h
    cases e : ds[j]? with
    | none => rw [e] at h; cases h
    | some x => rw [e] at h; cases h; rfl
  · rw [List.getElem?_append_right (by simpa using hj)] at h
    rw [List.getElem?_replicate] at h
    split at h <;> cases h
section
variable {K : Frag} {T : List FnDef} {n i : Nat} {P : Program} {w : World} {mg : Str → Option Value} {base : Heap} {x qual : Str} {params : Arguments} {body : List Stmt} {scope : Scope} {f : Addr} {fd : FuncData} {N ps : List Str} {ow : List Nat} {fn : FnDef}
theorem fnOk_of (F : FunD K x qual params body scope [] [] f fd) (S : FnScope N ps scope) (hT : T[i]? = some fn) (hps : fn.ps = ps.length) (hsl : fn.slots = N.length) (how : ∀ j ∈ ow, ps.length ≤ j)
    (hb : ∀ (X : Cx), X.prog = P → X.w = w → X.K = K → X.mg = mg → X.base = base → X.N = N → X.env.scope = scope → X.calm = true → X.A.guards = some [] → Room n X.A → X.xe = (fun _ _ => False) → X.fn = (fun _ => true) → X.env.qual = qual ++ ".<locals>." → X.env.code = fd.code →
      PSs X body (tSt K ow (kdOf T i) (fn.body (callT T n)))) : FnG P w K mg base CX0 (n + 1) f fd ps (spF K T (n + 1) i) := by
  have len : ∀ vs H Q E, spF K T (n + 1) i vs H Q E → vs.length = ps.length := fun vs H Q E h => by
    obtain ⟨f, Z, ds, st, S, r, d, st', e, _⟩ := h
    rw [callT_succ hT] at e
    unfold runFn at e
    split at e
    · rename_i hl
      rw [← r.length, hl, hps]
    · cases e
  obtain ⟨oc, od, dV, kV, doc, pm, an, cdv, ct, osl, efd, lk, hcd, _, _⟩ := F.ex
  subst efd
  refine fnG_of lk hcd S len fun A outer s H vs Q E hgd hr h => ?_
  refine ⟨_, PSs.nox (hb _ rfl rfl rfl rfl rfl rfl rfl rfl hgd hr rfl rfl rfl rfl), ?_⟩
  have hvl := len vs H Q E h
  obtain ⟨f0, Z, ds, st, S0, r, d, st', e, q⟩ := h
  rw [callT_succ hT] at e
  unfold runFn at e
  have hdl : ds.length = fn.ps := by
    split at e
    · assumption
    · cases e
  rw [if_pos hdl] at e
  obtain ⟨⟨fl, ρ'⟩, st1, e1, e⟩ := R.bind_eq (show R.bind _ _ = _ from e)
  have hnp : N.length = ps.length + (N.length - ps.length) := by
    have := congrArg List.length S.pre
    rw [List.length_take] at this
    omega
  have hlenE : (startE fn.slots ds).length = (L2.start N vs).length := by
    unfold startE L2.start
    rw [List.length_append, List.length_append, List.length_map, List.length_map, List.length_replicate, List.length_replicate, hsl, r.length]
  have nov : ∀ j ∈ ow, ∀ d, (startE fn.slots ds)[j]? ≠ some (some d) := fun j hj d hd => by
    have h1 := startE_get hd
    have h2 := (List.getElem?_eq_some_iff.mp h1).1
    have h3 := how j hj
    omega
  have zeq : ZO ow Z (L2.start N vs) (startE fn.slots ds) = Z := by
    funext a
    apply propext
    exact ⟨fun z => z.elim id fun ⟨j, hj, ⟨d, hd⟩, _⟩ => absurd hd (nov j hj d), .inl⟩
  have s0 : SR K ow f0 H Z f0 H (L2.start N vs) (startE fn.slots ds) st := by
    refine ⟨⟨by rw [zeq]; exact S0, hlenE, fun j d hd => ?_⟩, Ext.refl S0.live, fun j hj d a hd => absurd hd (nov j hj d), fun j hj d hd => absurd hd (nov j hj d), fun j hj k hk _ d d' a hd => absurd hd (nov j hj d), fun a z => (S0.zt a z).2.ne⟩
    rw [zeq]
    obtain ⟨v, hv, rv⟩ := r.get (startE_get hd)
    exact ⟨v, start_get hv, .rp rv, fun _ => rv⟩
  refine ⟨f0, H, Z, f0, _, st, s0, fl, ρ', st1, e1, ?_⟩
  cases fl with
  | next =>
    cases e
    intro f' H' σ' s' _
    refine q f' H' .non s'.ext ?_
    have hS := s'.er.st.less (Z' := Z) fun a z => .inl z
    exact (post_sc hS .non rfl).from s'.ext
  | ret d0 =>
    cases e
    intro f' H' v x p
    exact q f' H' v x p
end
end SH

namespace SH
open PySem L2 PyProof.Rows PySem.Spec
def leS (a b : Str) : Bool := !ltCps b.cps.toList a.cps.toList
theorem ltC_irrefl : ∀ a : List Nat, ltCps a a = false
  | [] => rfl
  | a :: r => by simp [ltCps, ltC_irrefl r]
theorem ltC_asymm : ∀ a b : List Nat, ltCps a b = true → ltCps b a = false
  | [], [], h => by simp [ltCps] at h
  | [], _ :: _, _ => rfl
  | _ :: _, [], h => by simp [ltCps] at h
  | a :: r, b :: t, h => by
    simp only [ltCps, Bool.or_eq_true, Bool.and_eq_true, decide_eq_true_eq, beq_iff_eq, Bool.or_eq_false_iff, decide_eq_false_iff_not, Bool.and_eq_false_iff] at h ⊢
    rcases h with h | ⟨rfl, h⟩
    · exact ⟨by omega, .inl (by simp; omega)⟩
    · exact ⟨by omega, .inr (ltC_asymm r t h)⟩
theorem ltC_tri : ∀ a b : List Nat, ltCps a b = false → ltCps b a = false → a = b
  | [], [], _, _ => rfl
  | [], _ :: _, h, _ => by simp [ltCps] at h
  | _ :: _, [], _, h => by simp [ltCps] at h
  | a :: r, b :: t, h, g => by
    simp only [ltCps, Bool.or_eq_false_iff, decide_eq_false_iff_not, Bool.and_eq_false_iff] at h g
    have e : a = b := by omega
    subst e
    have h2 : ltCps r t = false := by simpa using h.2
    have g2 : ltCps t r = false := by simpa using g.2
    rw [ltC_tri r t h2 g2]
theorem ltC_trans : ∀ a b c : List Nat, ltCps b a = false → ltCps c b = false → ltCps c a = false
  | [], _, [], _, _ => rfl
  | _ :: _, [], [], h, g => by simp [ltCps] at h
  | a :: r, b :: t, [], h, g => by simp [ltCps] at g
  | [], _, _ :: _, h, g => rfl
  | a :: r, [], c :: u, h, g => by simp [ltCps] at h
  | a :: r, b :: t, c :: u, h, g => by
    simp only [ltCps, Bool.or_eq_false_iff, decide_eq_false_iff_not, Bool.and_eq_false_iff] at h g ⊢
    refine ⟨by omega, ?_⟩
    by_cases e : c = a
    · subst e
      have e2 : b = c := by omega
      subst e2
      have h2 : ltCps t r = false := by simpa using h.2
      have g2 : ltCps u t = false := by simpa using g.2
      exact .inr (ltC_trans r t u h2 g2)
    · exact .inl (by simp; exact e)
theorem leS_trans {a b c : Str} (h : leS a b = true) (g : leS b c = true) : leS a c = true := by
  unfold leS at *
  rw [Bool.not_eq_true'] at *
  exact ltC_trans _ _ _ h g
theorem leS_anti {a b : Str} (h : leS a b = true) (g : leS b a = true) : a = b := by
  unfold leS at *
  rw [Bool.not_eq_true'] at *
  exact Str.ext' (Array.toList_inj.mp (ltC_tri _ _ g h))
theorem leS_total (a b : Str) : leS a b = true ∨ leS b a = true := by
  unfold leS
  cases h : ltCps b.cps.toList a.cps.toList with
  | false => exact .inl rfl
  | true => exact .inr (by rw [ltC_asymm _ _ h]; rfl)
def insS (x : Str) : List Str → List Str
  | [] => [x]
  | y :: r => if leS x y = true then x :: y :: r else y :: insS x r
def sortS : List Str → List Str
  | [] => []
  | x :: r => insS x (sortS r)
theorem insS_perm (x : Str) : ∀ l, (insS x l).Perm (x :: l)
  | [] => .refl _
  | y :: r => by
    unfold insS
    split
    · exact .refl _
    · exact ((insS_perm x r).cons y).trans (.swap x y r)
theorem sortS_perm : ∀ l, (sortS l).Perm l
  | [] => .refl _
  | x :: r => (insS_perm x (sortS r)).trans ((sortS_perm r).cons x)
theorem insS_sorted (x : Str) : ∀ l : List Str, l.Pairwise (fun a b => leS a b = true) → (insS x l).Pairwise fun a b => leS a b = true
  | [], _ => by simp [insS]
  | y :: r, h => by
    unfold insS
    obtain ⟨h1, h2⟩ := List.pairwise_cons.mp h
    split
    · rename_i hxy
      exact List.pairwise_cons.mpr ⟨fun z hz => by
        rcases List.mem_cons.mp hz with rfl | hz
        · exact hxy
        · exact leS_trans hxy (h1 z hz), h⟩
    · rename_i hxy
      refine List.pairwise_cons.mpr ⟨fun z hz => ?_, insS_sorted x r h2⟩
      rcases List.mem_cons.mp ((insS_perm x r).mem_iff.mp hz) with rfl | hz
      · exact (leS_total y z).elim id fun q => absurd q hxy
      · exact h1 z hz
theorem sortS_sorted : ∀ l, (sortS l).Pairwise fun a b => leS a b = true
  | [] => .nil
  | x :: r => insS_sorted x _ (sortS_sorted r)
theorem rising_pw : ∀ (l : List Str) (p : Str), risingS p l = true → (p :: l).Pairwise fun a b => leS a b = true
  | [], p, _ => by simp
  | x :: r, p, h => by
    simp only [risingS, Bool.and_eq_true] at h
    have ih := rising_pw r x h.2
    refine List.pairwise_cons.mpr ⟨fun z hz => ?_, ih⟩
    rcases List.mem_cons.mp hz with rfl | hz
    · exact h.1
    · exact leS_trans h.1 ((List.pairwise_cons.mp ih).1 z hz)
theorem sorted_pw {l : List Str} (h : sortedS l = true) : l.Pairwise fun a b => leS a b = true := by
  cases l with
  | nil => exact .nil
  | cons x r => exact rising_pw r x h
theorem sorted_uniq : ∀ {l m : List Str}, l.Perm m → l.Pairwise (fun a b => leS a b = true) → m.Pairwise (fun a b => leS a b = true) → l = m
  | [], m, p, _, _ => (List.perm_nil.mp p.symm).symm
  | x :: l, [], p, _, _ => absurd p.length_eq (by simp)
  | x :: l, y :: m, p, h, g => by
    obtain ⟨h1, h2⟩ := List.pairwise_cons.mp h
    obtain ⟨g1, g2⟩ := List.pairwise_cons.mp g
    have e : x = y := by
      have hx : x ∈ y :: m := p.mem_iff.mp List.mem_cons_self
      have hy : y ∈ x :: l := p.mem_iff.mpr List.mem_cons_self
      rcases List.mem_cons.mp hx with e | hx
      · exact e
      · rcases List.mem_cons.mp hy with e | hy
        · exact e.symm
        · exact leS_anti (h1 y hy) (g1 x hx)
    subst e
    rw [sorted_uniq ((List.perm_cons x).mp p) h2 g2]
theorem sorted_is {l m : List Str} (p : m.Perm l) (h : sortedS m = true) : m = sortS l := sorted_uniq (p.trans (sortS_perm l).symm) (sorted_pw h) (sortS_sorted l)
def keyStrs : List Key → Option (List Str)
  | [] => some []
  | .inr s :: r => (keyStrs r).map (s :: ·)
  | .inl _ :: _ => none
theorem keyStrs_eq : ∀ {ks : List Key} {ss : List Str}, keyStrs ks = some ss → ks = ss.map Sum.inr
  | [], ss, h => by simp [keyStrs] at h; subst h; rfl
  | .inr s :: r, ss, h => by
    simp only [keyStrs] at h
    obtain ⟨z, hz, e⟩ := Option.map_eq_some_iff.mp h
    subst e
    rw [keyStrs_eq hz]
    rfl
  | .inl _ :: _, _, h => by simp [keyStrs] at h
def sortedD : Store → D → Option D := fun _ x => match x with
  | .lst l => (dStrs l).bind fun ss => if ss.length < 64 then some (.lst ((sortS ss).map D.str)) else none
  | .dic ks _ => (keyStrs ks).bind fun ss => if ss.length < 64 then some (.lst ((sortS ss).map D.str)) else none
  | _ => none
section
variable {K : Frag} {f : List Addr} {Z : Addr → Prop} {H : Hp} {st : Store} {X : Cx} {k : Kd}
def rSortA (K : Frag) : List V → Hp → VK → Prop := fun xs H Q => rSortedS K xs H Q ∨ (∃ (a : Addr) (kvs : List (Key × V)) (ks : List Str), xs = [.ref a] ∧ Rd H a (.dK kvs) ∧ kvs.map (·.1) = ks.map Sum.inr ∧ ks.length < 64 ∧
    ∀ ys p, ys.Perm ks → sortedS ys = true → H p = none → Q (.ref p) (upd H p (.lst (ys.map V.str))))
theorem cr_sortA (hc : X.calm = true) : CallR X (.builtin "sorted") (rSortA X.K) := CallR.or cr_sortedS (call_sortedD hc)
theorem strs_new {p : Addr} {ss : List Str} (S : StR K f Z H st) (h : ∀ s ∈ ss, StrOk s) (hl : ss.length ≤ sizeLine) (hp : H p = none) :
    Ext f H f (upd H p (.lst (ss.map V.str))) ∧ Post K .F H f Z (upd H p (.lst (ss.map V.str))) st (.lst (ss.map D.str)) (.ref p) :=
  lst_new S (Rps.of_strs h) hp (by rw [List.length_map]; exact hl)
theorem ok_sorted : Op1Ok K .F sortedD (fun x => rSortA K [x]) := by
  intro f Z H st x dx d Q S tx e q
  unfold sortedD at e
  split at e
  · rename_i l
    obtain ⟨ss, hs, e⟩ := Option.bind_eq_some_iff.mp e
    split at e
    · rename_i h64
      cases e
      have el := dStrs_eq hs
      subst el
      obtain ⟨a, vs, rfl, h1, _, hz, r⟩ := tx.lst_at
      have ok := r.strs_ok
      rw [r.strs] at h1
      refine .inl ⟨a, ss, rfl, SqL.of h1, h64, fun ys p pm hs hp => ?_⟩
      rw [sorted_is pm hs]
      obtain ⟨x2, r2⟩ := strs_new S (fun s hs => ok s ((sortS_perm ss).mem_iff.mp hs)) (Nat.le_trans (by rw [(sortS_perm ss).length_eq]; exact Nat.le_of_lt h64) (by decide)) hp
      exact q _ _ x2 r2
    · cases e
  · rename_i ks ds
    obtain ⟨ss, hs, e⟩ := Option.bind_eq_some_iff.mp e
    split at e
    · rename_i h64
      cases e
      have el := keyStrs_eq hs
      subst el
      obtain ⟨a, vs, rfl, h1, _, hz, r, hl, ko⟩ := tx.dic_at
      have ok : ∀ s ∈ ss, StrOk s := fun s hs => ko s (List.mem_map_of_mem hs)
      refine .inr ⟨a, _, ss, rfl, .inl h1, ?_, h64, fun ys p pm hs hp => ?_⟩
      · rw [← List.unzip_fst, List.unzip_zip]
        exact hl.trans r.length
      · rw [sorted_is pm hs]
        obtain ⟨x2, r2⟩ := strs_new S (fun s hs => ok s ((sortS_perm ss).mem_iff.mp hs)) (Nat.le_trans (by rw [(sortS_perm ss).length_eq]; exact Nat.le_of_lt h64) (by decide)) hp
        exact q _ _ x2 r2
    · cases e
  · cases e
end
end SH

namespace SH
open PySem PySem.Spec PyProof.Rows L2 PySem.Froz
/-- a set object as the model makes it -/
abbrev bornS (w : World) : Obj := { cls := .type "set", dict := none, data := .set #[] 0 (.fresh 0 0 (!w.params.followText "set-order")) }
/-- a table that can be walked in order -/
def TblOk (w : World) (t : SetTable) : Prop := Ris t.place.toList ∧ (w.params.followText "set-order" = true ∨ t.led = true)
/-- the texts l, each once, are the set at a -/
def TxSet (P : Program) (w : World) (h : Heap) (a : Addr) (l : List Str) : Prop := l.Nodup ∧ ∃ D : SD, h.get? a = some (sObj "set" D) ∧ TxOk P w D l ∧ TblOk w D.2.2
def addS (l : List Str) (k : Str) : List Str := if k ∈ l then l else k :: l
theorem addS_len (l : List Str) (k : Str) : (addS l k).length ≤ l.length + 1 := by
  unfold addS
  split
  · omega
  · simp
theorem addS_nd {l : List Str} {k : Str} (h : l.Nodup) : (addS l k).Nodup := by
  unfold addS
  split
  · exact h
  · rename_i n
    exact List.nodup_cons.mpr ⟨n, h⟩
section
variable {P : Program} {w : World} {A : Around} {E : Value → Shared → Prop} {s : Shared}
theorem TxSet.move {h h' : Heap} {a : Addr} {l : List Str} (x : TxSet P w h a l) (k : ∀ o, h.get? a = some o → h'.get? a = some o) : TxSet P w h' a l :=
  ⟨x.1, x.2.imp fun _ y => ⟨k _ y.1, y.2⟩⟩
theorem tbl_tail {ep : Nat} {es : Array (Int × Value)} {t : SetTable} {b : Bool} (x : TblOk w t) : TblOk w (tailTx ep es t b).2.2 := by
  unfold tailTx
  split
  · exact ⟨relayAll_ris t es _, x.2.imp id fun y => (relayAll_led t es _).trans y⟩
  · exact x
theorem tbl_add {h : Int} {v : Value} {D : SD} (x : TblOk w D.2.2) : TblOk w (addTx h v D).2.2 := by
  obtain ⟨x1, x2⟩ := x
  refine tbl_tail ?_
  have y1 := layNew_ris D.2.2 D.1 h v x1
  have y2 : w.params.followText "set-order" = true ∨ (layNew D.2.2 D.1 h v).2.1.led = true := x2.imp id fun y => (layNew_led D.2.2 D.1 h v).trans y
  by_cases c : (layNew D.2.2 D.1 h v).2.1.plain = true
  · rw [if_pos c]; exact ⟨y1, y2⟩
  · rw [if_neg c]; exact ⟨y1, y2⟩
/-- a text is put in -/
theorem tx_put {a : Addr} {l : List Str} {k : Str} {u : Tok} {Q : Bool → Shared → Prop} (x : TxSet P w s.heap a l) (room : l.length + 1 < scanBound)
    (q : ∀ (b : Bool) (h' : Heap), Heap.SameBut a s.heap h' → TxSet P w h' a (addS l k) → Q b { s with heap := h' }) : wpAny (model P w) A (setAddHashed a (.str k u) (hashStr w k)) Q E s := by
  obtain ⟨nd, D, ho, F, tb⟩ := x
  by_cases hk : k ∈ l
  · obtain ⟨es, ep, t⟩ := D
    have hsz : es.size = l.length := F.sz
    have hel : ElemsOf (strKind P w) es.toList := F.el
    obtain ⟨e0, m0, i0⟩ := (F.mem k).mp hk
    have hlt : es.size < scanBound := by omega
    unfold setAddHashed setAddHashedIn
    refine wpAny_holding (wpAny_bind (wpAny_setState_of ho rfl F.fit ?_))
    dsimp only
    rw [byScan_of rfl hlt hel]
    simp only [↓reduceIte]
    unfold setAddByScan
    refine wpAny_bind (wpAny_bind (wpAny_rule (wpAny_bind (wpAny_setScan_of (knd := strKind P w) (k := k) (is_str k u) ho rfl F.fit hel ?_))))
    cases hf : List.findIdx? (fun e => (strKind P w).is k e.2) es.toList with
    | none =>
      have := List.findIdx?_eq_none_iff.mp hf e0 m0
      rw [i0] at this
      cases this
    | some j =>
      dsimp only
      refine wpAny_pure (wpAny_pure (q false s.heap (Heap.SameBut.refl a s.heap) ?_))
      unfold addS
      rw [if_pos hk]
      exact ⟨nd, _, ho, F, tb⟩
  · refine add_x ho F hk room (q true _ (Heap.SameBut.update s.heap a _) ?_)
    unfold addS
    rw [if_neg hk]
    exact ⟨List.nodup_cons.mpr ⟨hk, nd⟩, _, get_upd _ ho rfl, add_ok u F, tbl_add tb⟩
/-- what the loop has put in after i turns -/
def putS (xs : List Str) (i : Nat) : List Str := (xs.take i).foldl addS []
theorem putS_succ {xs : List Str} {i : Nat} {x : Str} (h : xs[i]? = some x) : putS xs (i + 1) = addS (putS xs i) x := by
  unfold putS
  rw [List.take_add_one, h, List.foldl_append]
  rfl
theorem fold_len : ∀ (xs l : List Str), (xs.foldl addS l).length ≤ l.length + xs.length
  | [], l => by simp
  | x :: r, l => by
    have h1 := fold_len r (addS l x)
    have h2 := addS_len l x
    simp only [List.foldl_cons, List.length_cons]
    omega
theorem putS_len (xs : List Str) (i : Nat) : (putS xs i).length ≤ i := by
  have h := fold_len (xs.take i) []
  rw [List.length_take] at h
  have h' : (putS xs i).length ≤ ([] : List Str).length + min i xs.length := h
  simp at h'
  omega
theorem walk_texts {I : Addr} {fp wr : List Addr} {G : Array GenState → Array GenState → Prop} {n : Nat} {Pv : Nat → Value → Prop} {St : Nat → Shared → Prop} {R : Result → Shared → Prop} (W : WalksS P w A.in1 I fp wr G n Pv St) {b : Addr} (hb : b ∉ fp)
    {xs : List Str} (hn : n = xs.length) (room : n + 1 < scanBound) (hv : ∀ i v, Pv i v → ∃ x t, xs[i]? = some x ∧ v = .str x t) (fin : ∀ s0 s', Moved (b :: wr) G s0 s' → s0 = s → TxSet P w s'.heap b (putS xs n) → R (.ok (.ret .none)) s') :
    ∀ (k i : Nat) (s1 : Shared), i + k = n → St i s1 → TxSet P w s1.heap b (putS xs i) → (∀ s2, Moved (b :: wr) G s1 s2 → Moved (b :: wr) G s s2) → codeAny (model P w) A (.builtin "set.update.loop" ⟨[.ref b, .ref I], []⟩) R s1 := by
  have hw : b ∉ wr := fun z => hb (W.sub _ z)
  have up : ∀ c ∈ wr, c ∈ b :: wr := fun _ z => List.mem_cons_of_mem _ z
  intro k
  induction k with
  | zero =>
    intro i s1 hk st x back
    have e : i = n := hk
    rw [e] at st x
    refine codeAny_builtin F.entry_set_update_loop ?_
    rw [Around.under_plainId F.plain_set_update_loop _]
    refine wpAny_bind (m := pyNext (.ref I)) (W.done s1 _ _ st fun s2 mv => ?_)
    exact wpAny_pure (fin s s2 (back _ (mv.mono up)) rfl (x.move fun o e => mv.heap b o hw e))
  | succ k ih =>
    intro i s1 hk st x back
    refine codeAny_builtin F.entry_set_update_loop ?_
    rw [Around.under_plainId F.plain_set_update_loop _]
    refine wpAny_bind (m := pyNext (.ref I)) (W.item i s1 _ _ (by omega) st fun v s2 pv st2 mv => ?_)
    obtain ⟨z, t, hz, rfl⟩ := hv i v pv
    have x2 := x.move (h' := s2.heap) fun o e => mv.heap b o hw e
    refine wpAny_bind (m := holding [Value.str z t] (setAdd b (.str z t))) (wpAny_holding ?_)
    unfold setAdd
    refine wpAny_holding (wpAny_bind ((strKind P w).pyHash (k := z) (is_str z t) ?_))
    have hl := putS_len xs i
    refine tx_put (s := { s2 with toks := s2.toks + 1 }) x2 (by omega) fun _ h' sb y => ?_
    rw [← putS_succ hz] at y
    refine wpAny_pure ⟨plainId_quiet F.plain_set_update_loop _, ih (i + 1) _ (by omega) (W.frame _ s2 _ _ st2 (Nat.le_succ _) fun c hc o e => ?_) y fun s3 mv3 => back s3 (Moved.trans W.gtrans ((mv.mono up).then_heap (Nat.le_succ _) fun c o hc e => ?_) mv3)⟩
    · exact (sb.2 c fun z : c = b => hb (z ▸ hc)).trans e
    · exact (sb.2 c fun z : c = b => hc (z ▸ List.mem_cons_self)).trans e
end
section
variable {P : Program} {w : World} {A : Around} {E : Value → Shared → Prop} {s : Shared}
theorem tx_born {h : Heap} {a : Addr} {xs : List Str} (ho : h.get? a = some (bornS w)) : TxSet P w h a (putS xs 0) := by
  refine ⟨by simp [putS], (#[], 0, .fresh 0 0 (!w.params.followText "set-order")), ho, TxOk.nil rfl, .nil, ?_⟩
  show _ ∨ (!w.params.followText "set-order") = true
  cases w.params.followText "set-order"
  · exact .inr rfl
  · exact .inl rfl
theorem str_get {us : List Value} {xs : List Str} (h : StrsAre us xs) {i : Nat} {v : Value} (e : us[i]? = some v) : ∃ x t, xs[i]? = some x ∧ v = .str x t := by
  obtain ⟨t, e2⟩ := SS.strs_at h i v e
  have hl : i < xs.length := by rw [← h.len_eq]; exact (List.getElem?_eq_some_iff.mp e).1
  refine ⟨xs[i], t, List.getElem?_eq_getElem hl, ?_⟩
  rw [e2, List.getD_eq_getElem?_getD, List.getElem?_eq_getElem hl]
  rfl
/-- set(l), l a list or a tuple of texts -/
theorem set_of_texts {l : Addr} {items : Array Value} {xs : List Str} {Q : Value → Shared → Prop} (hh : A.handled = none) (hl : s.heap.IsList l items ∨ s.heap.IsTuple l items) (hx : StrsAre items.toList xs) (room : xs.length + 1 < scanBound)
    (q : ∀ (h' : Heap) (tk : Nat), TxSet P w h' s.heap.objs.size (putS xs xs.length) → (∀ b o, s.heap.get? b = some o → h'.get? b = some o) → Q (.ref s.heap.objs.size) { s with heap := h', toks := tk }) :
    wpAny (model P w) A (call (.type "set") [.ref l]) Q E s := by
  have size : items.size = xs.length := by
    have := hx.len_eq
    rwa [Array.length_toList] at this
  obtain ⟨c, tl, hmro⟩ := F.called_set.mro
  have g1 := F.called_set.made
  have g2 := F.called_set.sub
  refine wpAny_call (codeAny_of_tree ?_)
  show wpAny _ _ (callAny (.type "set") _) _ _ _
  refine wpAny_pure ⟨Code.quiet_builtin _ (by decide +kernel), codeAny_builtin F.entry_type_call ?_⟩
  rw [Around.under_plain (weight_type_call_type "set" [.ref l] []) rfl]
  have g3 := F.called_set.notType
  have g4 := F.called_set.canCreate
  have g5 := F.typeCall_set_1 (.ref l)
  repeat (any_goals (first | assumption | wp_step))
  refine codeAny_mono (code_set_led1 (.ref l) (E := E) (Q₁ := fun u s1 => u = .ref s.heap.objs.size ∧ s1 = { s with heap := s.heap.push (bornS w) }) ⟨rfl, rfl⟩) fun r s1 hr => ?_
  cases r with
  | error e => exact hr
  | ok fl =>
    cases fl with
    | ret u =>
      obtain ⟨rfl, rfl⟩ := hr
      have at0 : (s.heap.push (bornS w)).get? s.heap.objs.size = some (bornS w) := Heap.get?_push_size _ rfl
      have ty0 : Shared.TypeIs { s with heap := s.heap.push (bornS w) } (.ref s.heap.objs.size) "set" := ⟨_, at0, rfl⟩
      have g6 := F.called_set.init.lookup
      have g7 := F.called_set.init.bind (.ref s.heap.objs.size)
      repeat (any_goals (first | assumption | wp_step))
      refine codeAny_mono (codeAny_call_builtin (R := wants (fun v s2 => v = .none ∧ ∃ h' tk, s2 = { s with heap := h', toks := tk } ∧ TxSet P w h' s.heap.objs.size (putS xs xs.length) ∧ ∀ b o, s.heap.get? b = some o → h'.get? b = some o) E)
        F.called_set.init.plain F.entry_set_init (check_set_init_1 ty0 ?_)) fun r2 s2 hr2 => ?_
      · have lt0 : l < s.heap.objs.size := by
          rcases hl with ⟨o, ho, _⟩ | ⟨o, ho, _⟩ <;> exact Heap.lt_size ho
        have sz1 : (s.heap.push (bornS w)).objs.size = s.heap.objs.size + 1 := Heap.size_push ..
        have ne1 : l ≠ (s.heap.push (bornS w)).objs.size := by rw [sz1]; exact Nat.ne_of_lt (Nat.lt_succ_of_lt lt0)
        have h3 : A.in1.in1.in1.handled = none := by simp [hh]
        have out : s.heap.objs.size ∉ [(s.heap.push (bornS w)).objs.size, l] := by
          rw [sz1]
          simp only [List.mem_cons, List.not_mem_nil, or_false, not_or]
          exact ⟨Nat.ne_of_lt (Nat.lt_succ_self _), Nat.ne_of_gt lt0⟩
        have vals : ∀ (i : Nat) (v : Value), items[i]? = some v → ∃ x t, xs[i]? = some x ∧ v = .str x t := fun i v e => str_get hx (by rw [Array.getElem?_toList]; exact e)
        have last : ∀ {h2 : Heap} {s' : Shared} {o : Obj}, h2 = (s.heap.push (bornS w)).push o → Moved (s.heap.objs.size :: [(s.heap.push (bornS w)).objs.size]) (fun x y => y = x) { s with heap := h2 } s' → TxSet P w s'.heap s.heap.objs.size (putS xs xs.length) →
            ∃ h' tk, s' = { s with heap := h', toks := tk } ∧ TxSet P w h' s.heap.objs.size (putS xs xs.length) ∧ ∀ b o, s.heap.get? b = some o → h'.get? b = some o := by
          intro h2 s' o e2 mv x
          subst e2
          obtain ⟨h', y1, y2, tk, y3⟩ := s'
          have z1 : y1 = s.gens := mv.gens
          have z2 : y2 = s.drawn := mv.drawn
          have z3 : y3 = s.os := mv.os
          subst z1 z2 z3
          refine ⟨h', tk, rfl, x, fun b o e => ?_⟩
          have lb : b < s.heap.objs.size := Heap.lt_size e
          exact mv.heap b o (by rw [sz1]; simp only [List.mem_cons, List.not_mem_nil, or_false, not_or]; exact ⟨Nat.ne_of_lt lb, Nat.ne_of_lt (Nat.lt_succ_of_lt lb)⟩) (Heap.get?_push_of_some _ (Heap.get?_push_of_some _ e))
        rcases hl with ⟨⟨o1, o2, o3, o4⟩, ho, e1, m, e2⟩ | ⟨⟨o1, o2, o3, o4⟩, ho, e1, m, e2⟩
        · simp only at e1 e2
          subst e1 e2
          have ho1 : (s.heap.push (bornS w)).get? l = some { cls := .type "list", dict := o2, data := .seq items m, slots := o4 } := Heap.get?_push_of_some _ ho
          have k1 := F.sub_list_set
          have k2 := F.sub_list_frozenset
          have k3 : (Value.type "list" == Value.type "dict") = false := by decide
          have is1 : (s.heap.push (bornS w)).IsList l items := ⟨_, ho1, rfl, m, rfl⟩
          unfold Builtin.«set.__init__» noKeywords Builtin.Frozenset.updateFrom
          generalize hp : pyIter = pit
          wp_walk
          subst hp
          refine wpAny_pyIter_list is1 (wpAny_bind (wpAny_runValue ?_))
          refine walk_texts ((Walks.list h3 _ l ne1 items).toS) out size (by omega) vals (fun s0 s' mv e0 x => ?_) (items.size - 0) 0 _ (by omega) ⟨⟨_, Heap.get?_push_size _ rfl, rfl, rfl⟩, is1.push _⟩ (tx_born (Heap.get?_push_of_some _ at0)) (fun _ z => z)
          subst e0
          rw [size] at x
          exact wpAny_pure (wpAny_pure ⟨rfl, last rfl mv x⟩)
        · simp only at e1 e2
          subst e1 e2
          have ho1 : (s.heap.push (bornS w)).get? l = some { cls := .type "tuple", dict := o2, data := .seq items m, slots := o4 } := Heap.get?_push_of_some _ ho
          have k1 := F.sub_tuple_set
          have k2 := F.sub_tuple_frozenset
          have k3 : (Value.type "tuple" == Value.type "dict") = false := by decide
          have is1 : (s.heap.push (bornS w)).IsTuple l items := ⟨_, ho1, rfl, m, rfl⟩
          unfold Builtin.«set.__init__» noKeywords Builtin.Frozenset.updateFrom
          generalize hp : pyIter = pit
          wp_walk
          subst hp
          refine wpAny_pyIter_tuple is1 (wpAny_bind (wpAny_runValue ?_))
          refine walk_texts ((Walks.tuple h3 _ l ne1 items).toS) out size (by omega) vals (fun s0 s' mv e0 x => ?_) (items.size - 0) 0 _ (by omega) ⟨⟨_, Heap.get?_push_size _ rfl, rfl, rfl⟩, is1.push _⟩ (tx_born (Heap.get?_push_of_some _ at0)) (fun _ z => z)
          subst e0
          rw [size] at x
          exact wpAny_pure (wpAny_pure ⟨rfl, last rfl mv x⟩)
      · cases r2 with
        | error e => exact hr2
        | ok fl2 =>
          cases fl2 with
          | ret v =>
            obtain ⟨rfl, h', tk, rfl, x, kp⟩ := hr2
            repeat (any_goals (first | assumption | wp_step))
            exact q _ _ x kp
          | _ => exact hr2.elim
    | _ => exact hr.elim
end
end SH

namespace SH
open PySem PySem.Spec PyProof.Rows L2 PySem.Froz
section
variable {P : Program} {w : World} {A : Around} {E : Value → Shared → Prop} {s : Shared}
theorem perm_of_nd : ∀ {l m : List Str}, l.Nodup → (∀ x ∈ l, x ∈ m) → m.length = l.length → m.Perm l
  | [], m, _, _, h => by rw [List.length_eq_zero_iff.mp h]
  | x :: r, m, nd, sub, h => by
    obtain ⟨n1, n2⟩ := List.nodup_cons.mp nd
    have hx := sub x List.mem_cons_self
    have hl := List.length_erase_of_mem hx
    have ih := perm_of_nd (m := m.erase x) n2 (fun y hy => (List.mem_erase_of_ne (fun (e : y = x) => n1 (e ▸ hy))).mpr (sub y (List.mem_cons_of_mem _ hy))) (by simp only [List.length_cons] at h; omega)
    exact (List.perm_cons_erase hx).trans (ih.cons x)
/-- sorted(a), a a set of texts -/
theorem sorted_texts {a : Addr} {l : List Str} {Q : Value → Shared → Prop} (x : TxSet P w s.heap a l) (hh : A.handled = none) (h64 : l.length < 64)
    (q : ∀ s' p (out : Array Value) (c : Nat), (∀ b o, s.heap.get? b = some o → s'.heap.get? b = some o) → s'.gens = s.gens → s'.os = s.os → s.heap.objs.size ≤ p → s'.heap.get? p = some (seqObj "list" out c) → StrsAre out.toList (sortS l) → Q (.ref p) s') :
    wpAny (model P w) A (call (.builtin "sorted") [.ref a]) Q E s := by
  obtain ⟨nd, ⟨es, ep, t⟩, ho, F, tb1, tb2⟩ := x
  have hsz : es.size = l.length := F.sz
  refine Calls.call_function_entry kind_sorted plain_sorted entry_sorted (args_sorted1 _) ?_
  unfold Builtin.«sorted»
  refine wpAny_bind (m := checkCount "sorted" 1 1 _) (wpAny_pure (wpAny_bind (collect_set (A := A.in1) hh ⟨_, ho, rfl, rfl⟩ F.fit (by show es.size < scanBound; unfold scanBound; omega) tb1 tb2 fun s1 vs k1 hz g1 o1 pm => ?_)))
  have pm' : vs.Perm (es.toList.map (·.2)) := pm
  have hvl : vs.length = l.length := by rw [pm'.length_eq, List.length_map, Array.length_toList]; exact hsz
  have one : ∀ e ∈ es.toList, ∃ k u, e.2 = Value.str k u ∧ k ∈ l := fun e he => by
    obtain ⟨⟨k, h1, _⟩, _⟩ := F.el e he
    have hm := (F.mem k).mpr ⟨e, he, h1⟩
    obtain ⟨e1, e2⟩ := e
    cases e2 with
    | str k' u =>
      have h4 : Value.isStrOf k (.str k' u) = true := h1
      simp [Value.isStrOf] at h4
      subst h4
      exact ⟨_, u, rfl, hm⟩
    | _ => cases h1
  have isS : ∀ v ∈ vs, ∃ k u, v = Value.str k u := fun v hv => by
    obtain ⟨e, he, rfl⟩ := List.mem_map.mp (pm'.mem_iff.mp hv)
    obtain ⟨k, u, h, _⟩ := one e he
    exact ⟨k, u, h⟩
  have hS := strsAre_map vs isS
  have mem : ∀ k : Str, k ∈ vs.map strOf ↔ k ∈ l := fun k => by
    rw [(pm'.map strOf).mem_iff, List.map_map, List.mem_map]
    constructor
    · rintro ⟨e, he, rfl⟩
      obtain ⟨k, u, h, hm⟩ := one e he
      show strOf e.2 ∈ l
      rw [h]
      exact hm
    · intro hk
      obtain ⟨e, he, hi⟩ := (F.mem k).mp hk
      obtain ⟨k', u, h, _⟩ := one e he
      refine ⟨e, he, ?_⟩
      show strOf e.2 = k
      rw [h] at hi ⊢
      have h4 : Value.isStrOf k (.str k' u) = true := hi
      simp [Value.isStrOf] at h4
      exact h4
  have pl : (vs.map strOf).Perm l :=
     perm_of_nd nd (fun k hk => (mem k).mpr hk) (by rw [List.length_map, hvl])
  refine wpAny_bind (wpAny_newList ?_ (by rw [hvl, sizeLine_eq]; omega))
  have at1 : (s1.heap.push (seqObj "list" vs.toArray 0)).get? s1.heap.objs.size = some (seqObj "list" vs.toArray 0) := Heap.get?_push_size _ rfl
  refine wpAny_bind (wpAny_holding (wpAny_call_entry slot_list_sort ⟨_, at1, rfl⟩ entry_list_sort
    (list_sort_treeK strKind_oneLt at1 hS.keysOf (fun v1 v2 r e => keyKind_strs (by rw [← e]; exact hS)) (by omega) fun st p1 p2 => ⟨_, rfl, ?_⟩) (args_list_sort _)))
  obtain ⟨ss, o2, o3, o4⟩ := sorted_out_str hS p1 p2
  obtain ⟨c, hc⟩ := sortedHeap_at (vs := vs) (out := (arrOf st).map (·.2)) at1
  have es1 : ss = sortS l := sorted_is (o3.trans pl) o4
  refine wpAny_pure ⟨_, rfl, q _ s1.heap.objs.size _ c (fun b u e => ?_) g1 o1 hz hc (es1 ▸ o2)⟩
  have e1 := k1 b u e
  have lt := Heap.lt_size e1
  show (sortedHeap (s1.heap.push (seqObj "list" vs.toArray 0)) s1.heap.objs.size vs _).get? b = some u
  rw [sortedHeap_old (Nat.ne_of_lt lt) (by rw [size_push']; exact Nat.lt_succ_of_lt lt)]
  exact Heap.get?_push_of_some _ e1
end
/-- the set at a, as a thing of the abstract heap -/
def TxO (P : Program) (w : World) (a : Addr) (l : List Str) : HO := .ext fun h => TxSet P w h a l
theorem txO_ok {P : Program} {w : World} {H : Hp} {h : Heap} {a : Addr} {l : List Str} (x : TxSet P w h a l) : ObjOk P w H h a (TxO P w a l) := by
  have x' := x
  obtain ⟨_, D, ho, _⟩ := x'
  exact ⟨x, ⟨_, ho⟩, fun h1 h2 y k => TxSet.move y k⟩
section
variable {X : Cx}
def rSetT (K : Frag) (P : Program) (w : World) : List V → Hp → VK → Prop := fun xs H Q => ∃ (l : Addr) (ss : List Str), xs = [.ref l] ∧ (SqL K H l (ss.map V.str) ∨ SqT K H l (ss.map V.str)) ∧ ss.length < 64 ∧
  ∀ p, H p = none → Q (.ref p) (upd H p (TxO P w p (putS ss ss.length)))
theorem cr_setT (hc : X.calm = true) : CallR X (.type "set") (rSetT X.K X.prog X.w) := by
  intro pins s σ H xs us Q I r h
  obtain ⟨l, ss, rfl, hs, h64, q⟩ := h
  rw [Vals.ref1 r]
  have go : ∀ (its : List Value), Vals (ss.map V.str) its → (s.heap.IsList l its.toArray ∨ s.heap.IsTuple l its.toArray) → wpAny (model X.prog X.w) X.A (call (.type "set") [.ref l]) (EP X pins σ Q) X.xe s := by
    intro its rv hl
    refine set_of_texts (I.ok.hd hc) hl (by simpa using rv.strs) (by unfold scanBound; omega) fun h' tk x kp => ?_
    have hn : H s.heap.objs.size = none := I.hok.fresh (Nat.le_refl _)
    exact ⟨.ref _, upd H s.heap.objs.size (TxO X.prog X.w s.heap.objs.size (putS ss ss.length)), I.laid (t' := tk) kp (Nat.le_refl _) (txO_ok x), rfl, q _ hn⟩
  rcases hs with hs | hs
  · obtain ⟨its, rv, pl, _⟩ := I.list hs
    exact go its rv (.inl pl.isList)
  · obtain ⟨its, rv, pl, _⟩ := I.tuple hs
    exact go its rv (.inr pl)
def rSortedT (P : Program) (w : World) : List V → Hp → VK → Prop := fun xs H Q => ∃ (a : Addr) (l : List Str), xs = [.ref a] ∧ H a = some (TxO P w a l) ∧ l.length < 64 ∧ ∀ p, H p = none → Q (.ref p) (upd H p (.lst ((sortS l).map V.str)))
theorem cr_sortedT (hc : X.calm = true) : CallR X (.builtin "sorted") (rSortedT X.prog X.w) := by
  intro pins s σ H xs us Q I r h
  obtain ⟨a, l, rfl, ha, h64, q⟩ := h
  rw [Vals.ref1 r]
  have x : TxSet X.prog X.w s.heap a l := (I.hok a _ ha).1
  refine sorted_texts x (I.ok.hd hc) h64 fun s' p out c k g o hp hg hi => ?_
  have hn : H p = none := I.hok.fresh hp
  have hl : ((sortS l).map V.str).length ≤ sizeLine := by rw [List.length_map, (sortS_perm l).length_eq, sizeLine_eq]; omega
  have J : Inv X pins σ (upd H p (.lst ((sortS l).map V.str))) { s with heap := s'.heap, gens := s'.gens, drawn := s'.drawn, toks := s'.toks } :=
    I.call (ch := []) (Un.laid k hp hn) (I.hok.laid k hp ⟨hl, out.toList, c, vals_of_strs hi, hg⟩) (by rw [g]; exact I.bare) (fun _ z => nomatch z)
  have e : s' = { s with heap := s'.heap, gens := s'.gens, drawn := s'.drawn, toks := s'.toks } := by
    obtain ⟨a1, a2, a3, a4, a5⟩ := s'
    have o' : a5 = s.os := o
    subst o'
    rfl
  rw [e]
  exact ⟨.ref p, _, J, rfl, q p hn⟩
/-- sorted(set(x)) -/
def sortSetD : Store → D → Option D := fun _ x => match x with
  | .lst l => (dStrs l).bind fun ss => if ss.length < 64 then some (.lst ((sortS (putS ss ss.length)).map D.str)) else none
  | .tup l => (dStrs l).bind fun ss => if ss.length < 64 then some (.lst ((sortS (putS ss ss.length)).map D.str)) else none
  | _ => none
theorem putS_sub : ∀ (xs l : List Str) (k : Str), k ∈ xs.foldl addS l → k ∈ xs ∨ k ∈ l
  | [], l, k, h => .inr h
  | x :: r, l, k, h => by
    rcases putS_sub r (addS l x) k h with h | h
    · exact .inl (List.mem_cons_of_mem _ h)
    · unfold addS at h
      split at h
      · exact .inr h
      · rcases List.mem_cons.mp h with rfl | h
        · exact .inl List.mem_cons_self
        · exact .inr h
theorem putS_mem {xs : List Str} {n : Nat} {k : Str} (h : k ∈ putS xs n) : k ∈ xs := by
  rcases putS_sub _ _ _ h with h | h
  · exact List.mem_of_mem_take h
  · cases h
variable {K : Frag} {f : List Addr} {Z : Addr → Prop} {H : Hp} {st : Store} {ow : List Nat}
def rSortSet (K : Frag) (P : Program) (w : World) : V → Hp → VK → Prop := fun x H Q => rSetT K P w [x] H fun v H1 => rSortedT P w [v] H1 Q
theorem ok_sortSet {P : Program} {w : World} : Op1Ok K .F sortSetD (rSortSet K P w) := by
  intro f Z H st x dx d Q S tx e q
  have fin : ∀ (a : Addr) (ss : List Str), x = .ref a → (SqL K H a (ss.map V.str) ∨ SqT K H a (ss.map V.str)) → (∀ s ∈ ss, StrOk s) → ss.length < 64 → d = .lst ((sortS (putS ss ss.length)).map D.str) → rSortSet K P w x H Q := by
    intro a ss ex hs ok h64 ed
    subst ex ed
    have hl := putS_len ss ss.length
    refine ⟨a, ss, rfl, hs, h64, fun p hp => ⟨p, _, rfl, upd_same, by omega, fun p2 hp2 => ?_⟩⟩
    have k1 := keep_new (o := TxO P w p (putS ss ss.length)) hp
    have x1 := Ext.same S k1
    obtain ⟨x2, r2⟩ := strs_new (S.same k1) (fun s hs => ok s (putS_mem ((sortS_perm _).mem_iff.mp hs))) (Nat.le_trans (by rw [(sortS_perm _).length_eq]; exact Nat.le_of_lt (by omega : (putS ss ss.length).length < 64)) (by decide)) hp2
    exact q _ _ (x1.trans x2) (r2.from x1)
  unfold sortSetD at e
  split at e
  · obtain ⟨ss, hs, e⟩ := Option.bind_eq_some_iff.mp e
    split at e
    · rename_i h64
      cases e
      have el := dStrs_eq hs
      subst el
      obtain ⟨a, vs, hx, h1, _, hz, r⟩ := tx.lst_at
      have ok := r.strs_ok
      rw [r.strs] at h1
      exact fin a ss hx (.inl (SqL.of h1)) ok h64 rfl
    · cases e
  · obtain ⟨ss, hs, e⟩ := Option.bind_eq_some_iff.mp e
    split at e
    · rename_i h64
      cases e
      have el := dStrs_eq hs
      subst el
      obtain ⟨a, vs, hx, h1, hz, r, _⟩ := tx.tup_at
      have ok := r.strs_ok
      rw [r.strs] at h1
      exact fin a ss hx (.inr h1) ok h64 rfl
    · cases e
  · cases e
theorem pe_sortSet {a : Expr} {ma : EM} {p p2 pos pos2 : Pos} (hK : X.K = K) (hc : X.calm = true) (hg : Gl X "sorted") (hm : X.mg "sorted" = none) (hg2 : Gl X "set") (hm2 : X.mg "set" = none) (ha : PE X a (tEv K ow .T ma)) (hs : starEach (a :: []) X.env = (false, eval a X.env) :: starEach [] X.env) :
    PE X (.Call (.Name "sorted" p) [.Call (.Name "set" p2) [a] [] pos2] [] pos) (tEv K ow .F (mOp1 sortSetD ma)) := by
  subst hK
  have inner : PE X (.Call (.Name "set" p2) [a] [] pos2) (tCB (rSetT X.K X.prog X.w) (tCons (tEv X.K ow .T ma) tNil)) := pe_callTy (cr_setT hc) hg2 hm2 (by decide +kernel) (pa_cons ha pa_nil hs) (by decide) (by decide) hs rfl
  have outer := pe_callB (pos := pos) (p := p) (cr_sortedT hc) hg hm (by decide +kernel) (pa_cons inner pa_nil rfl) (by decide) (by decide) rfl rfl
  exact pe_weak outer fun σ H Q q => tUn_of ok_sortSet q
end
end SH

namespace SH
open PySem L2
instance (s : Str) : Decidable (StrOk s) := inferInstanceAs (Decidable (_ ∧ _))
def mOp3 (f : Store → D → D → D → Option D) (a b c : EM) : EM := fun ρ st => (a ρ st).bind fun x st1 => (b ρ st1).bind fun y st2 => (c ρ st2).bind fun z st3 => liftO (f st3 x y z) st3
section
variable {K : Frag} {ow : List Nat} {f f' : List Addr} {Z : Addr → Prop} {H H' : Hp} {st st' : Store} {d : D} {v : V} {X : Cx} {o a b : Expr} {mo ma mb : EM} {σ : St} {ap cp : Pos}
def joinS (a : Str) (ys : List Str) : Option D := if (ys.map (·.length)).sum + ys.length * a.length ≤ 16777216 ∧ StrOk (Txt.join a ys) then some (.str (Txt.join a ys)) else none
def joinD : Store → D → D → Option D := fun _ x y => match x, y with
  | .str a, .lst l => (dStrs l).bind (joinS a)
  | .str a, .tup l => (dStrs l).bind (joinS a)
  | _, _ => none
theorem joinS_eq {s : Str} {ys : List Str} (h : joinS s ys = some d) : (ys.map (·.length)).sum + ys.length * s.length ≤ 16777216 ∧ StrOk (Txt.join s ys) ∧ d = .str (Txt.join s ys) := by
  unfold joinS at h
  split at h
  · rename_i c
    cases h
    exact ⟨c.1, c.2, rfl⟩
  · cases h
theorem pe_mJoin (hK : X.K = K) (ho : PE X o (tEv K ow .T mo)) (ha : PE X a (tEv K ow .T ma)) (hb : attributeBase o "join" X.env (eval o X.env) = eval o X.env) (hln : (ap.endLine == cp.line) = true)
    (hs : starEach (a :: []) X.env = (false, eval a X.env) :: starEach [] X.env) : PE X (.Call (.Attribute o "join" ap) [a] [] cp) (tEv K ow .C (mOp2 joinD mo ma)) := by
  subst hK
  refine pe_weak (pe_bm PySem.F.plainAttrs_str PySem.F.slot_str_join PySem.F.type_str_join mt_join ho (pa_cons ha pa_nil hs) hb (by rw [hs]; rfl) hln hs rfl) fun σ H Q q => ?_
  obtain ⟨f, Z, ρ, st, E, d, st', e, q⟩ := q
  obtain ⟨dx, st1, e1, e⟩ := R.bind_eq (show (mo ρ st).bind _ = _ from e)
  obtain ⟨dy, st2, e2, e⟩ := R.bind_eq e
  obtain ⟨e3, rfl⟩ := liftO_ok e
  refine ⟨f, Z, ρ, st, E, dx, st1, e1, fun f1 H1 x x1 ⟨S1, t1⟩ => ?_⟩
  have hx : ∃ s, dx = .str s := by
    unfold joinD at e3
    split at e3 <;> first | exact ⟨_, rfl⟩ | cases e3
  obtain ⟨s, rfl⟩ := hx
  cases t1 with
  | rp r1 =>
    cases r1 with
    | str _ ok =>
      refine ⟨rfl, f1, Z, ρ, st1, E.ext x1 S1, dy, _, e2, fun f2 H2 y x2 ⟨S2, t2⟩ => ?_⟩
      have fin : ∀ (p : Addr) (ys : List Str), y = .ref p → (SqL X.K H2 p (ys.map V.str) ∨ SqT X.K H2 p (ys.map V.str)) → joinS s ys = some d → ∃ a p, ∃ ys : List Str, V.str s = .str a ∧ [y] = [V.ref p] ∧ (SqL X.K H2 p (ys.map V.str) ∨ SqT X.K H2 p (ys.map V.str)) ∧
          (ys.map (·.length)).sum + ys.length * a.length ≤ 16777216 ∧ Q (.str (Txt.join a ys)) H2 := by
        intro p ys ey hs h
        obtain ⟨h1, h2, h3⟩ := joinS_eq h
        subst ey h3
        exact ⟨s, p, ys, rfl, rfl, hs, h1, q f2 H2 _ (x1.trans x2) ⟨S2, .str _ h2⟩⟩
      have hy : (∃ l, dy = .lst l ∧ (dStrs l).bind (joinS s) = some d) ∨ (∃ l, dy = .tup l ∧ (dStrs l).bind (joinS s) = some d) := by
        cases dy <;> first | exact .inl ⟨_, rfl, e3⟩ | exact .inr ⟨_, rfl, e3⟩ | cases e3
      rcases hy with ⟨l, rfl, e5⟩ | ⟨l, rfl, e5⟩
      · obtain ⟨ys, hy, e6⟩ := Option.bind_eq_some_iff.mp e5
        have el := dStrs_eq hy
        subst el
        obtain ⟨p, vs, rfl, g1, _, _, r⟩ := t2.lst_at
        rw [r.strs] at g1
        exact fin p ys rfl (.inl (SqL.of g1)) e6
      · obtain ⟨ys, hy, e6⟩ := Option.bind_eq_some_iff.mp e5
        have el := dStrs_eq hy
        subst el
        obtain ⟨p, vs, rfl, g1, _, r, _⟩ := t2.tup_at
        rw [r.strs] at g1
        exact fin p ys rfl (.inr g1) e6

def get2D : Store → D → D → D → Option D := fun _ x y z => match x, y with
  | .dic ks vs, .str k => some ((getK (.inr k) ks vs).getD z)
  | _, _ => none
theorem valV_none {k : Key} : ∀ {ks : List Key} {ds : List D} {vs : List V}, Rps K f Z H ds vs → getK k ks ds = none → valV (ks.zip vs) k = none
  | [], _, _, _, _ => rfl
  | _ :: _, [], [], .nil, _ => rfl
  | a :: ks, d0 :: ds, v0 :: vs, .cons h r, e => by
    unfold getK at e
    split at e
    · cases e
    · rename_i n
      have ih := valV_none r e
      unfold valV at ih ⊢
      rw [List.zip_cons_cons, List.find?_cons]
      have : decide ((a, v0).1 = k) = false := by simpa using n
      rw [this]
      exact ih
theorem m2_of {e g : Expr} {nm : Str} (hb : attributeBase o nm X.env (eval o X.env) = eval o X.env) (hln : (ap.endLine == cp.line) = true) (h1 : starEach (e :: [g]) X.env = (false, eval e X.env) :: starEach [g] X.env)
    (h2 : starEach (g :: []) X.env = (false, eval g X.env) :: starEach [] X.env) : M2 X o nm ap e g cp := by
  refine ⟨hb, ?_, hln, ?_⟩
  · rw [h1, h2]; rfl
  · rw [h1, h2]; rfl
theorem pe_mGet2 (hu : X.A.units + 1 < cLine) (ho : PE X o (tEv K ow .T mo)) (ha : PE X a (tEv K ow .C ma)) (hb : PE X b (tEv K ow .C mb)) (m : M2 X o "get" ap a b cp) : PE X (.Call (.Attribute o "get" ap) [a, b] [] cp) (tEv K ow .C (mOp3 get2D mo ma mb)) := by
  refine pe_weak (pe_dget2 hu ho ha hb m) fun σ H Q q => ?_
  obtain ⟨f, Z, ρ, st, E, d, st', e, q⟩ := q
  obtain ⟨dx, st1, e1, e⟩ := R.bind_eq (show (mo ρ st).bind _ = _ from e)
  obtain ⟨dy, st2, e2, e⟩ := R.bind_eq e
  obtain ⟨dz, st3, e3, e⟩ := R.bind_eq e
  obtain ⟨e4, rfl⟩ := liftO_ok e
  refine ⟨f, Z, ρ, st, E, dx, st1, e1, fun f1 H1 x x1 ⟨S1, t1⟩ => ?_⟩
  have hx : ∃ ks vs kk, dx = .dic ks vs ∧ dy = .str kk ∧ d = (getK (.inr kk) ks vs).getD dz := by
    cases dx <;> first | (cases dy <;> first | (cases e4; exact ⟨_, _, _, rfl, rfl, rfl⟩) | cases e4) | cases e4
  · obtain ⟨ks, vs, kk, rfl, rfl, rfl⟩ := hx
    obtain ⟨p, ws, rfl, h1, nf, hz, r1, hl, ko⟩ := t1.dic_at
    refine ⟨p, rfl, .inl ⟨_, .inl h1⟩, f1, Z, ρ, st1, E.ext x1 S1, _, st2, e2, fun f2 H2 y x2 ⟨S2, t2⟩ => ?_⟩
    refine ⟨f2, Z, ρ, st2, (E.ext x1 S1).ext x2 S2, dz, _, e3, fun f3 H3 z x3 ⟨S3, t3⟩ => ?_⟩
    cases t2
    have h3 := (x2.trans x3).keep p _ h1 nf
    refine ⟨_, DGet.k (k := Sum.inr kk) h3, ?_⟩
    cases hg : getK (.inr kk) ks vs with
    | none =>
      rw [valV_none r1 hg]
      rw [hg] at q
      exact q f3 H3 _ ((x1.trans x2).trans x3) ⟨S3, t3⟩
    | some d0 =>
      obtain ⟨v, hv, r⟩ := valV_getK r1 hg
      rw [hv]
      rw [hg] at q
      exact q f3 H3 _ ((x1.trans x2).trans x3) ⟨S3, (r.frm x2.frm).frm x3.frm⟩

def keyD : D → Option Key
  | .str s => some (.inr s)
  | .int i => some (.inl i)
  | _ => none
/-- the pairs put in, one behind another -/
def putP (p : List Key × List D) (k : Key) (d : D) : List Key × List D := match dicPut p.1 p.2 k d with
  | .dic ks ds => (ks, ds)
  | _ => p
def mPairs : List (EM × EM) → Env → Store → R (List (Key × D))
  | [], _, st => .ok [] st
  | (k, v) :: r, ρ, st => (k ρ st).bind fun x st1 => onO (keyD x) fun kk => (v ρ st1).bind fun y st2 => (mPairs r ρ st2).bind fun l st3 => .ok ((kk, y) :: l) st3
def mergeP (l : List (Key × D)) : List Key × List D := l.foldl (fun p kv => putP p kv.1 kv.2) ([], [])
def mDic (l : List (EM × EM)) : EM := fun ρ st => (mPairs l ρ st).bind fun ps st1 => .ok (.dic (mergeP ps).1 (mergeP ps).2) st1
/-- what a list of pairs is in the machine -/
inductive Prs (K : Frag) (f : List Addr) (Z : Addr → Prop) (H : Hp) : List (Key × D) → List (Key × V) → Prop
  | nil : Prs K f Z H [] []
  | cons {k : Key} {d : D} {v : V} {l : List (Key × D)} {kvs : List (Key × V)} : Rp K f Z H d v → (∀ s, k = .inr s → StrOk s) → Prs K f Z H l kvs → Prs K f Z H ((k, d) :: l) ((k, v) :: kvs)
theorem Prs.frm {Z' : Addr → Prop} (F : Frm f Z H f' Z' H') : ∀ {l : List (Key × D)} {kvs : List (Key × V)}, Prs K f Z H l kvs → Prs K f' Z' H' l kvs
  | _, _, .nil => .nil
  | _, _, .cons h k r => .cons (h.frm F) k (Prs.frm F r)
theorem Prs.length : ∀ {l : List (Key × D)} {kvs : List (Key × V)}, Prs K f Z H l kvs → l.length = kvs.length
  | _, _, .nil => rfl
  | _, _, .cons _ _ r => by simp [r.length]
theorem Prs.merge : ∀ {l : List (Key × D)} {kvs : List (Key × V)} {p : List Key × List D} {vs : List V}, Prs K f Z H l kvs → Rps K f Z H p.2 vs → p.1.length = p.2.length → KeysOk p.1 →
    ∃ vs', mergeK (p.1.zip vs) kvs = (l.foldl (fun p kv => putP p kv.1 kv.2) p).1.zip vs' ∧ Rps K f Z H (l.foldl (fun p kv => putP p kv.1 kv.2) p).2 vs' ∧ (l.foldl (fun p kv => putP p kv.1 kv.2) p).1.length = (l.foldl (fun p kv => putP p kv.1 kv.2) p).2.length ∧ KeysOk (l.foldl (fun p kv => putP p kv.1 kv.2) p).1
  | _, _, p, vs, .nil, r, hl, hk => ⟨vs, rfl, r, hl, hk⟩
  | _, _, p, vs, .cons (k := k) (d := d) (v := v) h ko t, r, hl, hk => by
    obtain ⟨ks', ds', vs', e1, e2, r2, l2, k2⟩ := putK_dic (kk := k) r hl h hk ko
    have ep : putP p k d = (ks', ds') := by unfold putP; rw [e1]
    obtain ⟨vs2, g1, g2, g3, g4⟩ := Prs.merge (p := (ks', ds')) (vs := vs') t r2 l2 k2
    refine ⟨vs2, ?_, ?_⟩
    · show mergeK (putK (p.1.zip vs) k v) _ = _
      rw [e2]
      rw [List.foldl_cons]
      show _ = (List.foldl _ (putP p k d) _).1.zip vs2
      rw [ep]
      exact g1
    · rw [List.foldl_cons]
      show Rps K f Z H (List.foldl _ (putP p k d) _).2 vs2 ∧ (List.foldl _ (putP p k d) _).1.length = (List.foldl _ (putP p k d) _).2.length ∧ KeysOk (List.foldl _ (putP p k d) _).1
      rw [ep]
      exact ⟨g2, g3, g4⟩
theorem Prs.merge0 {l : List (Key × D)} {kvs : List (Key × V)} (h : Prs K f Z H l kvs) : ∃ vs', mergeK [] kvs = (mergeP l).1.zip vs' ∧ Rps K f Z H (mergeP l).2 vs' ∧ (mergeP l).1.length = (mergeP l).2.length ∧ KeysOk (mergeP l).1 :=
  Prs.merge (p := ([], [])) (vs := []) h .nil rfl fun s h => nomatch h
/-- a new dict -/
theorem dic_new {p : Addr} {ks : List Key} {ds : List D} {vs : List V} (S : StR K f Z H st) (r : Rps K f Z H ds vs) (hl : ks.length = ds.length) (hk : KeysOk ks) (hp : H p = none) (hz : (ks.zip vs).length ≤ sizeLine) :
    Ext f H f (upd H p (.dK (ks.zip vs))) ∧ Post K .F H f Z (upd H p (.dK (ks.zip vs))) st (.dic ks ds) (.ref p) := by
  have k := keep_new (o := .dK (ks.zip vs)) hp
  have F : Frm f Z H f (fun a => Z a ∨ a = p) (upd H p (.dK (ks.zip vs))) := ⟨fun b o e n z => ⟨k b o e, n, fun q => q.elim z fun q => ne_of_none e hp q⟩, [], by simp⟩
  exact ⟨Ext.same S k, fun e => (nomatch e), fun _ => ⟨p, rfl, hp, S.more hp (by rw [upd_same]; trivial) k, .dic ⟨upd_same, (S.fresh hp).1, fun z => z, hz⟩ (r.frm F) hl hk⟩⟩
theorem keyD_rel {x : D} {kk : Key} {v : V} (h : keyD x = some kk) (r : Rp K f Z H x v) : v = kV kk ∧ ∀ s, kk = .inr s → StrOk s := by
  cases x with
  | int i =>
    cases h
    cases r
    exact ⟨rfl, fun s e => by cases e⟩
  | str s =>
    cases h
    cases r with
    | str _ ok => exact ⟨rfl, fun s e => by cases e; exact ok⟩
  | _ => cases h
theorem tPairs_of : ∀ {l : List (EM × EM)} {ρ : Env} {st st' : Store} {ps : List (Key × D)} {f : List Addr} {Z : Addr → Prop} {H : Hp} {Q : List (V × V) → Hp → Prop}, ER K ow f Z H σ ρ st → mPairs l ρ st = .ok ps st' →
    (∀ f' H' kvs, Ext f H f' H' → StR K f' Z H' st' → Prs K f' Z H' ps kvs → Q (kvs.map fun kv => (kV kv.1, kv.2)) H') → tPairs (l.map fun p => (tEv K ow .C p.1, tEv K ow .C p.2)) σ H Q
  | [], ρ, st, st', ps, f, Z, H, Q, E, e, q => by
    cases e
    exact q f H [] E.self E.st .nil
  | (k, v) :: r, ρ, st, st', ps, f, Z, H, Q, E, e, q => by
    obtain ⟨x, st1, e1, e⟩ := R.bind_eq (show (k ρ st).bind _ = _ from e)
    cases hk : keyD x with
    | none => rw [hk] at e; cases e
    | some kk =>
      rw [hk, onO_some] at e
      obtain ⟨y, st2, e2, e⟩ := R.bind_eq e
      obtain ⟨l', st3, e3, e⟩ := R.bind_eq e
      cases e
      refine ⟨f, Z, ρ, st, E, x, st1, e1, fun f1 H1 vx x1 ⟨S1, r1⟩ => ?_⟩
      refine ⟨f1, Z, ρ, st1, E.ext x1 S1, y, st2, e2, fun f2 H2 vy x2 ⟨S2, r2⟩ => ?_⟩
      obtain ⟨ev, ko⟩ := keyD_rel hk r1
      subst ev
      exact tPairs_of ((E.ext x1 S1).ext x2 S2) e3 fun f3 H3 kvs x3 S3 r3 => q f3 H3 ((kk, vy) :: kvs) ((x1.trans x2).trans x3) S3 (.cons (r2.frm x3.frm) ko r3)
theorem mPairs_len : ∀ {l : List (EM × EM)} {ρ : Env} {st st' : Store} {ps : List (Key × D)}, mPairs l ρ st = .ok ps st' → ps.length = l.length
  | [], _, _, _, _, e => by cases e; rfl
  | (k, v) :: r, ρ, st, st', ps, e => by
    obtain ⟨x, st1, e1, e⟩ := R.bind_eq (show (k ρ st).bind _ = _ from e)
    cases hk : keyD x with
    | none => rw [hk] at e; cases e
    | some kk =>
      rw [hk, onO_some] at e
      obtain ⟨y, st2, e2, e⟩ := R.bind_eq e
      obtain ⟨l', st3, e3, e⟩ := R.bind_eq e
      cases e
      simp [mPairs_len e3]
theorem pe_mDic {keys : List (Option Expr)} {values : List Expr} {l : List (EM × EM)} {pos : Pos} (h : PPs X pos keys values (l.map fun p => (tEv K ow .C p.1, tEv K ow .C p.2))) (hall : keys.all (·.isSome) = true) (hl : keys.length = values.length) (h0 : keys ≠ []) (h15 : keys.length ≤ 15) (hlen : l.length ≤ 15) :
    PE X (.Dict keys values pos) (tEv K ow .F (mDic l)) := pe_weak (pe_disp h hall hl h0 h15) fun σ H Q q => by
  obtain ⟨f, Z, ρ, st, E, d, st', e, q⟩ := q
  obtain ⟨ps, st1, e1, e⟩ := R.bind_eq (show (mPairs l ρ st).bind _ = _ from e)
  cases e
  intro p hp
  have k := keep_new (o := .dK []) hp
  have S1 := E.st.more (H' := upd H p (.dK [])) hp (by rw [upd_same]; trivial) k
  have F1 : Frm f Z H f (fun a => Z a ∨ a = p) (upd H p (.dK [])) := ⟨fun b o e n z => ⟨k b o e, n, fun q => q.elim z fun q => ne_of_none e hp q⟩, [], by simp⟩
  have E1 : ER K ow f (fun a => Z a ∨ a = p) (upd H p (.dK [])) σ ρ st := ⟨S1, E.len, fun i d e => by
    obtain ⟨v, h1, t, r⟩ := E.sl i d e
    refine ⟨v, h1, ?_, fun hi => (r hi).frm F1⟩
    cases t with
    | rp h => exact .rp (h.frm F1)
    | lst h r2 => exact .lst (h.frm (Ext.same E.st k).frm) (r2.frm F1)
    | dic h r2 l k2 => exact .dic (h.frm (Ext.same E.st k).frm) (r2.frm F1) l k2⟩
  refine tPairs_of E1 e1 fun f2 H2 kvs x2 S2 r2 => ?_
  have hp2 : H2 p = some (.dK []) := x2.keep p _ upd_same (S1.zt p (.inr rfl)).1
  refine ⟨hp2, kvs, rfl, by rw [← r2.length, mPairs_len e1]; exact hlen, ?_⟩
  obtain ⟨vs', m1, m2, m3, m4⟩ := r2.merge0
  rw [m1]
  have hz : ((mergeP ps).1.zip vs').length ≤ sizeLine := by
    rw [← m1]
    have := length_mergeK kvs []
    rw [← r2.length, mPairs_len e1] at this
    exact Nat.le_trans (Nat.le_trans this (by simpa using hlen)) (by decide)
  have pZ : ∀ b o, H b = some o → b ≠ p := fun b o e => ne_of_none e hp
  have pn2 : p ∉ f2 := (S2.zt p (.inr rfl)).1
  have F2 : Frm f2 (fun a => Z a ∨ a = p) H2 f2 (fun a => Z a ∨ a = p) (upd H2 p (.dK ((mergeP ps).1.zip vs'))) := ⟨fun b o e n z => ⟨by rw [upd_ne fun q => z (.inr q)]; exact e, n, z⟩, [], by simp⟩
  have S3 : StR K f2 (fun a => Z a ∨ a = p) (upd H2 p (.dK ((mergeP ps).1.zip vs'))) _ := S2.updZ _ (.inr rfl) trivial
  have X1 : Ext f H f2 H2 := (Ext.same E.st k).trans x2
  have X3 : Ext f H f2 (upd H2 p (.dK ((mergeP ps).1.zip vs'))) := ⟨fun b o e n => by rw [upd_ne (pZ b o e)]; exact X1.keep b o e n, X1.pre, S3.live⟩
  exact q f2 _ (.ref p) X3 ⟨fun e => (nomatch e), fun _ => ⟨p, rfl, hp, S3, .dic ⟨upd_same, pn2, fun z => z, hz⟩ (m2.frm F2) m3 m4⟩⟩
end
end SH

namespace SH
open PySem PySem.Spec PyProof.Rows L2
section
variable {X : Cx} {pins : List (Addr × Obj)} {σ : L2.St} {H : Hp} {z : Shared}
theorem prs_of (I : Inv X pins σ H z) : ∀ {ps : List Addr} {kvs : List (L2.Key × V)}, Paired (fun p kv => SqT X.K H p [kV kv.1, kv.2]) ps kvs →
    ∃ l : List (L2.Key × Value × Value), KV kvs (l.map fun q => (q.1, q.2.2)) ∧ l.length = ps.length ∧ ∀ (j : Nat) (q : L2.Key × Value × Value), l[j]? = some q → ∃ b : Addr, ps[j]? = some b ∧ IsTup z.heap b #[q.2.1, q.2.2] ∧ keyIs q.1 q.2.1 = true
  | _, _, .nil => ⟨[], .nil, rfl, fun j q e => by simp at e⟩
  | _, _, .cons (a := p) (b := kv) h t => by
    obtain ⟨l, r, hl, hp⟩ := prs_of I t
    obtain ⟨its, rv, ht, _⟩ := I.tuple h
    obtain ⟨u, y, rfl, ru, ry⟩ := vals2 rv
    refine ⟨(kv.1, u, y) :: l, .cons ⟨rfl, ry⟩ r, by rw [List.length_cons, List.length_cons, hl], ?_⟩
    rintro (_ | j) q e
    · obtain rfl : (kv.1, u, y) = q := Option.some.inj e
      exact ⟨p, rfl, ht, kV_is (P := X.prog) (w := X.w) ru⟩
    · obtain ⟨b, g⟩ := hp j q (by simpa using e)
      exact ⟨b, by simpa using g⟩
def rDicT (K : Frag) : List V → Hp → VK → Prop := fun xs H Q => ∃ (a : Addr) (o : Obj) (ps : List Addr) (kvs : List (L2.Key × V)), xs = [.ref a] ∧ H a = some (.frz o (.tup (ps.map V.ref))) ∧ o.dict = none ∧ Paired (fun p kv => SqT K H p [kV kv.1, kv.2]) ps kvs ∧
  ∀ p, H p = none → Q (.ref p) (upd H p (.dK (mergeK [] kvs)))
theorem call_dicT (calm : X.calm = true) : CallR X (.type "dict") (rDicT X.K) := by
  intro pins z σ H xs us Q I r h
  obtain ⟨a, o, ps, kvs, rfl, ha, hd, hp, q⟩ := h
  obtain ⟨u, rfl, rx⟩ := vals1 r
  cases rx
  obtain ⟨at_, hz, its, rv, o', at2, hc, n, hdat⟩ := I.hok a _ ha
  rw [at_] at at2
  cases at2
  have ei := refs_at rv
  subst ei
  rw [List.length_map] at hz
  obtain ⟨l, rel, hl, hpr⟩ := prs_of I hp
  have P := PairArg.tuple (prog := X.prog) (w := X.w) a (ps.map Value.ref).toArray (fun j => ps.getD j 0) (l.map (·.2))
  refine PySem.call_dict_pairs (knd := mixKind X.prog X.w) (kvs := l.map fun q => (q.1, q.2.2)) P (I.ok.hd calm) ⟨⟨o, n, at_, hc, hd, hdat⟩, by simp [hl], fun j k v e => ?_⟩ ⟨by simp, fun i key v e => ?_⟩ (by simp [hl]; exact hz) fun h' tk hd' hk => ?_
  · rw [List.getElem?_map] at e
    obtain ⟨q, e1, e2⟩ := Option.map_eq_some_iff.mp e
    obtain ⟨b, g1, g2, _⟩ := hpr j q e1
    obtain ⟨c, w, y⟩ := q
    cases e2
    have gb : ps.getD j 0 = b := by simp [List.getD_eq_getElem?_getD, g1]
    exact ⟨by simp [g1, List.getD_eq_getElem?_getD], .inl (by show z.heap.IsTuple (ps.getD j 0) _; rw [gb]; exact g2)⟩
  · have e' : (l.map (·.2))[i]? = some (key, v) := e
    rw [List.getElem?_map] at e'
    obtain ⟨q, e1, e2⟩ := Option.map_eq_some_iff.mp e'
    obtain ⟨b, _, _, g3⟩ := hpr i q e1
    obtain ⟨c, w, y⟩ := q
    cases e2
    exact ⟨c, by rw [List.getElem?_map, e1]; rfl, g3⟩
  · have hm : (z.heap.objs.size == sysModules) = false := beq_eq_false_iff_ne.mpr (Nat.ne_of_gt I.big)
    have len : (mergeK [] kvs).length ≤ sizeLine := by
      refine Nat.le_trans (length_mergeK kvs []) ?_
      rw [List.length_nil, Nat.zero_add, rel.length, List.length_map, hl]
      exact hz
    refine ⟨.ref z.heap.objs.size, upd H z.heap.objs.size (.dK (mergeK [] kvs)), I.laid (t' := tk) (fun b u e => hk b u (by simp) e) (Nat.le_refl _) ?_, rfl, q _ (I.hok.fresh (Nat.le_refl _))⟩
    exact ⟨len, hm, merged [] (l.map fun q => (q.1, q.2.2)), KV.merge rel .nil, hd'⟩
end
end SH

namespace SH
open PySem L2
section
variable {K : Frag} {ow : List Nat} {f f' : List Addr} {Z : Addr → Prop} {H H' : Hp} {st st' : Store} {d : D} {v : V} {X : Cx} {o a b : Expr} {mo ma mb : EM} {σ : St} {ap cp : Pos}
def pairD : D → Option (Key × D)
  | .tup [x, y] => (keyD x).map fun k => (k, y)
  | _ => none
def pairsD : List D → Option (List (Key × D))
  | [] => some []
  | d :: r => (pairD d).bind fun p => (pairsD r).map (p :: ·)
def dictD : Store → D → Option D := fun _ x => match x with
  | .lst l => (pairsD l).map fun ps => .dic (mergeP ps).1 (mergeP ps).2
  | .tup l => (pairsD l).map fun ps => .dic (mergeP ps).1 (mergeP ps).2
  | .dic ks ds => some (.dic ks ds)
  | _ => none
theorem pairsD_rel : ∀ {l : List D} {vs : List V} {ps : List (Key × D)}, Rps K f Z H l vs → pairsD l = some ps → ∃ (as : List Addr) (kvs : List (Key × V)), vs = as.map V.ref ∧ Paired (fun p kv => SqT K H p [kV kv.1, kv.2]) as kvs ∧ Prs K f Z H ps kvs
  | _, _, ps, .nil, e => by
    cases e
    exact ⟨[], [], rfl, .nil, .nil⟩
  | _, _, ps, .cons (d := d) h r, e => by
    obtain ⟨⟨k, y⟩, e1, e⟩ := Option.bind_eq_some_iff.mp e
    obtain ⟨ps', e2, e3⟩ := Option.map_eq_some_iff.mp e
    subst e3
    obtain ⟨as, kvs, rfl, h1, h2⟩ := pairsD_rel r e2
    unfold pairD at e1
    split at e1
    · rename_i x0 y0
      obtain ⟨k', hk, e4⟩ := Option.map_eq_some_iff.mp e1
      cases e4
      cases h with
      | tup ta rs =>
        cases rs with
        | cons rx rs =>
          cases rs with
          | cons ry rs =>
            cases rs
            obtain ⟨ev, ko⟩ := keyD_rel hk rx
            subst ev
            exact ⟨_ :: as, (_, _) :: kvs, rfl, .cons ta.sq h1, .cons ry ko h2⟩
    · cases e1
theorem CallR.or {fv : Value} {r1 r2 : List V → Hp → VK → Prop} (h1 : CallR X fv r1) (h2 : CallR X fv r2) : CallR X fv (fun xs H Q => r1 xs H Q ∨ r2 xs H Q) :=
  fun pins s σ H xs us Q I r q => q.elim (h1 pins s σ H xs us Q I r) (h2 pins s σ H xs us Q I r)
def rDictA (K : Frag) : List V → Hp → VK → Prop := fun xs H Q => (∃ (a : Addr) (ps : List Addr) (kvs : List (Key × V)), xs = [.ref a] ∧ SqL K H a (ps.map V.ref) ∧ Paired (fun p kv => SqT K H p [kV kv.1, kv.2]) ps kvs ∧
    ∀ p, H p = none → Q (.ref p) (upd H p (.dK (mergeK [] kvs)))) ∨ rDicT K xs H Q ∨ ∃ (a : Addr) (kvs : List (Key × V)), xs = [.ref a] ∧ Rd H a (.dK kvs) ∧ ∀ p, H p = none → Q (.ref p) (upd H p (.dK kvs))
theorem call_dictA (calm : X.calm = true) : CallR X (.type "dict") (rDictA X.K) := CallR.or (call_dictP calm) (CallR.or (call_dicT calm) call_dictD)
theorem ok_dict : Op1Ok K .F dictD (fun x => rDictA K [x]) := by
  intro f Z H st x dx d Q S tx e q
  unfold dictD at e
  split at e
  · rename_i l
    obtain ⟨ps, e1, e2⟩ := Option.map_eq_some_iff.mp e
    subst e2
    obtain ⟨a, vs, rfl, h1, _, hz, r⟩ := tx.lst_at
    obtain ⟨as, kvs, rfl, h2, h3⟩ := pairsD_rel r e1
    refine .inl ⟨a, as, kvs, rfl, SqL.of h1, h2, fun p hp => ?_⟩
    obtain ⟨vs', m1, m2, m3, m4⟩ := h3.merge0
    rw [m1]
    have hl : ((mergeP ps).1.zip vs').length ≤ sizeLine := by
      rw [← m1]
      have z := length_mergeK kvs []
      have z2 : kvs.length = as.length := h2.length.symm
      rw [List.length_map] at hz
      simp only [List.length_nil, Nat.zero_add] at z
      omega
    obtain ⟨x2, r2⟩ := dic_new S m2 m3 m4 hp hl
    exact q _ _ x2 r2
  · rename_i l
    obtain ⟨ps, e1, e2⟩ := Option.map_eq_some_iff.mp e
    subst e2
    cases tx with
    | rp rx =>
      cases rx with
      | @tup a _ vs ta r =>
        obtain ⟨o, h1, ho, _, _, hz⟩ := ta
        obtain ⟨as, kvs, rfl, h2, h3⟩ := pairsD_rel r e1
        refine .inr (.inl ⟨a, o, as, kvs, rfl, h1, ho, h2, fun p hp => ?_⟩)
        obtain ⟨vs', m1, m2, m3, m4⟩ := h3.merge0
        rw [m1]
        have hl : ((mergeP ps).1.zip vs').length ≤ sizeLine := by
          rw [← m1]
          have z := length_mergeK kvs []
          have z2 : kvs.length = as.length := h2.length.symm
          rw [List.length_map] at hz
          simp only [List.length_nil, Nat.zero_add] at z
          omega
        obtain ⟨x2, r2⟩ := dic_new S m2 m3 m4 hp hl
        exact q _ _ x2 r2
  · rename_i ks ds
    cases e
    obtain ⟨a, vs, rfl, h1, _, hz, r, hlk, ko⟩ := tx.dic_at
    refine .inr (.inr ⟨a, _, rfl, Rd.of h1, fun p hp => ?_⟩)
    obtain ⟨x2, r2⟩ := dic_new S r hlk ko hp hz
    exact q _ _ x2 r2
  · cases e

def kgetD (tab : List (Str × Int)) : Store → D → D → Option D := fun _ y z => match y with
  | .str s => some (match (tab.find? fun p => decide (p.1 = s)) with
    | some p => .int p.2
    | none => z)
  | _ => none
structure KTab (X : Cx) (x : Str) (tab : List (Str × Int)) : Prop where
  ex : ∃ (d : Addr) (es : Array DictEntry) (n : Nat), X.mg x = some (.ref d) ∧ KDict X.K X.w d es n ∧ ∀ z : Str, (match (tab.find? fun p => decide (p.1 = z)) with
    | some p => ∃ t, PySem.W.nsIn X.K d z = some (some (.int p.2 t))
    | none => PySem.W.nsIn X.K d z = some none)
theorem pe_mKGet {x : Str} {p : Pos} {tab : List (Str × Int)} (T : KTab X x tab) (hl : X.env.scope.names.lookup x = some .globalImplicit) (hdb : (x == ("__debug__" : Str)) = false) (ha : PE X a (tEv K ow .C ma)) (hb : PE X b (tEv K ow .C mb)) (m : M2 X (.Name x p) "get" ap a b cp) :
    PE X (.Call (.Attribute (.Name x p) "get" ap) [a, b] [] cp) (tEv K ow .C (mOp2 (kgetD tab) ma mb)) := by
  refine ⟨fun pins s σ H Q I h => ?_⟩
  obtain ⟨d, es, n, hm, D, ht⟩ := T.ex
  obtain ⟨f, Z, ρ, st, E, dd, st', e, q⟩ := h
  obtain ⟨dy, st1, e1, e⟩ := R.bind_eq (show (ma ρ st).bind _ = _ from e)
  obtain ⟨dz, st2, e2, e⟩ := R.bind_eq e
  obtain ⟨e3, ste⟩ := liftO_ok e
  subst ste
  have hn : PE X (.Name x p) (tC (.ref d)) := pe_glob hl (v := .ref d) hm rfl hdb
  refine wpAny_Call_method m.base m.few m.line PySem.F.plainAttrs_dict PySem.F.slot_dict_get PySem.F.type_dict_get (thn (hn.run pins s σ H (fun v H1 => v = .ref d ∧ H1 = H) I ⟨rfl, rfl⟩) fun u s1 ⟨x, H1, I1, rx, ex, eH⟩ => ?_)
  subst ex eH
  obtain rfl : u = Value.ref d := rx
  refine ⟨kd_type D I1, fun b eb => ?_, ?_⟩
  · cases eb
    exact ⟨_, I1.kIn _ _ D.at_, rfl⟩
  rw [m.trees]
  refine Calls.callWith_builtin rfl (Calls.evalArgs_plain (Calls.spliced_cons (thn (ha.run pins s1 σ H1 (fun y H2 => ∃ f1, Ext f H1 f1 H2 ∧ StR K f1 Z H2 st1 ∧ Rp K f1 Z H2 dy y) I1 ⟨f, Z, ρ, st, E, dy, st1, e1, fun f1 H2 y x1 ⟨S1, r1⟩ => ⟨f1, x1, S1, r1⟩⟩) fun iv s2 ⟨y, H2, I2, ry, f1, x1, S1, r1⟩ =>
    Calls.spliced_cons (thn (hb.run pins s2 σ H2 (fun z H3 => ∃ f2, Ext f1 H2 f2 H3 ∧ StR K f2 Z H3 st' ∧ Rp K f2 Z H3 dz z) I2 ⟨f1, Z, ρ, st1, E.ext x1 S1, dz, _, e2, fun f2 H3 z x2 ⟨S2, r2⟩ => ⟨f2, x2, S2, r2⟩⟩) fun fv s3 ⟨z, H3, I3, rz, f2, x2, S2, r2⟩ => Calls.spliced_nil ?_))))
  have hy : ∃ s, dy = .str s ∧ dd = (match (tab.find? fun p => decide (p.1 = s)) with
    | some p => .int p.2
    | none => dz) := by
    cases dy <;> first | (cases e3; exact ⟨_, rfl, rfl⟩) | cases e3
  obtain ⟨k, rfl, rfl⟩ := hy
  cases r1
  obtain ⟨t, rfl⟩ := ry
  have M := PySem.W.mapOf_K (prog := X.prog) (w := X.w) I3.kIn D.at_ D.lit
  refine call_meetsIn PySem.F.slot_dict_get (kd_type D I3) PySem.F.entry_dict_get (PySem.F.args_dict_get_3 _ _ _) (meets_dict_get_default (PySem.strKind X.prog X.w) d (PySem.strKind_is X.prog X.w k t) D.low fv) ⟨_, M, ?_⟩
  have hk := ht k
  cases hf : tab.find? (fun p => decide (p.1 = k)) with
  | none =>
    rw [hf] at hk q
    rw [PySem.W.find_K D.at_ hk]
    exact ⟨z, H3, I3.tok _, rz, q f2 H3 z (x1.trans x2) ⟨S2, r2⟩⟩
  | some p =>
    rw [hf] at hk q
    obtain ⟨t', hk⟩ := hk
    rw [PySem.W.find_K D.at_ hk]
    exact ⟨.int p.2, H3, I3.tok _, ⟨t', rfl⟩, q f2 H3 _ (x1.trans x2) ⟨S2, .int _⟩⟩
end
end SH

namespace SH
open PySem L2 PySem.W PyProof.Rows
/-- a lambda's scope: one parameter -/
structure Lam1 (scope : Scope) (x : Str) : Prop where
  kind : scope.kind = .function
  co : scope.isCoroutine = false
  gen : scope.isGenerator = false
  own : scope.names.lookup x = some .local
  nocell : ∀ y ∈ scope.names, y.2 ≠ .cell
  nofree : ∀ y ∈ scope.names, y.2 ≠ .free
section
variable {prog : Program} {w : World} {A : Around} {s : Shared}
/-- the lambda's own call -/
theorem call_row0 {f c' t : Addr} {q k x : Str} {params : Arguments} {scope : Scope} {pm ctv : Value} {u : Tok} {items : Array Value} {p1 p2 p3 : Pos} {j : Nat} (L : Lam1 scope x) (room : A.depth < recursionLimit) (lim : s.heap.NoLimit)
    (of : s.heap.get? f = some (kla_obj "<lambda>" q params (.Subscript (.Name x p1) (.Constant (.int 0) j p2) p3) scope [] pm c' ctv)) (cr : s.heap.CodeRec (.ref c') q)
    (hb : ∀ v, bindArgs (kla_fn "<lambda>" q params (.Subscript (.Name x p1) (.Constant (.int 0) j p2) p3) scope [] pm (.ref c') ctv) ⟨[v], []⟩ = pure [(x, v)]) (hdb : (x == ("__debug__" : Str)) = false) (ht : IsTup s.heap t items) (h0 : items[0]? = some (.str k u)) :
    wpAny (model prog w) A (call (.ref f) [.ref t]) (KeyPure (.str k) s) (fun _ _ => False) s := by
  refine wpAny_call (kla_callFunE room of rfl L.co L.gen rfl cr ?_)
  rw [hb]
  refine wpAny_pure (wpAny_newFunctionEnv L.nocell (fun y hy => ?_) (fun h1 hns hsb => ⟨lim.fresh _ hsb, ?_⟩) L.kind)
  · rw [List.mem_singleton.mp hy]
    exact L.own
  have keep : ∀ b o, s.heap.get? b = some o → h1.get? b = some o := fun b o e => hsb.extBut b o (Nat.ne_of_lt (Heap.lt_size e)) (Heap.get?_push_of_some _ e)
  refine kla_codeExpr (wpAny_mono (Q := KeyPure (.str k) s) (E := fun _ _ => False) ?_ (fun v s' h => h) fun e s' h => h.elim)
  have hv : (fun y => ([(x, Value.ref t)] : List (Str × Value)).reverse.lookup y) x = some (.ref t) := by simp
  refine Subscript_ (wpAny_Name (wpAny_loadName_local L.kind L.own hns hv ?_) hdb)
  refine wpAny_Constant_int ?_
  have ht' : IsTup h1 t items := by
    obtain ⟨o, ho, r⟩ := ht
    exact ⟨o, keep _ _ ho, r⟩
  have hsz : 0 < items.size := (Array.getElem?_eq_some_iff.mp h0).1
  refine item_tuple ht' (by decide) (by decide) (j := 0) ?_ h0 ?_
  · have hp : decide ((0 : Int) < ((items.size : Nat) : Int)) = true := decide_eq_true (by omega)
    show (if (decide ((0 : Int) ≤ 0) && decide ((0 : Int) < ((items.size : Nat) : Int))) = true then some (0 : Int).toNat else none) = some 0
    rw [hp]
    rfl
  · exact ⟨_, _, rfl, keep, .str _ _⟩
end
def rowKey : D → Str
  | .tup (.str k :: _) => k
  | _ => Str.empty
def isRow : D → Bool
  | .tup (.str _ :: _) => true
  | _ => false
def leRow (a b : D) : Bool := decide ((rowKey a).cps.toList ≤ (rowKey b).cps.toList)
def sortKeyD : Store → D → Option D := fun _ x => match x with
  | .lst l => if l.all isRow = true then some (.lst (l.mergeSort leRow)) else none
  | _ => none
def mSortKey (j : Nat) (q : Str) (P : Addr) (m : EM) : EM := fun ρ st => (m ρ st).bind fun x st1 => match st1[j]? with
  | some (.tab q' P') => if q' = q ∧ P' = P then liftO (sortKeyD st1 x) st1 else .bad
  | _ => .bad
section
variable {K : Frag} {ow : List Nat} {f f' : List Addr} {Z : Addr → Prop} {H H' : Hp} {st st' : Store} {d : D} {v : V} {X : Cx} {a : Expr} {ma : EM} {σ : L2.St}
/-- a row with the value it is read of -/
abbrev DV := D × V
theorem each_of : ∀ {l : List D} {vs : List V} {us : List Value}, Rps K f Z H l vs → Vals vs us → EachIs (fun (u : Value) (p : DV) => RelV p.2 u ∧ Rp K f Z H p.1 p.2) us (l.zip vs)
  | _, _, _, .nil, .nil => .nil
  | _, _, _, .cons h r, .cons g t => .cons ⟨g, h⟩ (each_of r t)
theorem of_each : ∀ {ps : List DV} {us : List Value}, EachIs (fun (u : Value) (p : DV) => RelV p.2 u ∧ Rp K f Z H p.1 p.2) us ps → Rps K f Z H (ps.map (·.1)) (ps.map (·.2)) ∧ Vals (ps.map (·.2)) us
  | _, _, .nil => ⟨.nil, .nil⟩
  | _, _, .cons ⟨h, g⟩ t => by
    obtain ⟨r1, r2⟩ := of_each t
    exact ⟨.cons g r1, .cons h r2⟩
theorem zip_fst {l : List D} {vs : List V} (r : Rps K f Z H l vs) : (l.zip vs).map (·.1) = l := List.map_fst_zip (by rw [r.length]; exact Nat.le_refl _)
/-- the lambda is made: its code object is an old one, or a new one that the table names -/
def LamStep (H H1 : Hp) (P : Addr) (q : Str) (ps : Array Value) (c : Addr) : Prop := (H1 = H ∧ H c = some (LamX.CodeO c q)) ∨ (H c = none ∧ ∃ qs : Array Value, H1 = upd (upd H P (.tbl qs)) c (LamX.CodeO c q) ∧ TriplesOk qs.toList ∧
  ∀ (pos : Pos) (cv : Value), codeAmong pos qs.toList = some cv → codeAmong pos ps.toList = some cv ∨ cv = .ref c)
theorem lam_new {pins : List (Addr × Obj)} {s : Shared} {c P : Addr} {ps : Array Value} {params : Arguments} {body : Expr} {scope : Scope} {pos : Pos} {E : Value → Shared → Prop} {Q : Value → Shared → Prop} (I : Inv X pins σ H s) (TB : LamX.TabB X.base X.mg c P) (hcode : X.env.code = .ref c)
    (hP : H P = some (.tbl ps)) (ht : TriplesOk ps.toList) (ha : ∀ (pos : Pos) (cv : Value), codeAmong pos ps.toList = some cv → ∃ c, cv = .ref c ∧ H c = some (LamX.CodeO c (X.env.qual ++ "<lambda>"))) (hdef : defaultsOf params X.env = ([], [])) (hcl : closureFor scope X.env = pure [])
    (h : ∀ (f c' : Addr) (pm ctv : Value) (H1 : Hp) (s' : Shared), Inv X pins σ H1 s' → LamStep H H1 P (X.env.qual ++ "<lambda>") ps c' → s'.heap.get? f = some (kla_obj "<lambda>" (X.env.qual ++ "<lambda>") params body scope [] pm c' ctv) → H1 c' = some (LamX.CodeO c' (X.env.qual ++ "<lambda>")) → Q (.ref f) s') :
    wpAny (model X.prog X.w) X.A (eval (.Lambda params body scope pos) X.env) Q E s := by
  have b0 : s.heap.BuiltinsAt X.mg P := TB.bm.keeps I.bk
  have t0 : s.heap.get? P = some { cls := .none, data := .fields ps } := I.hok P _ hP
  refine kla_eval hdef ?_
  cases hm : codeAmong pos ps.toList with
  | some cv =>
    obtain ⟨c', rfl, hc⟩ := ha pos cv hm
    refine kla_makeFunctionHit (c := c) hcl I.ok.glob (I.mod.glob.keeps I.bk) hcode (TB.code.keeps I.bk) t0 ht hm b0 fun ctv h' tk kp hz => ?_
    exact h _ c' _ ctv H _ (I.kept fun b o e => Heap.get?_push_of_some _ (kp b o e)) (.inl ⟨rfl, hc⟩) (Heap.get?_push_size _ rfl) hc
  | none =>
    refine kla_makeFunction (c := c) hcl I.ok.glob (I.mod.glob.keeps I.bk) hcode (TB.code.keeps I.bk) t0 ht hm TB.gP b0 fun c' ctv h' tk kp hge hlt cr ht' => ?_
    obtain ⟨c2, oc, vs, t, e2, e3, e4, e5⟩ := cr
    cases e2
    have nc : H c' = none := I.hok.fresh hge
    have el : (ps ++ #[rawInt pos.line, rawInt pos.col, Value.ref c']).toList = ps.toList ++ [rawInt pos.line, rawInt pos.col, Value.ref c'] := by simp
    have J := LamX.inv_table (t' := tk) (more := #[rawInt pos.line, rawInt pos.col, .ref c']) (h' := h'.push (kla_obj "<lambda>" (X.env.qual ++ "<lambda>") params body scope [] ((X.mg "__name__").getD .none) c' ctv)) I hP
      (fun b o hb e => Heap.get?_push_of_some _ (kp b o hb e)) (Heap.get?_push_of_some _ ht') hge ⟨oc, vs, t, Heap.get?_push_of_some _ e3, e4, e5⟩
    refine h _ c' _ ctv _ _ J (.inr ⟨nc, _, rfl, ?_, fun p cv hcv => ?_⟩) (Heap.get?_push_size _ rfl) upd_same
    · rw [el]; exact TriplesOk_snoc _ _ _ _ ht
    · rw [el] at hcv
      exact LamX.among_app _ ht hcv
theorem StR.lam {H1 : Hp} {n : Nat} {P c : Addr} {q : Str} {ps : Array Value} (S : StR K f Z H st) (hn : st[n]? = some (.tab q P)) (hP : H P = some (.tbl ps)) (x : LamStep H H1 P q ps c) : Ext f H f H1 ∧ StR K f Z H1 st := by
  rcases x with ⟨rfl, _⟩ | ⟨nc, qs, rfl, htr, hqs⟩
  · exact ⟨Ext.refl S.live, S⟩
  · have hl : n < f.length := by rw [S.len]; exact (List.getElem?_eq_some_iff.mp hn).1
    obtain ⟨eP, ps2, e1, e2, e3⟩ := S.at_ n _ _ hn (List.getElem?_eq_getElem hl)
    have hfn : f[n]? = some P := by rw [List.getElem?_eq_getElem hl, eP]
    rw [eP, hP] at e1
    cases e1
    have Pf : P ∈ f := List.mem_of_getElem? hfn
    obtain ⟨cf, cz⟩ := S.fresh nc
    have Pc : P ≠ c := fun z => cf (z ▸ Pf)
    have up : ∀ b, b ≠ P → b ≠ c → upd (upd H P (.tbl qs)) c (LamX.CodeO c q) b = H b := fun b h1 h2 => by rw [upd_ne h2, upd_ne h1]
    have keep : ∀ b o, H b = some o → b ∉ f → upd (upd H P (.tbl qs)) c (LamX.CodeO c q) b = some o := fun b o e nf => by
      rw [up b (fun z => nf (z ▸ Pf)) (ne_of_none e nc)]
      exact e
    have F : Frm f Z H f Z (upd (upd H P (.tbl qs)) c (LamX.CodeO c q)) := ⟨fun b o e nf z => ⟨keep b o e nf, nf, z⟩, [], by simp⟩
    have S1 : StR K f Z (upd (upd H P (.tbl qs)) c (LamX.CodeO c q)) st := by
      refine ⟨S.nd, S.len, fun m o a e1 e2 => ?_, fun a z => ⟨(S.zt a z).1, ?_⟩⟩
      · by_cases hmn : m = n
        · subst hmn
          rw [hn] at e1
          rw [hfn] at e2
          cases e1
          cases e2
          refine ⟨rfl, qs, by rw [upd_ne Pc, upd_same], htr, fun pos cv hcv => ?_⟩
          rcases hqs pos cv hcv with g | g
          · obtain ⟨c0, a1, a2, a3, a4⟩ := e3 pos cv g
            exact ⟨c0, a1, keep _ _ a2 a3, a3, a4⟩
          · exact ⟨c, g, upd_same, cf, cz⟩
        · have ha : a ≠ P := fun z => by
            subst z
            exact hmn ((List.getElem?_inj (List.getElem?_eq_some_iff.mp e2).1 S.nd).mp (e2.trans hfn.symm))
          exact (S.at_ m o a e1 e2).frm F (up a ha fun z => cf (z ▸ List.mem_of_getElem? e2))
      · rw [up a (fun z' => (S.zt a z).1 (z' ▸ Pf)) (fun z' => cz (z' ▸ z))]
        exact (S.zt a z).2
    exact ⟨⟨keep, ⟨[], by simp⟩, S1.live⟩, S1⟩
theorem closure_nil {scope : Scope} {env : PySem.Env} (h : ∀ y ∈ scope.names, y.2 ≠ .free) : closureFor scope env = pure [] := by
  have e := closure_ok (scope := scope) (env := env) fun y hy z => absurd z (h y hy)
  have hn : ∀ (l : List (Str × NameKind)), (∀ y ∈ l, y.2 ≠ .free) → cloFrom env.cells l [] = [] := by
    intro l
    induction l with
    | nil => intro _; rfl
    | cons y r ih =>
      intro hl
      have h1 := hl y List.mem_cons_self
      have h2 := ih fun z hz => hl z (List.mem_cons_of_mem _ hz)
      obtain ⟨a, b⟩ := y
      cases b <;> first | exact absurd rfl h1 | exact h2
  rw [hn _ h] at e
  exact e
def kwKey : Str := "key"
theorem leRow_key : dataLe false (fun p : DV => PyData.str (rowKey p.1)) = fun a b => leRow a.1 b.1 := dataLe_str _
theorem pe_mSortKey {n j k0 : Nat} {P c : Addr} {y : Str} {params : Arguments} {scope : Scope} {p p1 p2 p3 lp kp pos : Pos} (hK : X.K = K) (hc : X.calm = true) (hr : Room k0 X.A) (TB : LamX.TabB X.base X.mg c P) (hcode : X.env.code = .ref c)
    (hg : Gl X "sorted") (hm : X.mg "sorted" = none) (ha : PE X a (tEv K ow .T ma)) (hs : starEach (a :: []) X.env = (false, eval a X.env) :: starEach [] X.env) (L : Lam1 scope y) (hdef : defaultsOf params X.env = ([], [])) (hdb : (y == ("__debug__" : Str)) = false)
    (hbind : ∀ (q : Str) (pm cv ctv v : Value), bindArgs (kla_fn "<lambda>" q params (.Subscript (.Name y p1) (.Constant (.int 0) j p2) p3) scope [] pm cv ctv) ⟨[v], []⟩ = pure [(y, v)]) :
    PE X (.Call (.Name "sorted" p) [a] [⟨some kwKey, .Lambda params (.Subscript (.Name y p1) (.Constant (.int 0) j p2) p3) scope lp, kp⟩] pos) (tEv K ow .F (mSortKey n (X.env.qual ++ "<lambda>") P ma)) := by
  subst hK
  refine ⟨fun pins s σ H Q I h => ?_⟩
  obtain ⟨f, Z, ρ, st, E, d, st', e, q⟩ := h
  obtain ⟨dx, st1, e1, e9⟩ := R.bind_eq (show (ma ρ st).bind _ = _ from e)
  cases hst : st1[n]? with
  | none => rw [hst] at e9; cases e9
  | some o =>
    cases o with
    | lst l => rw [hst] at e9; cases e9
    | tab q' P' =>
      rw [hst] at e9
      have e10 : (if q' = X.env.qual ++ "<lambda>" ∧ P' = P then liftO (sortKeyD st1 dx) st1 else .bad) = R.ok d st' := e9
      by_cases hq : q' = X.env.qual ++ "<lambda>" ∧ P' = P
      · rw [if_pos hq] at e10
        obtain ⟨rfl, rfl⟩ := hq
        obtain ⟨e2, ste⟩ := liftO_ok e10
        subst ste
        have hl : ∃ l, dx = .lst l ∧ l.all isRow = true ∧ d = .lst (l.mergeSort leRow) := by
          cases dx with
          | lst l =>
            unfold sortKeyD at e2
            dsimp only at e2
            split at e2
            · rename_i h
              cases e2
              exact ⟨l, rfl, h, rfl⟩
            · cases e2
          | _ => cases e2
        obtain ⟨l, rfl, hrow, rfl⟩ := hl
        refine wpAny_Call_Name_kw (ld_blt (u := .builtin "sorted") I hg hm (by decide +kernel) ?_ (by decide) (by decide))
        have hA := (pa_cons ha pa_nil hs).run pos pins s σ H (fun vs H1 => ∃ (x : V) (f1 : List Addr), vs = [x] ∧ Ext f H f1 H1 ∧ StR X.K f1 Z H1 st' ∧ Tp X.K f1 Z H1 (.lst l) x) I ⟨f, Z, ρ, st, E, _, _, e1, fun f1 H1 x x1 ⟨S1, t1⟩ => ⟨x, f1, rfl, x1, S1, t1⟩⟩
        refine PyProof.Rows.callWith_kw (thn hA fun us s1 ⟨vs, H1, I1, r1, x, f1, ex, x1, S1, t1⟩ => ?_) (by rw [hs]; rfl) (by rw [hs]; rfl) rfl rfl
        subst ex
        obtain ⟨b, ws, rfl, hb, hbf, hz, r⟩ := t1.lst_at
        obtain rfl := Vals.ref1 r1
        have hnl : n < f1.length := by rw [S1.len]; exact (List.getElem?_eq_some_iff.mp hst).1
        obtain ⟨eP, ps, hP, htr, hps⟩ := S1.at_ n _ f1[n] hst (List.getElem?_eq_getElem hnl)
        rw [eP] at hP
        show wpAny _ _ (evalAll ((do let v ← eval (.Lambda params (.Subscript (.Name y p1) (.Constant (.int 0) j p2) p3) scope lp) X.env; standAt pos; pure v) :: [])) _ _ s1
        refine wpAny_evalAll_cons (wpAny_bind (lam_new I1 TB hcode hP htr (fun pos cv hcv => by
          obtain ⟨c0, a1, a2, _⟩ := hps pos cv hcv
          exact ⟨c0, a1, a2⟩) hdef (closure_nil L.nofree) fun fa c' pm ctv H2 s2 I2 step of hco => wpAny_bind (wpAny_standAt (wpAny_pure (wpAny_evalAll_nil ?_)))))
        obtain ⟨x2, S2⟩ := S1.lam hst hP step
        have hb2 := x2.keep b _ hb hbf
        have r2 := r.frm (x2.frm (Z := Z))
        obtain ⟨its, rv, pl, hsz⟩ := I2.list (SqL.of hb2)
        have ea := each_of r2 rv
        obtain ⟨oc, vs2, t2, hoc, hd2, hv2⟩ := (I2.hok c' _ hco).1
        have rowOf : ∀ p ∈ l.zip ws, isRow p.1 = true := fun p hp => List.all_eq_true.mp hrow _ (List.of_mem_zip hp).1
        refine sorted_key_data (kw := [(kwKey, .ref fa)]) (b := false) (fun p : DV => PyData.str (rowKey p.1)) pl.isList ea ?_ ?_ ?_ ?_ (ksk_s1 _ _) (fun _ => ksk_l1 _ _) (fun _ => ksk_t1 _ _) ?_ ?_
        · exact AllAlike.of (enc := fun p : DV => PyData.str (rowKey p.1)) fun _ _ => rfl
        · exact Sortable.others (enc := fun p : DV => PyData.str (rowKey p.1)) fun _ => ⟨fun z => (nomatch z), fun _ z => nomatch z⟩
        · rw [List.length_zip, r.length]
          exact Nat.le_trans (Nat.min_le_right _ _) hz
        · intro p hp
          have := hr.un
          show X.A.units + 2 + (PyData.str (rowKey p.1)).depth < cLine
          have e0 : (PyData.str (rowKey p.1)).depth ≤ 2 := by simp [PyData.depth]
          omega
        · intro v p ⟨rv1, rp1⟩ hp h tk kp
          have hrw := rowOf p hp
          obtain ⟨dp, vp⟩ := p
          cases rp1 with
          | tup ta rs =>
            obtain ⟨its2, rr, pt, hz2⟩ := I2.tuple ta.sq
            cases rs with
            | nil => cases hrw
            | cons r0 rs =>
              cases r0 with
              | str k ok =>
                cases rr with
                | @cons _ u1 _ us1 rk rr =>
                  obtain ⟨u, rfl⟩ := rk
                  obtain rfl : v = Value.ref _ := rv1
                  have g0 : ∀ (u' : Value) (r' : List Value), (u' :: r').toArray[0]? = some u' := fun _ _ => by simp
                  refine call_row0 (k := k) (items := (Value.str k u :: us1).toArray) (s := { s2 with heap := h, toks := tk }) (u := u) L (by have := hr.dp; show X.A.depth < _; omega) (I2.nolimit.keeps kp) (kp _ _ of) ⟨c', oc, vs2, t2, rfl, kp _ _ hoc, hd2, hv2⟩ (fun v => hbind _ _ _ _ v) hdb ?_ (g0 _ _)
                  obtain ⟨o, ho, rest⟩ := pt
                  exact ⟨o, kp _ _ ho, rest⟩
              | _ => cases hrw
          | _ => cases hrw
        · intro out cc h' tk kp nw at1 hlen eo
          rw [leRow_key] at eo
          obtain ⟨ro, vo⟩ := of_each eo
          have e1 : ((l.zip ws).mergeSort fun a b => leRow a.1 b.1).map (·.1) = l.mergeSort leRow := by
            rw [List.map_mergeSort (r := fun a b : DV => leRow a.1 b.1) (s := leRow) (f := fun p : DV => p.1) (fun a _ b _ => rfl), zip_fst r]
          rw [e1] at ro
          have hp : H2 (s2.heap.objs.size + 1) = none := I2.hok.fresh (Nat.le_succ _)
          have hlz : (((l.zip ws).mergeSort fun a b => leRow a.1 b.1).map (·.2)).length ≤ sizeLine := by
            rw [List.length_map, List.length_mergeSort, List.length_zip, r.length]
            exact Nat.le_trans (Nat.min_le_right _ _) hz
          obtain ⟨x3, p3⟩ := lst_new S2 ro hp hlz
          exact ⟨.ref _, upd H2 (s2.heap.objs.size + 1) (.lst (((l.zip ws).mergeSort fun a b => leRow a.1 b.1).map (·.2))), I2.laid (t' := tk) kp (Nat.le_succ _) ⟨hlz, out, cc, vo, at1⟩, rfl, q f1 _ _ (x1.trans (x2.trans x3)) (p3.from (x1.trans x2))⟩
      · rw [if_neg hq] at e10
        cases e10
end
end SH

namespace SH
open PySem L2
structure Gam where
  N : List Str
  ow : List Nat
  fns : List (Str × Nat × Bool)
  free : List Str
  cons : List (Str × D)
  keep : Bool
  tabs : List (Str × List (Str × Int)) := []
  lam : Option (Nat × Addr × Str) := none
abbrev EK := Kd × EM
abbrev Den := Gam → Scope → Expr → Option EK
def look {α : Type} (l : List (Str × α)) (x : Str) : Option α := (l.find? fun p => decide (p.1 = x)).map (·.2)
theorem look_mem {α : Type} {l : List (Str × α)} {x : Str} {a : α} (h : look l x = some a) : (x, a) ∈ l := by
  unfold look at h
  obtain ⟨p, hp, rfl⟩ := Option.map_eq_some_iff.mp h
  have h1 := List.find?_some hp
  have h2 := List.mem_of_find?_eq_some hp
  simp only [decide_eq_true_eq] at h1
  rw [← h1]
  exact h2
def ixOf (N : List Str) (x : Str) : Option Nat := match N.findIdx? fun y => decide (y = x) with
  | some i => if N[i]? = some x then some i else none
  | none => none
theorem ixOf_ok {N : List Str} {x : Str} {i : Nat} (h : ixOf N x = some i) : N[i]? = some x := by
  unfold ixOf at h
  split at h
  · split at h
    · cases h; assumption
    · cases h
  · cases h
def okNm (x : Str) : Bool := !(x == ("__debug__" : Str)) && !(x == ("__classdict__" : Str)) && decide (x ≠ ("__name__" : Str))
theorem okNm_ok {x : Str} (h : okNm x = true) : (x == ("__debug__" : Str)) = false ∧ (x == ("__classdict__" : Str)) = false ∧ x ≠ ("__name__" : Str) := by
  unfold okNm at h
  simp only [Bool.and_eq_true, decide_eq_true_eq, Bool.not_eq_true'] at h
  exact ⟨h.1.1, h.1.2, h.2⟩
def needC (p : EK) : Option EM := match p.1 with
  | .T => none
  | _ => some p.2
structure GamOk (T : List FnDef) (nn : Nat) (Γ : Gam) (X : Cx) : Prop where
  N : X.N = Γ.N
  nd : Γ.N.Nodup
  calm : X.calm = true
  gd : X.A.guards = some []
  room : Room nn X.A
  xe : X.xe = fun _ _ => False
  fns : ∀ p ∈ Γ.fns, FnAt X T nn p.2.1 p.1 ∧ kdOf T p.2.1 = (if p.2.2 = true then .F else .C)
  free : ∀ x ∈ Γ.free, X.mg x = none
  cons : ∀ p ∈ Γ.cons, ∃ v u, X.mg p.1 = some u ∧ RelV v u ∧ ∀ f Z H, Rp X.K f Z H p.2 v
  tabs : ∀ p ∈ Γ.tabs, KTab X p.1 p.2
  lam : ∀ n P q, Γ.lam = some (n, P, q) → X.env.qual = q ∧ ∃ c, X.env.code = .ref c ∧ LamX.TabB X.base X.mg c P
def noIf : Expr → Bool
  | .IfExp .. => false
  | _ => true
structure ED (X : Cx) (ow : List Nat) (k : Kd) (e : Expr) (m : EM) : Prop where
  val : PE X e (tEv X.K ow k m)
  tst : k ≠ .T → noIf e = true → PT X e (tBv X.K ow m)
def noStar : Expr → Bool
  | .Starred .. => false
  | .Set .. => false
  | .Slice .. => false
  | _ => true
/-- one more turn of den is right if the turns below are -/
def Sound (T : List FnDef) (nn : Nat) (d : Den) : Prop := ∀ (Γ : Gam) (e : Expr) (k : Kd) (m : EM) (X : Cx), d Γ X.env.scope e = some (k, m) → GamOk T nn Γ X → ED X Γ.ow k e m ∧ noStar e = true
section
variable {T : List FnDef} {nn : Nat} {d : Den} {Γ : Gam} {X : Cx} {e : Expr} {k : Kd} {m : EM}
theorem ED.toT (h : ED X Γ.ow k e m) : PE X e (tEv X.K Γ.ow .T m) := by
  cases k with
  | T => exact h.val
  | C => exact pe_CT h.val
  | F => exact pe_FT h.val
theorem ED.toC (h : ED X Γ.ow k e m) {m' : EM} (hn : needC (k, m) = some m') : PE X e (tEv X.K Γ.ow .C m) ∧ m' = m ∧ k ≠ .T := by
  cases k with
  | T => cases hn
  | C => cases hn; exact ⟨h.val, rfl, by decide⟩
  | F => cases hn; exact ⟨pe_FC h.val, rfl, by decide⟩
theorem star_of (h : noStar e = true) (es : List Expr) : starEach (e :: es) X.env = (false, eval e X.env) :: starEach es X.env := by
  cases e <;> first | rfl | cases h
theorem marks_of (h : noStar e = true) (op : CmpOp) : behindInMarks op e = false := by
  cases e <;> first | rfl | cases h
theorem plainIx_of (h : noStar e = true) : PlainIx e := by
  intro o i
  cases e <;> first | rfl | cases h

theorem slot_fold (h : noStar e = true) (env : PySem.Env) (x : Value) : foldedSetIterable e env x = pure x := by
  cases e <;> first | rfl | cases h
/-- a plain expression's test -/
theorem tst_plain (h : PE X e (tEv X.K Γ.ow k m)) (hk : k ≠ .T) (he : ∀ whole, isTrue e X.env whole = (do let v ← whole; standAt e.pos; holding [v] (truthy v))) : PT X e (tBv X.K Γ.ow m) := pt_plain h hk he

def dName (Γ : Gam) (sc : Scope) (x : Str) : Option EK := if okNm x = true then (match sc.names.lookup x with
  | some .globalImplicit => (look Γ.cons x).map fun d => (.C, mLit d)
  | some .globalExplicit => none
  | some _ => (ixOf Γ.N x).map fun i => (if i ∈ Γ.ow then .T else .C, mVar i)
  | none => none) else none
theorem dName_ok {x : Str} {pos : Pos} (G : GamOk T nn Γ X) (h : dName Γ X.env.scope x = some (k, m)) : ED X Γ.ow k (.Name x pos) m := by
  unfold dName at h
  split at h
  · rename_i ho
    obtain ⟨o1, o2, o3⟩ := okNm_ok ho
    have main : PE X (.Name x pos) (tEv X.K Γ.ow k m) := by
      have loc : Vis X.env.scope x → (ixOf Γ.N x).map (fun i => ((if i ∈ Γ.ow then Kd.T else Kd.C), mVar i)) = some (k, m) → PE X (.Name x pos) (tEv X.K Γ.ow k m) := fun hv h => by
        obtain ⟨i, hi, e⟩ := Option.map_eq_some_iff.mp h
        have hN : X.N[i]? = some x := by rw [G.N]; exact ixOf_ok hi
        cases e
        by_cases hw : i ∈ Γ.ow
        · rw [if_pos hw]; exact pe_mVarT (pe_var hN hv o1 o2)
        · rw [if_neg hw]; exact pe_mVar (pe_var hN hv o1 o2) hw
      split at h
      · rename_i hl
        obtain ⟨d, hd, e⟩ := Option.map_eq_some_iff.mp h
        cases e
        obtain ⟨v, u, h1, h2, h3⟩ := G.cons _ (look_mem hd)
        exact pe_mLit (pe_glob hl h1 h2 o1) h3
      · cases h
      · rename_i kk h1 h2 hl
        refine loc ?_ h
        cases kk with
        | «local» => exact .inl hl
        | cell => exact .inr (.inl hl)
        | free => exact .inr (.inr hl)
        | globalExplicit => exact absurd rfl h2
        | globalImplicit => exact absurd rfl h1
      · cases h
    exact ⟨main, fun hk _ => tst_plain main hk fun _ => rfl⟩
  · cases h
def strOkB (s : Str) : Bool := PyData.strOk s && decide (s.length ≤ 1000)
def dConst (c : Const) : Option EK := match c with
  | .none => some (.C, mLit .non)
  | .bool b => some (.C, mLit (.bl b))
  | .int i => some (.C, mLit (.int i))
  | .str s => if strOkB s = true then some (.C, mLit (.str s)) else none
  | _ => none
theorem strOkB_ok {s : Str} (h : strOkB s = true) : StrOk s := by
  unfold strOkB at h
  simp only [Bool.and_eq_true, decide_eq_true_eq] at h
  exact ⟨h.1, Nat.le_trans h.2 (by decide)⟩
theorem dConst_ok {c : Const} {j : Nat} {pos : Pos} (h : dConst c = some (k, m)) : ED X Γ.ow k (.Constant c j pos) m := by
  have main : PE X (.Constant c j pos) (tEv X.K Γ.ow k m) := by
    unfold dConst at h
    split at h
    · cases h; exact pe_mLit pe_non fun _ _ _ => .non
    · cases h; exact pe_mLit pe_bl fun _ _ _ => .bl _
    · cases h; exact pe_mLit pe_int fun _ _ _ => .int _
    · split at h
      · rename_i hs
        cases h
        exact pe_mLit pe_str fun _ _ _ => .str _ (strOkB_ok hs)
      · cases h
    · cases h
  exact ⟨main, fun hk _ => tst_plain main hk fun _ => rfl⟩

def dList (d : Den) (Γ : Gam) (sc : Scope) : List Expr → Option (List EM)
  | [] => some []
  | e :: r => (d Γ sc e).bind fun p => (needC p).bind fun m => (dList d Γ sc r).map (m :: ·)
theorem dList_ok (S : Sound T nn d) (G : GamOk T nn Γ X) : ∀ {es : List Expr} {ms : List EM}, dList d Γ X.env.scope es = some ms → PA X es (tAv X.K Γ.ow (mArgs ms)) ∧ (∀ e ∈ es, noStar e = true) ∧ ms.length = es.length
  | [], ms, h => by cases h; exact ⟨pa_mNil, fun _ h => (nomatch h), rfl⟩
  | e :: r, ms, h => by
    unfold dList at h
    obtain ⟨⟨k, m⟩, h1, h⟩ := Option.bind_eq_some_iff.mp h
    obtain ⟨m', h2, h⟩ := Option.bind_eq_some_iff.mp h
    obtain ⟨ms', h3, h⟩ := Option.map_eq_some_iff.mp h
    subst h
    obtain ⟨p1, p2⟩ := S Γ e k m X h1 G
    obtain ⟨q1, rfl, _⟩ := p1.toC h2
    obtain ⟨r1, r2, r3⟩ := dList_ok S G h3
    exact ⟨pa_mCons q1 r1 (star_of p2 r), fun x hx => by
      rcases List.mem_cons.mp hx with rfl | hx
      · exact p2
      · exact r2 x hx, by simp [r3]⟩
def dTup (d : Den) (Γ : Gam) (sc : Scope) (es : List Expr) : Option EK := if es.length ≤ 1000 then (dList d Γ sc es).map fun ms => (.C, mTup ms) else none
def dLst (d : Den) (Γ : Gam) (sc : Scope) (es : List Expr) : Option EK := if es.length ≤ 1000 then (dList d Γ sc es).map fun ms => if Γ.keep = true then (.C, mNew ms) else (.F, mLst ms) else none
theorem dTup_ok {es : List Expr} {j : Nat} {pos : Pos} (S : Sound T nn d) (G : GamOk T nn Γ X) (h : dTup d Γ X.env.scope es = some (k, m)) : ED X Γ.ow k (.Tuple es j pos) m := by
  unfold dTup at h
  split at h
  · rename_i hl
    obtain ⟨ms, h1, e⟩ := Option.map_eq_some_iff.mp h
    cases e
    obtain ⟨r1, r2, r3⟩ := dList_ok S G h1
    have main := pe_mTup (kk := j) (pos := pos) r1 (Nat.le_trans (by rw [r3]; exact hl) (by decide))
    exact ⟨main, fun hk _ => tst_plain main hk fun _ => rfl⟩
  · cases h
theorem dLst_ok {es : List Expr} {pos : Pos} (S : Sound T nn d) (G : GamOk T nn Γ X) (h : dLst d Γ X.env.scope es = some (k, m)) : ED X Γ.ow k (.List es pos) m := by
  unfold dLst at h
  split at h
  · rename_i hl
    obtain ⟨ms, h1, e⟩ := Option.map_eq_some_iff.mp h
    obtain ⟨r1, r2, r3⟩ := dList_ok S G h1
    have hl' : ms.length ≤ sizeLine := Nat.le_trans (by rw [r3]; exact hl) (by decide)
    split at e
    · cases e
      have main := pe_mNew (pos := pos) r1 hl'
      exact ⟨main, fun hk _ => tst_plain main hk fun _ => rfl⟩
    · cases e
      have main := pe_mLst (pos := pos) r1 hl'
      exact ⟨main, fun hk _ => tst_plain main hk fun _ => rfl⟩
  · cases h

def binT : Operator → Option (Kd × (Store → D → D → Option D))
  | .Add => some (.F, addD)
  | .Sub => some (.C, subD)
  | .Mult => some (.F, mulD)
  | .FloorDiv => some (.C, fdivD)
  | .Mod => some (.C, modD)
  | .Pow => some (.C, powD)
  | _ => none
theorem binT_ok {op : Operator} {g : Store → D → D → Option D} (h : binT op = some (k, g)) : ∃ r, OpR X (binaryOp op) r ∧ Op2Ok X.K k g r := by
  cases op <;> first | cases h | skip
  · exact ⟨_, opr_add, ok_add⟩
  · exact ⟨_, op_sub, ok_sub⟩
  · exact ⟨_, opr_mul, ok_mul⟩
  · exact ⟨_, op_mod, ok_mod⟩
  · exact ⟨_, op_pow, ok_pow⟩
  · exact ⟨_, op_fdiv, ok_fdiv⟩
def cmpT : CmpOp → Store → D → D → Option D
  | .Eq => eqD false
  | .NotEq => eqD true
  | .Lt => ltD
  | .LtE => leD
  | .Gt => gtD
  | .GtE => geD
  | .Is => isND false
  | .IsNot => isND true
  | .In => inD false
  | .NotIn => inD true
theorem cmpT_ok (hu : X.A.units + 64 < cLine) (op : CmpOp) : ∃ r, OpR X (compareOp op) r ∧ Op2Ok X.K .C (cmpT op) r := by
  cases op
  · exact ⟨_, op_eqM hu, ok_eq false⟩
  · exact ⟨_, op_neM hu, ok_eq true⟩
  · exact ⟨_, opr_lt, ok_ord (fun i j => decide (i < j)) (fun a b => decide (a < b))⟩
  · exact ⟨_, opr_le, ok_ord (fun i j => decide (i ≤ j)) (fun a b => !decide (b < a))⟩
  · exact ⟨_, opr_gt, ok_ord (fun i j => decide (j < i)) (fun a b => decide (b < a))⟩
  · exact ⟨_, opr_ge, ok_ord (fun i j => decide (j ≤ i)) (fun a b => !decide (a < b))⟩
  · exact ⟨_, opr_is, ok_isN false⟩
  · exact ⟨_, opr_isnot, ok_isN true⟩
  · exact ⟨_, opr_in (by omega), ok_in false⟩
  · exact ⟨_, opr_notin (by omega), ok_in true⟩
theorem GamOk.hu (G : GamOk T nn Γ X) : X.A.units + 64 < cLine := G.room.units
def dBin (d : Den) (Γ : Gam) (sc : Scope) (a : Expr) (op : Operator) (b : Expr) : Option EK := (d Γ sc a).bind fun A => (d Γ sc b).bind fun B => (binT op).map fun g => (g.1, mOp2 g.2 A.2 B.2)
theorem dBin_ok {a b : Expr} {op : Operator} {pos : Pos} (S : Sound T nn d) (G : GamOk T nn Γ X) (h : dBin d Γ X.env.scope a op b = some (k, m)) : ED X Γ.ow k (.BinOp a op b pos) m := by
  obtain ⟨⟨ka, ma⟩, h1, h⟩ := Option.bind_eq_some_iff.mp h
  obtain ⟨⟨kb, mb⟩, h2, h⟩ := Option.bind_eq_some_iff.mp h
  obtain ⟨⟨kg, g⟩, h3, e⟩ := Option.map_eq_some_iff.mp h
  cases e
  obtain ⟨r, o1, o2⟩ := binT_ok (X := X) h3
  have main := pe_mBin (pos := pos) o1 o2 (S Γ a ka ma X h1 G).1.toT (S Γ b kb mb X h2 G).1.toT
  exact ⟨main, fun hk _ => tst_plain main hk fun _ => rfl⟩
def dUn (d : Den) (Γ : Gam) (sc : Scope) (op : UnaryOp) (a : Expr) : Option EK := match op with
  | .USub => (d Γ sc a).map fun A => (.C, mOp1 negD A.2)
  | .Not => (d Γ sc a).bind fun A => (needC A).bind fun ma => if noIf a = true then some (.C, mOp1 notD ma) else none
  | _ => none
theorem dUn_ok {a : Expr} {op : UnaryOp} {pos : Pos} (S : Sound T nn d) (G : GamOk T nn Γ X) (h : dUn d Γ X.env.scope op a = some (k, m)) : ED X Γ.ow k (.UnaryOp op a pos) m := by
  unfold dUn at h
  split at h
  · obtain ⟨⟨ka, ma⟩, h1, e⟩ := Option.map_eq_some_iff.mp h
    cases e
    have main := pe_mUn (k := .C) (pos := pos) un_neg ok_neg (S Γ a ka ma X h1 G).1.toT
    exact ⟨main, fun hk _ => tst_plain main hk fun _ => rfl⟩
  · obtain ⟨⟨ka, ma⟩, h1, h⟩ := Option.bind_eq_some_iff.mp h
    obtain ⟨ma', h2, h⟩ := Option.bind_eq_some_iff.mp h
    split at h
    · rename_i hn
      cases h
      obtain ⟨p1, _⟩ := S Γ a ka ma X h1 G
      obtain ⟨c1, rfl, ck⟩ := p1.toC h2
      exact ⟨pe_weak (pe_not c1) fun σ H Q q => tEv_not q, fun _ _ => PT.weak (pt_not (p1.tst ck hn)) fun σ H Q q => tBv_not q⟩
    · cases h
  · cases h
/-- and, or: from the right -/
def foldB (op : BoolOp) : List EM → Option EM
  | [] => none
  | [m] => some m
  | m :: r => (foldB op r).map fun M => match op with
    | .And => mAnd m M
    | .Or => mOr m M
def dBool (d : Den) (Γ : Gam) (sc : Scope) (op : BoolOp) (es : List Expr) : Option EK := if es.all noIf = true then (dList d Γ sc es).bind fun ms => (foldB op ms).map fun m => (.C, m) else none
theorem dBool_run {op : BoolOp} {pos : Pos} (S : Sound T nn d) (G : GamOk T nn Γ X) : ∀ {es : List Expr} {ms : List EM} {m : EM}, es.all noIf = true → dList d Γ X.env.scope es = some ms → foldB op ms = some m →
    PE X (.BoolOp op es pos) (tEv X.K Γ.ow .C m) ∧ PW X (.BoolOp op es pos) (tBv X.K Γ.ow m)
  | [], ms, m, _, h, hf => by cases h; cases hf
  | [e], ms, m, hn, h, hf => by
    unfold dList at h
    obtain ⟨⟨k, m1⟩, h1, h⟩ := Option.bind_eq_some_iff.mp h
    obtain ⟨m', h2, h⟩ := Option.bind_eq_some_iff.mp h
    obtain ⟨ms', h3, h⟩ := Option.map_eq_some_iff.mp h
    subst h
    cases h3
    cases hf
    obtain ⟨p1, _⟩ := S Γ e k m1 X h1 G
    obtain ⟨c1, rfl, ck⟩ := p1.toC h2
    have hn' : noIf e = true := by simpa using hn
    refine ⟨pe_one c1, ?_⟩
    cases op with
    | And => exact pw_and1 (p1.tst ck hn')
    | Or => exact pw_or1 (p1.tst ck hn')
  | e :: e2 :: r, ms, m, hn, h, hf => by
    unfold dList at h
    obtain ⟨⟨k, m1⟩, h1, h⟩ := Option.bind_eq_some_iff.mp h
    obtain ⟨m', h2, h⟩ := Option.bind_eq_some_iff.mp h
    obtain ⟨ms', h3, h⟩ := Option.map_eq_some_iff.mp h
    subst h
    obtain ⟨p1, _⟩ := S Γ e k m1 X h1 G
    obtain ⟨c1, rfl, ck⟩ := p1.toC h2
    simp only [List.all_cons, Bool.and_eq_true] at hn
    have hne : ∃ a b, ms' = a :: b := by
      have := (dList_ok S G h3).2.2
      cases ms' with
      | nil => simp at this
      | cons a b => exact ⟨a, b, rfl⟩
    obtain ⟨a, b, rfl⟩ := hne
    obtain ⟨M, hM, e'⟩ := Option.map_eq_some_iff.mp (show (foldB op (a :: b)).map _ = some m from hf)
    obtain ⟨q1, q2⟩ := dBool_run (pos := pos) S G (es := e2 :: r) (by simp only [List.all_cons, Bool.and_eq_true]; exact hn.2) h3 hM
    subst e'
    cases op with
    | And => exact ⟨pe_weak (pe_and c1 q1) fun σ H Q q => tEv_and q, PW.weak (pw_and (p1.tst ck hn.1) q2) fun σ H Q q => tBv_and q⟩
    | Or => exact ⟨pe_weak (pe_or c1 q1) fun σ H Q q => tEv_or q, PW.weak (pw_or (p1.tst ck hn.1) q2) fun σ H Q q => tBv_or q⟩
theorem dBool_ok {op : BoolOp} {es : List Expr} {pos : Pos} (S : Sound T nn d) (G : GamOk T nn Γ X) (h : dBool d Γ X.env.scope op es = some (k, m)) : ED X Γ.ow k (.BoolOp op es pos) m := by
  unfold dBool at h
  split at h
  · rename_i hn
    obtain ⟨ms, h1, h⟩ := Option.bind_eq_some_iff.mp h
    obtain ⟨m', h2, e⟩ := Option.map_eq_some_iff.mp h
    cases e
    obtain ⟨q1, q2⟩ := dBool_run (pos := pos) S G hn h1 h2
    exact ⟨q1, fun _ _ => q2.pt⟩
  · cases h
def dCmp (d : Den) (Γ : Gam) (sc : Scope) (a : Expr) (ops : List CmpOp) (bs : List Expr) : Option EK := match ops, bs with
  | [o], [b] => (d Γ sc a).bind fun A => (d Γ sc b).map fun B => (.C, mOp2 (cmpT o) A.2 B.2)
  | [o, o'], [b, c] => (d Γ sc a).bind fun A => (d Γ sc b).bind fun B => (d Γ sc c).map fun C => (.C, mChain (cmpT o) (cmpT o') A.2 B.2 C.2)
  | [o, o', o''], [b, c, c'] => (d Γ sc a).bind fun A => (d Γ sc b).bind fun B => (d Γ sc c).bind fun C => (d Γ sc c').map fun C' => (.C, mChain3 (cmpT o) (cmpT o') (cmpT o'') A.2 B.2 C.2 C'.2)
  | _, _ => none
theorem dCmp_ok {a : Expr} {ops : List CmpOp} {bs : List Expr} {pos : Pos} (S : Sound T nn d) (G : GamOk T nn Γ X) (h : dCmp d Γ X.env.scope a ops bs = some (k, m)) : ED X Γ.ow k (.Compare a ops bs pos) m := by
  unfold dCmp at h
  split at h
  · rename_i o b
    obtain ⟨⟨ka, ma⟩, h1, h⟩ := Option.bind_eq_some_iff.mp h
    obtain ⟨⟨kb, mb⟩, h2, e⟩ := Option.map_eq_some_iff.mp h
    cases e
    obtain ⟨r, o1, o2⟩ := cmpT_ok G.hu o
    have A := (S Γ a ka ma X h1 G).1.toT
    obtain ⟨B, nb⟩ := S Γ b kb mb X h2 G
    exact ⟨pe_mCmp o1 o2 A B.toT (marks_of nb o), fun _ _ => pt_mCmp o1 o2 A B.toT (marks_of nb o)⟩
  · rename_i o o' b c
    obtain ⟨⟨ka, ma⟩, h1, h⟩ := Option.bind_eq_some_iff.mp h
    obtain ⟨⟨kb, mb⟩, h2, h⟩ := Option.bind_eq_some_iff.mp h
    obtain ⟨⟨kc, mc⟩, h3, e⟩ := Option.map_eq_some_iff.mp h
    cases e
    obtain ⟨r, o1, o2⟩ := cmpT_ok G.hu o
    obtain ⟨r', o1', o2'⟩ := cmpT_ok G.hu o'
    have A := (S Γ a ka ma X h1 G).1.toT
    have B := (S Γ b kb mb X h2 G).1.toT
    obtain ⟨C, nc⟩ := S Γ c kc mc X h3 G
    have hm : lastMarks [o, o'] [b, c] = false := marks_of nc o'
    exact ⟨pe_weak (pe_chain o1 o1' A B C.toT hm) fun σ H Q q => tChain_of o2 o2' q, fun _ _ => PT.weak (pt_chain o1 o1' A B C.toT hm) fun σ H Q q => tChain_of o2 o2' (tB_of q)⟩
  · rename_i o o' o'' b c c'
    obtain ⟨⟨ka, ma⟩, h1, h⟩ := Option.bind_eq_some_iff.mp h
    obtain ⟨⟨kb, mb⟩, h2, h⟩ := Option.bind_eq_some_iff.mp h
    obtain ⟨⟨kc, mc⟩, h3, h⟩ := Option.bind_eq_some_iff.mp h
    obtain ⟨⟨kd, md⟩, h4, e⟩ := Option.map_eq_some_iff.mp h
    cases e
    obtain ⟨r, o1, o2⟩ := cmpT_ok G.hu o
    obtain ⟨r', o1', o2'⟩ := cmpT_ok G.hu o'
    obtain ⟨r'', o1'', o2''⟩ := cmpT_ok G.hu o''
    have A := (S Γ a ka ma X h1 G).1.toT
    have B := (S Γ b kb mb X h2 G).1.toT
    have C := (S Γ c kc mc X h3 G).1.toT
    obtain ⟨D', nd⟩ := S Γ c' kd md X h4 G
    have hm : lastMarks [o, o', o''] [b, c, c'] = false := marks_of nd o''
    exact ⟨pe_weak (pe_chain3 o1 o1' o1'' A B C D'.toT hm) fun σ H Q q => tChain3_of o2 o2' o2'' q, fun _ _ => PT.weak (pt_chain3 o1 o1' o1'' A B C D'.toT hm) fun σ H Q q => tChain3_of o2 o2' o2'' (tB_of q)⟩
  · cases h
def dIte (d : Den) (Γ : Gam) (sc : Scope) (c a b : Expr) : Option EK := if noIf c = true then (d Γ sc c).bind fun C => (needC C).bind fun mc => (d Γ sc a).bind fun A => (d Γ sc b).bind fun B =>
  if A.1 = B.1 then some (A.1, mIte mc A.2 B.2) else (needC A).bind fun ma => (needC B).map fun mb => (.C, mIte mc ma mb) else none
theorem dIte_ok {c a b : Expr} {pos : Pos} (S : Sound T nn d) (G : GamOk T nn Γ X) (h : dIte d Γ X.env.scope c a b = some (k, m)) : ED X Γ.ow k (.IfExp c a b pos) m := by
  unfold dIte at h
  split at h
  · rename_i hn
    obtain ⟨⟨kc, mc⟩, h1, g1⟩ := Option.bind_eq_some_iff.mp h
    obtain ⟨mc', h2, g2⟩ := Option.bind_eq_some_iff.mp g1
    obtain ⟨⟨ka, ma⟩, h3, g3⟩ := Option.bind_eq_some_iff.mp g2
    obtain ⟨⟨kb, mb⟩, h4, g4⟩ := Option.bind_eq_some_iff.mp g3
    clear h g1 g2 g3
    obtain ⟨p1, _⟩ := S Γ c kc mc X h1 G
    obtain ⟨c1, rfl, ck⟩ := p1.toC h2
    obtain ⟨A, _⟩ := S Γ a ka ma X h3 G
    obtain ⟨B, _⟩ := S Γ b kb mb X h4 G
    have tc := p1.tst ck hn
    refine ⟨?_, fun _ z => by cases z⟩
    split at g4
    · rename_i hk
      cases g4
      have hk' : ka = kb := hk
      subst hk'
      exact pe_weak (pe_ifExp tc A.val B.val) fun σ H Q q => tEv_ite q
    · obtain ⟨ma', h5, g5⟩ := Option.bind_eq_some_iff.mp g4
      obtain ⟨mb', h6, e⟩ := Option.map_eq_some_iff.mp g5
      cases e
      obtain ⟨a1, rfl, _⟩ := A.toC h5
      obtain ⟨b1, rfl, _⟩ := B.toC h6
      exact pe_weak (pe_ifExp tc a1 b1) fun σ H Q q => tEv_ite q
  · cases h
def dPart (d : Den) (Γ : Gam) (sc : Scope) : Option Expr → Option (Option EM)
  | none => some none
  | some e => (d Γ sc e).bind fun p => (needC p).map some
def dSub (d : Den) (Γ : Gam) (sc : Scope) (a i : Expr) : Option EK := match i with
  | .Slice none none (some (.UnaryOp .USub (.Constant (.int 1) _ _) _)) _ => (d Γ sc a).map fun A => (.C, mOp1 revD A.2)
  | .Slice lo hi none _ => (d Γ sc a).bind fun A => (dPart d Γ sc lo).bind fun l => (dPart d Γ sc hi).map fun h => (.F, mSl A.2 l h)
  | i => (d Γ sc a).bind fun A => (d Γ sc i).map fun I => (.C, mOp2 ixD A.2 I.2)
theorem dPart_ok (S : Sound T nn d) (G : GamOk T nn Γ X) {o : Option Expr} {mo : Option EM} (h : dPart d Γ X.env.scope o = some mo) : PO X o (tPo X.K Γ.ow mo) := by
  cases o with
  | none => cases h; exact po_mNone
  | some e =>
    obtain ⟨⟨k, m⟩, h1, h⟩ := Option.bind_eq_some_iff.mp h
    obtain ⟨m', h2, e'⟩ := Option.map_eq_some_iff.mp h
    subst e'
    obtain ⟨c1, rfl, _⟩ := (S Γ e k m X h1 G).1.toC h2
    exact po_mSome c1
theorem dSub_ok {a i : Expr} {pos : Pos} (S : Sound T nn d) (G : GamOk T nn Γ X) (h : dSub d Γ X.env.scope a i = some (k, m)) : ED X Γ.ow k (.Subscript a i pos) m := by
  unfold dSub at h
  split at h
  · obtain ⟨⟨ka, ma⟩, h1, e⟩ := Option.map_eq_some_iff.mp h
    cases e
    have main := fun (k : Nat) (p1 p2 p3 : Pos) => pe_mRev (X := X) (k := k) (p1 := p1) (p2 := p2) (p3 := p3) (pos := pos) rfl (S Γ a ka ma X h1 G).1.toT
    exact ⟨main _ _ _ _, fun hk _ => tst_plain (main _ _ _ _) hk fun _ => rfl⟩
  · rename_i lo hi p2
    obtain ⟨⟨ka, ma⟩, h1, h⟩ := Option.bind_eq_some_iff.mp h
    obtain ⟨l, h2, h⟩ := Option.bind_eq_some_iff.mp h
    obtain ⟨u, h3, e⟩ := Option.map_eq_some_iff.mp h
    cases e
    have main := pe_mSl (X := X) (pos := pos) (p2 := p2) rfl (S Γ a ka ma X h1 G).1.toT (dPart_ok S G h2) (dPart_ok S G h3)
    exact ⟨main, fun hk _ => tst_plain main hk fun _ => rfl⟩
  · obtain ⟨⟨ka, ma⟩, h1, h⟩ := Option.bind_eq_some_iff.mp h
    obtain ⟨⟨ki, mi⟩, h2, e⟩ := Option.map_eq_some_iff.mp h
    cases e
    obtain ⟨I, ni⟩ := S Γ i ki mi X h2 G
    have main := pe_mIxA (X := X) (pos := pos) rfl (by have := G.hu; omega) (S Γ a ka ma X h1 G).1.toT I.toT (plainIx_of ni)
    exact ⟨main, fun hk _ => tst_plain main hk fun _ => rfl⟩
end
end SH

namespace SH
open PySem L2
section
variable {T : List FnDef} {nn : Nat} {d : Den} {Γ : Gam} {X : Cx} {e : Expr} {k : Kd} {m : EM}
/-- a name of the module that stands for a built-in -/
def isB (Γ : Gam) (sc : Scope) (x : Str) : Bool := okNm x && (decide (sc.names.lookup x = some .globalImplicit) && Γ.free.any fun y => decide (y = x))
theorem isB_ok {x : Str} (G : GamOk T nn Γ X) (h : isB Γ X.env.scope x = true) : Gl X x ∧ X.mg x = none ∧ (x == ("__debug__" : Str)) = false ∧ x ≠ ("__name__" : Str) := by
  unfold isB at h
  simp only [Bool.and_eq_true, decide_eq_true_eq, List.any_eq_true] at h
  obtain ⟨h1, h2, y, hy, rfl⟩ := h
  obtain ⟨o1, o2, o3⟩ := okNm_ok h1
  exact ⟨h2, G.free _ hy, o1, o3⟩
/-- a def of the table -/
def isF (Γ : Gam) (sc : Scope) (x : Str) : Option (Nat × Bool) := if (okNm x && decide (sc.names.lookup x = some .globalImplicit)) = true then look Γ.fns x else none
theorem isF_ok {x : Str} {i : Nat} {b : Bool} (G : GamOk T nn Γ X) (h : isF Γ X.env.scope x = some (i, b)) : Gl X x ∧ FnAt X T nn i x ∧ kdOf T i = (if b = true then .F else .C) ∧ (x == ("__debug__" : Str)) = false := by
  unfold isF at h
  split at h
  · rename_i ho
    simp only [Bool.and_eq_true, decide_eq_true_eq] at ho
    obtain ⟨f1, f2⟩ := G.fns _ (look_mem h)
    exact ⟨ho.2, f1, f2, (okNm_ok ho.1).1⟩
  · cases h

inductive B1 where
  | len | all | any | sum | int | repr | tuple | list | sorted | dict
def B1.of (x : Str) : Option B1 :=
  if x = ("len" : Str) then some .len else if x = ("all" : Str) then some .all else if x = ("any" : Str) then some .any else if x = ("sum" : Str) then some .sum else if x = ("int" : Str) then some .int
  else if x = ("repr" : Str) then some .repr else if x = ("tuple" : Str) then some .tuple else if x = ("list" : Str) then some .list else if x = ("sorted" : Str) then some .sorted else if x = ("dict" : Str) then some .dict else none
def B1.kd : B1 → Kd
  | .list => .F
  | .sorted => .F
  | .dict => .F
  | _ => .C
def B1.fn : B1 → Store → D → Option D
  | .len => lenD
  | .all => allD
  | .any => anyD
  | .sum => sumD
  | .int => intD
  | .repr => reprB
  | .tuple => tupleD
  | .list => listD
  | .sorted => sortedD
  | .dict => dictD
def B1.nm : B1 → String
  | .len => "len"
  | .all => "all"
  | .any => "any"
  | .sum => "sum"
  | .int => "int"
  | .repr => "repr"
  | .tuple => "tuple"
  | .list => "list"
  | .sorted => "sorted"
  | .dict => "dict"
theorem B1.of_nm {x : Str} {b : B1} (h : B1.of x = some b) : x = (b.nm : Str) := by
  unfold B1.of at h
  repeat' (split at h)
  all_goals first | (cases h; assumption) | cases h
theorem b1_ok {x : Str} {b : B1} {a : Expr} {ma : EM} {p pos : Pos} (G : GamOk T nn Γ X) (hx : B1.of x = some b) (h : isB Γ X.env.scope x = true) (ha : PE X a (tEv X.K Γ.ow .T ma)) (hs : noStar a = true) :
    PE X (.Call (.Name x p) [a] [] pos) (tEv X.K Γ.ow b.kd (mOp1 b.fn ma)) := by
  obtain ⟨g1, g2, g3, g4⟩ := isB_ok G h
  have e := B1.of_nm hx
  subst e
  have st := star_of (X := X) hs []
  cases b
  · exact pe_mB1 (k := .C) call_len ok_len g1 g2 (by decide +kernel) ha st g4 g3
  · exact pe_mB1 (k := .C) (cr_all G.calm) ok_all g1 g2 (by decide +kernel) ha st g4 g3
  · exact pe_mB1 (k := .C) (cr_any G.calm) ok_any g1 g2 (by decide +kernel) ha st g4 g3
  · exact pe_mB1 (k := .C) (cr_sum G.calm) ok_sum g1 g2 (by decide +kernel) ha st g4 g3
  · exact pe_mT1 (k := .C) call_int1 ok_int g1 g2 (by decide +kernel) ha st g4 g3
  · exact pe_mB1 (k := .C) (call_reprM G.gd G.room.units) ok_repr g1 g2 (by decide +kernel) ha st g4 g3
  · exact pe_mT1 (k := .C) call_tupleF ok_tuple g1 g2 (by decide +kernel) ha st g4 g3
  · exact pe_mT1 (k := .F) call_list_of ok_list g1 g2 (by decide +kernel) ha st g4 g3
  · exact pe_mB1 (k := .F) (cr_sortA G.calm) ok_sorted g1 g2 (by decide +kernel) ha st g4 g3
  · exact pe_mT1 (k := .F) (call_dictA G.calm) ok_dict g1 g2 (by decide +kernel) ha st g4 g3
inductive B2 where
  | max | min
def B2.of (x : Str) : Option B2 := if x = ("max" : Str) then some .max else if x = ("min" : Str) then some .min else none
def B2.fn : B2 → Store → D → D → Option D
  | .max => max2D
  | .min => min2D
def B2.nm : B2 → String
  | .max => "max"
  | .min => "min"
theorem B2.of_nm {x : Str} {b : B2} (h : B2.of x = some b) : x = (b.nm : Str) := by
  unfold B2.of at h
  repeat' (split at h)
  all_goals first | (cases h; assumption) | cases h
theorem plain_star {es : List Expr} (pos : Pos) (h : ∀ e ∈ es, noStar e = true) : (backTo pos (starEach es X.env)).any (·.1) = false := by
  induction es with
  | nil => rfl
  | cons e r ih =>
    rw [star_of (h e List.mem_cons_self) r]
    show (false || (backTo pos (starEach r X.env)).any (·.1)) = false
    rw [ih fun x hx => h x (List.mem_cons_of_mem _ hx)]
    rfl
theorem b2_ok {x : Str} {b : B2} {a c : Expr} {ma mc : EM} {p pos : Pos} (G : GamOk T nn Γ X) (hx : B2.of x = some b) (h : isB Γ X.env.scope x = true) (ha : PE X a (tEv X.K Γ.ow .T ma)) (hs : noStar a = true) (hc : PE X c (tEv X.K Γ.ow .T mc)) (hs2 : noStar c = true) :
    PE X (.Call (.Name x p) [a, c] [] pos) (tEv X.K Γ.ow .C (mOp2 b.fn ma mc)) := by
  obtain ⟨g1, g2, g3, g4⟩ := isB_ok G h
  have e := B2.of_nm hx
  subst e
  have st := star_of (X := X) hs [c]
  have st2 := star_of (X := X) hs2 []
  have pl := plain_star (X := X) (es := [c]) pos fun e he => by rw [List.mem_singleton.mp he]; exact hs2
  cases b
  · exact pe_mB2 (k := .C) (call_max2 G.calm) ok_max2 g1 g2 (by decide +kernel) ha hc st st2 g4 g3 pl
  · exact pe_mB2 (k := .C) (call_min2 G.calm) ok_min2 g1 g2 (by decide +kernel) ha hc st st2 g4 g3 pl
def tysOf (Γ : Gam) (sc : Scope) : List Expr → Option (List Ty)
  | [] => some []
  | .Name c _ :: r => if isB Γ sc c = true then (Ty.of c).bind fun t => (tysOf Γ sc r).map (t :: ·) else none
  | _ => none
theorem tysOf_ok (G : GamOk T nn Γ X) : ∀ {es : List Expr} {ts : List Ty}, tysOf Γ X.env.scope es = some ts → TyArgs X es ts ∧ ts.length = es.length
  | [], ts, h => by cases h; exact ⟨tyArgs_nil, rfl⟩
  | e :: r, ts, h => by
    cases e with
    | Name c p =>
      unfold tysOf at h
      split at h
      · rename_i hb
        obtain ⟨t, h1, h⟩ := Option.bind_eq_some_iff.mp h
        obtain ⟨ts', h2, e⟩ := Option.map_eq_some_iff.mp h
        subst e
        obtain ⟨g1, g2, g3, g4⟩ := isB_ok G hb
        obtain ⟨r1, r2⟩ := tysOf_ok G h2
        exact ⟨tyArgs_cons g1 g2 h1 g4 g3 r1, by simp [r2]⟩
      · cases h
    | _ => simp [tysOf] at h
def isiN : Str := "isinstance"
def dIsi (d : Den) (Γ : Gam) (sc : Scope) (a t : Expr) : Option EK := match t with
  | .Name c _ => if isB Γ sc c = true then (d Γ sc a).bind fun A => (Ty.of c).map fun t => (.C, mOp1 (isiD [t]) A.2) else none
  | .Tuple es _ _ => if es.length ≤ 1000 then (d Γ sc a).bind fun A => (tysOf Γ sc es).map fun ts => (.C, mOp1 (isiD ts) A.2) else none
  | _ => none
theorem dIsi_ok {a t : Expr} {p pos : Pos} (S : Sound T nn d) (G : GamOk T nn Γ X) (hb : isB Γ X.env.scope isiN = true) (h : dIsi d Γ X.env.scope a t = some (k, m)) : PE X (.Call (.Name isiN p) [a, t] [] pos) (tEv X.K Γ.ow k m) := by
  obtain ⟨i1, i2, i3, i4⟩ := isB_ok G hb
  unfold dIsi at h
  split at h
  · split at h
    · rename_i hc
      obtain ⟨⟨ka, ma⟩, h1, h⟩ := Option.bind_eq_some_iff.mp h
      obtain ⟨ty, h2, e⟩ := Option.map_eq_some_iff.mp h
      cases e
      obtain ⟨A, na⟩ := S Γ a ka ma X h1 G
      obtain ⟨g1, g2, g3, g4⟩ := isB_ok G hc
      exact pe_mIsi rfl i1 i2 g1 g2 h2 A.toT (star_of na _) g4 g3
    · cases h
  · split at h
    · rename_i hl
      obtain ⟨⟨ka, ma⟩, h1, h⟩ := Option.bind_eq_some_iff.mp h
      obtain ⟨ts, h2, e⟩ := Option.map_eq_some_iff.mp h
      cases e
      obtain ⟨A, na⟩ := S Γ a ka ma X h1 G
      obtain ⟨r1, r2⟩ := tysOf_ok G h2
      exact pe_mIsiT rfl i1 i2 r1 (by rw [r2]; exact hl) A.toT (star_of na _)
    · cases h
  · cases h
def dCallN (d : Den) (F : Ft) (Γ : Gam) (sc : Scope) (x : Str) (es : List Expr) : Option EK := match isF Γ sc x with
  | some (i, b) => (dList d Γ sc es).map fun ms => (if b = true then .F else .C, mCall F i ms)
  | none => if isB Γ sc x = true then (match es with
    | [a] => (B1.of x).bind fun b => (d Γ sc a).map fun A => (b.kd, mOp1 b.fn A.2)
    | [a, c] => if x = isiN then dIsi d Γ sc a c else (B2.of x).bind fun b => (d Γ sc a).bind fun A => (d Γ sc c).map fun C => (.C, mOp2 b.fn A.2 C.2)
    | _ => none) else none
theorem dCallN_ok {x : Str} {es : List Expr} {p pos : Pos} (S : Sound T nn d) (G : GamOk T nn Γ X) (h : dCallN d (callT T nn) Γ X.env.scope x es = some (k, m)) : ED X Γ.ow k (.Call (.Name x p) es [] pos) m := by
  have main : PE X (.Call (.Name x p) es [] pos) (tEv X.K Γ.ow k m) ∧ k ≠ .T := by
    unfold dCallN at h
    split at h
    · rename_i i b hf
      obtain ⟨ms, h1, e⟩ := Option.map_eq_some_iff.mp h
      cases e
      obtain ⟨f1, f2, f3, f4⟩ := isF_ok G hf
      obtain ⟨r1, r2, r3⟩ := dList_ok S G h1
      refine ⟨?_, by cases b <;> decide⟩
      rw [← f3]
      refine pe_mCall rfl f2 G.gd G.room f1 r1 f4 (fun e r he => ?_) (fun e r he => ?_) fun he => ?_
      · subst he; exact star_of (r2 e List.mem_cons_self) r
      · subst he; exact plain_star pos fun y hy => r2 y (List.mem_cons_of_mem _ hy)
      · subst he; exact List.length_eq_zero_iff.mp r3
    · split at h
      · rename_i hb
        split at h
        · rename_i a
          obtain ⟨b, h1, h⟩ := Option.bind_eq_some_iff.mp h
          obtain ⟨⟨ka, ma⟩, h2, e⟩ := Option.map_eq_some_iff.mp h
          cases e
          obtain ⟨A, na⟩ := S Γ a ka ma X h2 G
          exact ⟨b1_ok G h1 hb A.toT na, by cases b <;> decide⟩
        · rename_i a c
          split at h
          · rename_i hx
            subst hx
            refine ⟨dIsi_ok S G hb h, ?_⟩
            unfold dIsi at h
            split at h
            · split at h
              · obtain ⟨A, h1, h⟩ := Option.bind_eq_some_iff.mp h
                obtain ⟨ty, h2, e⟩ := Option.map_eq_some_iff.mp h
                cases e
                decide
              · cases h
            · split at h
              · obtain ⟨A, h1, h⟩ := Option.bind_eq_some_iff.mp h
                obtain ⟨ty, h2, e⟩ := Option.map_eq_some_iff.mp h
                cases e
                decide
              · cases h
            · cases h
          · obtain ⟨b, h1, h⟩ := Option.bind_eq_some_iff.mp h
            obtain ⟨⟨ka, ma⟩, h2, h⟩ := Option.bind_eq_some_iff.mp h
            obtain ⟨⟨kc, mc⟩, h3, e⟩ := Option.map_eq_some_iff.mp h
            cases e
            obtain ⟨A, na⟩ := S Γ a ka ma X h2 G
            obtain ⟨C, nc⟩ := S Γ c kc mc X h3 G
            exact ⟨b2_ok G h1 hb A.toT na C.toT nc, by decide⟩
        · cases h
      · cases h
  exact ⟨main.1, fun hk _ => tst_plain main.1 hk fun _ => rfl⟩

def tgN (Γ : Gam) (sc : Scope) (fnk : Str → Bool) (x : Str) : Option Nat := if (okNm x && (decide (sc.names.lookup x = some .local) || (decide (sc.names.lookup x = some .cell) && fnk x))) = true then ixOf Γ.N x else none
mutual
def dTg (Γ : Gam) (sc : Scope) (fnk : Str → Bool) : Nat → Expr → Option Tg
  | 0, _ => none
  | n + 1, e => match e with
    | .Name x _ => (tgN Γ sc fnk x).map .nm
    | .Tuple es _ _ => (dTgs Γ sc fnk n es).map .tup
    | _ => none
def dTgs (Γ : Gam) (sc : Scope) (fnk : Str → Bool) : Nat → List Expr → Option (List Tg)
  | 0, _ => none
  | n + 1, es => match es with
    | [] => some []
    | e :: r => (dTg Γ sc fnk n e).bind fun t => (dTgs Γ sc fnk n r).map (t :: ·)
end
theorem tgN_ok {x : Str} {i : Nat} {pos : Pos} (G : GamOk T nn Γ X) (h : tgN Γ X.env.scope X.fn x = some i) : PG X (.Name x pos) (gName i) := by
  unfold tgN at h
  split at h
  · rename_i hc
    simp only [Bool.and_eq_true, Bool.or_eq_true, decide_eq_true_eq] at hc
    have hN : X.N[i]? = some x := by rw [G.N]; exact ixOf_ok h
    have nd : X.N.Nodup := by rw [G.N]; exact G.nd
    rcases hc.2 with hl | ⟨hl, hf⟩
    · exact pg_name nd hN (.inl hl) (.inr hl)
    · exact pg_name nd hN (.inr hl) (.inl hf)
  · cases h
theorem dTgs_len {fnk : Str → Bool} {sc : Scope} : ∀ {n : Nat} {es : List Expr} {ts : List Tg}, dTgs Γ sc fnk n es = some ts → ts.length = es.length ∧ ∀ e ∈ es, noStar e = true
  | 0, _, _, h => by simp [dTgs] at h
  | n + 1, [], ts, h => by simp [dTgs] at h; subst h; exact ⟨rfl, fun _ h => nomatch h⟩
  | n + 1, e :: r, ts, h => by
    simp only [dTgs] at h
    obtain ⟨t, h1, h⟩ := Option.bind_eq_some_iff.mp h
    obtain ⟨ts', h2, e'⟩ := Option.map_eq_some_iff.mp h
    subst e'
    obtain ⟨r1, r2⟩ := dTgs_len h2
    refine ⟨by simp [r1], fun y hy => ?_⟩
    rcases List.mem_cons.mp hy with rfl | hy
    · cases n with
      | zero => simp [dTg] at h1
      | succ n => cases y <;> first | rfl | simp [dTg] at h1
    · exact r2 y hy
theorem asgEach {env : PySem.Env} : ∀ {es : List Expr}, (∀ e ∈ es, noStar e = true) → (assignEach es env).length = es.length ∧ (assignEach es env).findIdx? (·.1) = none
  | [], _ => ⟨rfl, rfl⟩
  | e :: r, h => by
    obtain ⟨r1, r2⟩ := asgEach (env := env) (es := r) fun y hy => h y (List.mem_cons_of_mem _ hy)
    have e1 : assignEach (e :: r) env = (false, assign e env) :: assignEach r env := by
      have := h e List.mem_cons_self
      cases e <;> first | rfl | cases this
    rw [e1]
    refine ⟨by simp [r1], ?_⟩
    rw [List.findIdx?_cons]
    simp [r2]
mutual
theorem dTg_ok (G : GamOk T nn Γ X) : ∀ {n : Nat} {e : Expr} {t : Tg}, dTg Γ X.env.scope X.fn n e = some t → PG X e (gOf X.K t)
  | 0, _, _, h => by simp [dTg] at h
  | n + 1, e, t, h => by
    cases e with
    | Name x pos =>
      simp only [dTg] at h
      obtain ⟨i, h1, e⟩ := Option.map_eq_some_iff.mp h
      subst e
      simp only [gOf]
      exact tgN_ok G h1
    | Tuple es kk pos =>
      simp only [dTg] at h
      obtain ⟨ts, h1, e⟩ := Option.map_eq_some_iff.mp h
      subst e
      simp only [gOf]
      obtain ⟨l1, l2⟩ := dTgs_len h1
      obtain ⟨a1, a2⟩ := asgEach (env := X.env) l2
      exact pg_tup G.calm (dTgs_ok G h1) (by rw [a1, l1]) a2
    | _ => simp [dTg] at h
theorem dTgs_ok (G : GamOk T nn Γ X) : ∀ {n : Nat} {es : List Expr} {ts : List Tg}, dTgs Γ X.env.scope X.fn n es = some ts → PGs X es (gsOf X.K ts)
  | 0, _, _, h => by simp [dTgs] at h
  | n + 1, [], ts, h => by
    simp [dTgs] at h
    subst h
    simp only [gsOf]
    exact pgs_nil
  | n + 1, e :: r, ts, h => by
    have hl := (dTgs_len h).2
    simp only [dTgs] at h
    obtain ⟨t, h1, h⟩ := Option.bind_eq_some_iff.mp h
    obtain ⟨ts', h2, e'⟩ := Option.map_eq_some_iff.mp h
    subst e'
    simp only [gsOf]
    refine pgs_cons (dTg_ok G h1) (dTgs_ok G h2) ?_
    have := hl e List.mem_cons_self
    cases e <;> first | rfl | cases this
end

def tgTup : Expr → Bool
  | .Tuple .. => true
  | _ => false
def rngN : Str := "range"
def enuN : Str := "enumerate"
def zipN : Str := "zip"
def dSeq (d : Den) (Γ : Gam) (sc : Scope) (it : Expr) : Option (Kd × LM) := (d Γ sc it).map fun A => (if A.1 = .T then .T else .C, iSeq A.2)
def dIt (d : Den) (Γ : Gam) (sc : Scope) (tg it : Expr) : Option (Kd × LM) := match it with
  | .Call (.Name x _) [a] [] _ => if isB Γ sc x = true ∧ x = rngN then (d Γ sc a).bind fun A => (needC A).map fun ma => (.C, iRange ma)
      else if isB Γ sc x = true ∧ x = enuN ∧ tgTup tg = true then (d Γ sc a).map fun A => (if A.1 = .T then .T else .C, iEnumL A.2) else dSeq d Γ sc it
  | .Call (.Name x _) [a, b] [] _ => if isB Γ sc x = true ∧ x = zipN ∧ tgTup tg = true then (d Γ sc a).bind fun A => (needC A).bind fun ma => (d Γ sc b).bind fun B => (needC B).map fun mb => (.C, iZipL ma mb) else dSeq d Γ sc it
  | _ => dSeq d Γ sc it
theorem dSeq_ok {bb : Bool} {tg it : Expr} {mi : LM} (S : Sound T nn d) (G : GamOk T nn Γ X) (h : dSeq d Γ X.env.scope it = some (k, mi)) : PI X tg it (tIv X.K Γ.ow k bb mi) ∧ noStar it = true := by
  obtain ⟨⟨ka, ma⟩, h1, e⟩ := Option.map_eq_some_iff.mp h
  cases e
  obtain ⟨A, na⟩ := S Γ it ka ma X h1 G
  refine ⟨?_, na⟩
  cases ka with
  | T => exact pi_mSeq (k := .T) (.inl rfl) rfl A.toT
  | C => exact pi_mSeq (k := .C) (.inr rfl) rfl A.val
  | F => exact pi_mSeq (k := .C) (.inr rfl) rfl (pe_FC A.val)
theorem dTg_tup {Γ : Gam} {sc : Scope} {fnk : Str → Bool} {n : Nat} {e : Expr} {t : Tg} (h : dTg Γ sc fnk n e = some t) (ht : tgTup e = true) : t.isTup = true := by
  cases n with
  | zero => simp [dTg] at h
  | succ n =>
    cases e with
    | Tuple es kk p =>
      simp only [dTg] at h
      obtain ⟨l, _, rfl⟩ := Option.map_eq_some_iff.mp h
      rfl
    | _ => cases ht
theorem dIt_ok {bb : Bool} {tg it : Expr} {mi : LM} (S : Sound T nn d) (G : GamOk T nn Γ X) (hbb : tgTup tg = true → bb = true) (h : dIt d Γ X.env.scope tg it = some (k, mi)) : PI X tg it (tIv X.K Γ.ow k bb mi) ∧ noStar it = true := by
  unfold dIt at h
  split at h
  · rename_i x p a pos
    split at h
    · rename_i hx
      obtain ⟨hb, rfl⟩ := hx
      obtain ⟨⟨ka, ma⟩, h1, h⟩ := Option.bind_eq_some_iff.mp h
      obtain ⟨ma', h2, e⟩ := Option.map_eq_some_iff.mp h
      cases e
      obtain ⟨A, na⟩ := S Γ a ka ma X h1 G
      obtain ⟨c1, rfl, _⟩ := A.toC h2
      obtain ⟨g1, g2, _, _⟩ := isB_ok G hb
      exact ⟨pi_mRange g1 g2 c1 (star_of na []), rfl⟩
    · split at h
      · rename_i hx
        obtain ⟨hb, rfl, ht⟩ := hx
        obtain rfl := hbb ht
        obtain ⟨⟨ka, ma⟩, h1, e⟩ := Option.map_eq_some_iff.mp h
        cases e
        obtain ⟨A, na⟩ := S Γ a ka ma X h1 G
        obtain ⟨g1, g2, _, _⟩ := isB_ok G hb
        refine ⟨?_, rfl⟩
        cases tg with
        | Tuple es kk tp =>
          cases ka with
          | T => exact pi_mEnum (k := .T) (.inl rfl) rfl g1 g2 A.toT (star_of na [])
          | C => exact pi_mEnum (k := .C) (.inr rfl) rfl g1 g2 A.val (star_of na [])
          | F => exact pi_mEnum (k := .C) (.inr rfl) rfl g1 g2 (pe_FC A.val) (star_of na [])
        | _ => cases ht
      · exact dSeq_ok S G h
  · rename_i x p a b pos
    split at h
    · rename_i hx
      obtain ⟨hb, rfl, ht⟩ := hx
      obtain rfl := hbb ht
      obtain ⟨⟨ka, ma⟩, h1, h⟩ := Option.bind_eq_some_iff.mp h
      obtain ⟨ma', h2, h⟩ := Option.bind_eq_some_iff.mp h
      obtain ⟨⟨kb, mb⟩, h3, h⟩ := Option.bind_eq_some_iff.mp h
      obtain ⟨mb', h4, e⟩ := Option.map_eq_some_iff.mp h
      cases e
      obtain ⟨A, na⟩ := S Γ a ka ma X h1 G
      obtain ⟨B, nb⟩ := S Γ b kb mb X h3 G
      obtain ⟨c1, e1, _⟩ := A.toC h2
      obtain ⟨c2, e2, _⟩ := B.toC h4
      subst e1
      subst e2
      obtain ⟨g1, g2, _, _⟩ := isB_ok G hb
      refine ⟨?_, rfl⟩
      cases tg with
      | Tuple es kk tp =>
        exact pi_mZip rfl G.calm g1 g2 c1 c2 (star_of na [b]) (star_of nb []) (plain_star pos fun e he => by rw [List.mem_singleton.mp he]; exact nb)
      | _ => cases ht
    · exact dSeq_ok S G h
  · exact dSeq_ok S G h

def ownOf (N : List Str) (names : List (Str × NameKind)) : List (Str × Nat) := names.filterMap fun y => match y.2 with
  | .local => (ixOf N y.1).map fun i => (y.1, i)
  | .cell => (ixOf N y.1).map fun i => (y.1, i)
  | _ => none
def dIfs (d : Den) (Γ : Gam) (sc : Scope) : List Expr → Option EM
  | [] => some (mLit (.bl true))
  | [c] => if noIf c = true then (d Γ sc c).bind needC else none
  | _ => none
def fnOf (scope : Scope) : Str → Bool := fun x => scope.names.lookup x == some .cell
/-- within a comprehension: no lambdas -/
def noL (Γ : Gam) : Gam := { Γ with lam := none }
def dComp (d : Den) (Γ : Gam) (sc : Scope) (elt : Expr) (gens : List Comprehension) (scope : Scope) : Option EK := match gens with
  | [⟨tg, it, ifs, a⟩] =>
    if (decide (a = 0) && (blkC Γ.N sc scope (ownOf Γ.N scope.names) && ((ownOf Γ.N scope.names).map (·.2)).all fun i => !Γ.ow.contains i)) = true then
      (dTg Γ (relS scope sc) (fnOf scope) 9 tg).bind fun t =>
      if t.slots.all (fun i => ((ownOf Γ.N scope.names).map (·.2)).contains i) = true then
        (dIt d Γ sc tg it).bind fun I => (dIfs d (noL Γ) (relS scope sc) ifs).bind fun c => (d (noL Γ) (relS scope sc) elt).bind fun E => (needC E).map fun me =>
          (.F, mComp me t I.2 c ((ownOf Γ.N scope.names).map (·.2)))
      else none
    else none
  | _ => none
theorem GamOk.blk (G : GamOk T nn Γ X) (s : Shared) (H : Hp) (scope : Scope) (C : Addr) (cl : List (Str × Addr)) (fp : List Addr) : GamOk T nn (noL Γ) (X.blk s H scope (compEnvC scope cl C X.env) fp) :=
  ⟨G.N, G.nd, G.calm, G.gd, G.room, rfl, fun p hp => ⟨⟨(G.fns p hp).1.ex⟩, (G.fns p hp).2⟩, G.free, G.cons, fun p hp => ⟨(G.tabs p hp).ex⟩, fun _ _ _ h => nomatch h⟩
mutual
theorem dTg_noL {Γ : Gam} {sc : Scope} {fnk : Str → Bool} : ∀ (n : Nat) (e : Expr), dTg (noL Γ) sc fnk n e = dTg Γ sc fnk n e
  | 0, _ => rfl
  | n + 1, e => by
    cases e <;> simp only [dTg]
    · rfl
    · rw [dTgs_noL n]
theorem dTgs_noL {Γ : Gam} {sc : Scope} {fnk : Str → Bool} : ∀ (n : Nat) (es : List Expr), dTgs (noL Γ) sc fnk n es = dTgs Γ sc fnk n es
  | 0, _ => rfl
  | n + 1, [] => rfl
  | n + 1, e :: r => by
    simp only [dTgs]
    rw [dTg_noL n, dTgs_noL n]
end
theorem dComp_core {elt tg it : Expr} {ifs : List Expr} {scope : Scope} {a : Int} (S : Sound T nn d) (G : GamOk T nn Γ X) (h : dComp d Γ X.env.scope elt [⟨tg, it, ifs, a⟩] scope = some (k, m)) :
    a = 0 ∧ k = .F ∧ ∃ (me : EM) (t : Tg) (mi : LM) (c : EM), m = mComp me t mi c ((ownOf Γ.N scope.names).map (·.2)) ∧ PI X tg it (tIv X.K Γ.ow .T t.isTup mi) ∧ BlkOk X.N X.env.scope scope (ownOf Γ.N scope.names) ∧
      (∀ (s : Shared) (H : Hp) (C : Addr) (cl : List (Str × Addr)) (fp : List Addr), PG (X.blk s H scope (compEnvC scope cl C X.env) fp) tg (gOf X.K t)) ∧
      (∀ (s : Shared) (H : Hp) (C : Addr) (cl : List (Str × Addr)) (fp : List Addr), PTs (X.blk s H scope (compEnvC scope cl C X.env) fp) ifs (tBv X.K Γ.ow c)) ∧
      (∀ (s : Shared) (H : Hp) (C : Addr) (cl : List (Str × Addr)) (fp : List Addr), PE (X.blk s H scope (compEnvC scope cl C X.env) fp) elt (tEv X.K Γ.ow .C me)) ∧
      (∀ x, foldedSetIterable it X.env x = pure x) ∧ (∀ σ H Q, tEv X.K Γ.ow .F m σ H Q → tLc (tIv X.K Γ.ow .T t.isTup mi) (gOf X.K t) (tBv X.K Γ.ow c) (tEv X.K Γ.ow .C me) ((ownOf Γ.N scope.names).map (·.2)) σ H Q) := by
  simp only [dComp] at h
  split at h
  · rename_i hc
    simp only [Bool.and_eq_true, decide_eq_true_eq] at hc
    obtain ⟨ha, hb, hw⟩ := hc
    obtain ⟨t, h1, h⟩ := Option.bind_eq_some_iff.mp h
    split at h
    · rename_i hsl
      obtain ⟨⟨ki, mi⟩, h2, h⟩ := Option.bind_eq_some_iff.mp h
      obtain ⟨c, h3, h⟩ := Option.bind_eq_some_iff.mp h
      obtain ⟨⟨ke, me⟩, h4, h⟩ := Option.bind_eq_some_iff.mp h
      obtain ⟨me', h5, e⟩ := Option.map_eq_some_iff.mp h
      cases e
      obtain ⟨pI, nI⟩ := dIt_ok (bb := t.isTup) S G (dTg_tup h1) h2
      have hsl' : ∀ i ∈ t.slots, i ∈ (ownOf Γ.N scope.names).map (·.2) := fun i hi => by
        have := List.all_eq_true.mp hsl i hi
        simpa using this
      have hvo : ∀ i ∈ (ownOf Γ.N scope.names).map (·.2), i ∉ Γ.ow := fun i hi => by
        have := List.all_eq_true.mp hw i hi
        simpa using this
      refine ⟨ha, rfl, me', t, mi, c, rfl, ?_, by rw [G.N]; exact blkOk_by hb, fun s H C cl fp => ?_, fun s H C cl fp => ?_, fun s H C cl fp => ?_, slot_fold nI X.env, fun σ H Q q => tLc_of hsl' hvo q⟩
      · cases ki with
        | T => exact pI
        | C => exact PI.weak pI fun σ H RR q => tIv_C q
        | F =>
          refine PI.weak pI fun σ H RR q => ?_
          obtain ⟨f, Z, ρ, st, E, l, st', e, q⟩ := q
          exact ⟨f, Z, ρ, st, E, l, st', e, fun f' H' J Ok x S hl hs ho he => q f' H' J Ok x S hl (fun f Z H f' Z' H' _ F o => hs f Z H f' Z' H' (fun z => nomatch z) F o) ho he⟩
      · exact dTg_ok (Γ := noL Γ) (X := X.blk s H scope (compEnvC scope cl C X.env) fp) (G.blk s H scope C cl fp) (by rw [dTg_noL]; exact h1)
      · have Gb := G.blk s H scope C cl fp
        cases ifs with
        | nil =>
          cases h3
          refine ⟨fun pins s' σ H Q I hw => pts_nil.run pins s' σ H Q I ?_⟩
          obtain ⟨f, Z, ρ, st, E, b, st', e, q⟩ := hw
          cases e
          exact q f H E.self E.st
        | cons c0 r =>
          cases r with
          | nil =>
            simp only [dIfs] at h3
            split at h3
            · rename_i hn
              obtain ⟨⟨kc, mc⟩, g1, g2⟩ := Option.bind_eq_some_iff.mp h3
              obtain ⟨C1, nc⟩ := S (noL Γ) c0 kc mc (X.blk s H scope (compEnvC scope cl C X.env) fp) g1 Gb
              obtain ⟨_, rfl, ck⟩ := C1.toC g2
              exact pts_one (C1.tst ck hn)
            · cases h3
          | cons _ _ => cases h3
      · obtain ⟨E1, ne⟩ := S (noL Γ) elt ke me (X.blk s H scope (compEnvC scope cl C X.env) fp) h4 (G.blk s H scope C cl fp)
        obtain ⟨c1, rfl, _⟩ := E1.toC h5
        exact c1
    · cases h
  · cases h
theorem dComp_ok {elt : Expr} {gens : List Comprehension} {scope : Scope} {pos : Pos} (S : Sound T nn d) (G : GamOk T nn Γ X) (h : dComp d Γ X.env.scope elt gens scope = some (k, m)) : ED X Γ.ow k (.ListComp elt gens scope pos) m := by
  have hg : ∃ tg it ifs a, gens = [⟨tg, it, ifs, a⟩] := by
    unfold dComp at h
    split at h
    · exact ⟨_, _, _, _, rfl⟩
    · cases h
  obtain ⟨tg, it, ifs, a, rfl⟩ := hg
  obtain ⟨rfl, rfl, me, t, mi, c, em, pI, ok, hg, ht, he, hs, w⟩ := dComp_core S G h
  have main : PE X (.ListComp elt [⟨tg, it, ifs, 0⟩] scope pos) (tEv X.K Γ.ow .F m) := pe_weak (pe_lc G.calm (by rw [G.N]; exact G.nd) pI ok hg ht he hs) w
  exact ⟨main, fun hk _ => tst_plain main hk fun _ => rfl⟩
end
end SH

namespace SH
open PySem L2
/-- where a statement stands: a def's own body -/
structure Body (T : List FnDef) (nn : Nat) (Γ : Gam) (X : Cx) : Prop extends GamOk T nn Γ X where
  kind : X.env.scope.kind = .function
  fn : X.fn = fun _ => true
def noF (Γ : Gam) : Gam := { Γ with ow := [] }
section
variable {T : List FnDef} {nn : Nat} {d : Den} {Γ : Gam} {X : Cx} {e : Expr} {k : Kd} {m : EM} {kf : Kd}
theorem GamOk.noF (G : GamOk T nn Γ X) : GamOk T nn (SH.noF Γ) X := ⟨G.N, G.nd, G.calm, G.gd, G.room, G.xe, G.fns, G.free, G.cons, G.tabs, G.lam⟩
def retO (Γ : Gam) (sc : Scope) : Expr → Option Nat
  | .Name x _ => if okNm x = true ∧ (sc.names.lookup x = some .local ∨ sc.names.lookup x = some .cell) then (ixOf Γ.N x).bind fun i => if i ∈ Γ.ow then some i else none else none
  | _ => none
def dRet (d : Den) (Γ : Gam) (kf : Kd) (sc : Scope) (e : Expr) : Option SM :=
  if kf = .F then (match retO Γ sc e with
    | some i => some (mRet (mVar i))
    | none => (d (noF Γ) sc e).bind fun E => if E.1 = .F then some (mRet E.2) else none)
  else if kf = .C then (d (noF Γ) sc e).bind fun E => (needC E).map mRet else none
theorem dRet_ok {pos : Pos} {s : SM} (S : Sound T nn d) (G : Body T nn Γ X) (h : dRet d Γ kf X.env.scope e = some s) : PS X (.Return (some e) pos) (tSt X.K Γ.ow kf s) := by
  unfold dRet at h
  split at h
  · rename_i hk
    subst hk
    split at h
    · rename_i i hi
      cases h
      cases e with
      | Name x p =>
        simp only [retO] at hi
        split at hi
        · rename_i hc
          obtain ⟨ho, hl⟩ := hc
          obtain ⟨j, h1, h2⟩ := Option.bind_eq_some_iff.mp hi
          split at h2
          · rename_i hw
            cases h2
            obtain ⟨o1, o2, o3⟩ := okNm_ok ho
            have hN : X.N[i]? = some x := by rw [G.N]; exact ixOf_ok h1
            exact PS.weak (ps_ret (pe_var hN (hl.elim .inl fun q => .inr (.inl q)) o1 o2)) fun D σ H q => tSt_retO hw q
          · cases h2
        · cases hi
      | _ => cases hi
    · obtain ⟨⟨ke, me⟩, h1, h⟩ := Option.bind_eq_some_iff.mp h
      split at h
      · rename_i hf
        cases h
        have hf' : ke = .F := hf
        subst hf'
        obtain ⟨E, _⟩ := S (noF Γ) e .F me X h1 G.toGamOk.noF
        exact PS.weak (ps_ret E.val) fun D σ H q => tSt_ret q
      · cases h
  · split at h
    · rename_i hk
      subst hk
      obtain ⟨⟨ke, me⟩, h1, h⟩ := Option.bind_eq_some_iff.mp h
      obtain ⟨me', h2, e'⟩ := Option.map_eq_some_iff.mp h
      subst e'
      obtain ⟨E, _⟩ := S (noF Γ) e ke me X h1 G.toGamOk.noF
      obtain ⟨c1, rfl, _⟩ := E.toC h2
      exact PS.weak (ps_ret c1) fun D σ H q => tSt_ret q
    · cases h

def isComp : Expr → Bool
  | .ListComp .. => true
  | .SetComp .. => true
  | .DictComp .. => true
  | _ => false
theorem sw_no {env : PySem.Env} (h : isComp e = false) (t : Option Expr) (l : Nat) : swapsWith e t l env = pure false := by
  cases e <;> first | rfl | cases h
def isTup : Expr → Bool
  | .Tuple .. => true
  | _ => false
theorem stores_no {env : PySem.Env} {tg : Expr} (h : isTup tg = false ∨ isTup e = false) (h2 : noStar tg = true) (h3 : ∀ es p, tg ≠ .List es p) : swappedStores [tg] e env = pure none := by
  rcases h with h | h
  · cases tg <;> first | exact absurd rfl (h3 _ _) | rfl | cases h
  · cases tg <;> first | exact absurd rfl (h3 _ _) | (cases e <;> first | rfl | cases h) | cases h2
/-- a name among the targets that is no plain local -/
def someCell (sc : Scope) (ts : List Expr) : Bool := ts.any fun e => match e with
  | .Name x _ => !decide (sc.names.lookup x = some .local)
  | _ => true
def cellT (sc : Scope) : Expr → Bool
  | .Tuple ts _ _ => someCell sc ts
  | _ => false
theorem filter_lt {α β : Type} {f : α → Option β} : ∀ {l : List α}, (∃ a ∈ l, f a = none) → (l.filterMap f).length < l.length
  | [], h => by
    obtain ⟨a, h, _⟩ := h
    cases h
  | a :: r, h => by
    have hle : (r.filterMap f).length ≤ r.length := List.length_filterMap_le f r
    cases e : f a with
    | none =>
      rw [List.filterMap_cons_none e]
      exact Nat.lt_succ_of_le hle
    | some b =>
      rw [List.filterMap_cons_some e]
      have : ∃ a ∈ r, f a = none := by
        obtain ⟨c, hc, ec⟩ := h
        rcases List.mem_cons.mp hc with rfl | hc
        · rw [e] at ec; cases ec
        · exact ⟨c, hc, ec⟩
      exact Nat.succ_lt_succ (filter_lt this)
theorem stores_cell {env : PySem.Env} {ts vs : List Expr} {kt k2 : Nat} {pt pt2 : Pos} (h : someCell env.scope ts = true) : swappedStores [.Tuple ts kt pt] (.Tuple vs k2 pt2) env = pure none := by
  obtain ⟨a, ha, hb⟩ := List.any_eq_true.mp h
  unfold swappedStores
  dsimp only
  have key : ∀ g : Expr → Option Str, g a = none → ((ts.filterMap g).length != ts.length) = true := fun g hg => by
    have := filter_lt ⟨a, ha, hg⟩
    rw [bne_iff_ne]
    exact Nat.ne_of_lt this
  split
  · rfl
  · split
    · rfl
    · refine if_pos ?_
      · rw [Bool.or_eq_true]
        refine .inl (key _ ?_)
        cases a with
        | Name x p =>
          have hb' : decide (env.scope.names.lookup x = some .local) = false := by simpa using hb
          have hk : (env.kindOf x == some .local) = false := by
            have := of_decide_eq_false hb'
            simpa [Env.kindOf] using this
          simp [hk]
        | _ => rfl
/-- a plain assignment by a target's reading -/
theorem ps_asgG {tg : Expr} {te : TE} {g : TG} {pos : Pos} (he : PE X e te) (hg : PG X tg g) (hc : isComp e = false) (ht : isTup tg = false ∨ isTup e = false) (h2 : noStar tg = true) (h3 : ∀ es p, tg ≠ .List es p) : PS X (.Assign [tg] e pos) (tAsg te g) :=
  ps_asg he hg (sw_no hc _ _) (stores_no ht h2 h3) (by cases tg <;> first | rfl | cases h2)
/-- x = [.. for ..] -/
def swB (sc scope : Scope) (x : Str) (p p' : Pos) : Bool := decide (sc.names.lookup x = some .local) && ((p.line == p'.line) && !(scope.names.any fun (n, k) => n == x && (k == .local || k == .cell)))
inductive Asg where
  | own (i : Nat) | tg (t : Tg)
def Asg.sm (a : Asg) (m : EM) : SM := match a with
  | .own i => mOwn i m
  | .tg t => mAsg t m
def Asg.okB (a : Asg) (ow : List Nat) (k : Kd) : Bool := match a with
  | .own i => decide (i ∈ ow) && decide (k = .F)
  | .tg t => (t.slots.all fun i => !ow.contains i) && !decide (k = .T)
def Asg.g (K : Frag) (a : Asg) : TG := match a with
  | .own i => gName i
  | .tg t => gOf K t
theorem asg_run {a : Asg} {D : Ends} {σ : St} {H : Hp} {te : TE} (ho : a.okB Γ.ow k = true) (w : ∀ σ H Q, tEv X.K Γ.ow k m σ H Q → te σ H Q) (q : tSt X.K Γ.ow kf (a.sm m) D σ H) : tAsg te (a.g X.K) D σ H := by
  cases a with
  | own i =>
    simp only [Asg.okB, Bool.and_eq_true, decide_eq_true_eq] at ho
    obtain ⟨h1, rfl⟩ := ho
    exact w _ _ _ (tSt_own h1 q)
  | tg t =>
    simp only [Asg.okB, Bool.and_eq_true, Bool.not_eq_true', decide_eq_false_iff_not, List.all_eq_true] at ho
    have hs : ∀ i ∈ t.slots, i ∉ Γ.ow := fun i hi => by
      have := ho.1 i hi
      simpa using this
    have z := tSt_asg hs q
    refine w _ _ _ ?_
    cases k with
    | T => exact absurd rfl ho.2
    | C => exact z
    | F => exact tEv_FC z
def asgOf (Γ : Gam) (sc : Scope) (tg : Expr) : Option Asg := (dTg Γ sc (fun _ => true) 9 tg).map fun t => match t with
  | .nm i => if i ∈ Γ.ow then .own i else .tg (.nm i)
  | .tup l => .tg (.tup l)
theorem asgOf_ok {tg : Expr} {a : Asg} (G : Body T nn Γ X) (h : asgOf Γ X.env.scope tg = some a) : PG X tg (a.g X.K) ∧ noStar tg = true ∧ ∀ es p, tg ≠ .List es p := by
  obtain ⟨t, h1, e⟩ := Option.map_eq_some_iff.mp h
  have h2 : PG X tg (gOf X.K t) := by
    refine dTg_ok (n := 9) G.toGamOk ?_
    rw [G.fn]
    exact h1
  have h3 : noStar tg = true ∧ ∀ es p, tg ≠ .List es p := by
    cases tg <;> first | (simp [dTg] at h1; done) | exact ⟨rfl, fun _ _ z => by cases z⟩
  refine ⟨?_, h3⟩
  subst e
  cases t with
  | nm i =>
    dsimp only
    split
    · simp only [Asg.g]
      simp only [gOf] at h2
      exact h2
    · exact h2
  | tup l => exact h2
/-- x = [.. for ..], the exchange of the stores left out -/
def swF (sc scope : Scope) (x : Str) : Bool := decide (sc.names.lookup x = some .cell) || scope.names.any fun (n, k) => n == x && (k == .local || k == .cell)
theorem sw_false {env : PySem.Env} {elt : Expr} {gens : List Comprehension} {scope : Scope} {x : Str} {p py : Pos} {l : Nat} (h : swF env.scope scope x = true) : swapsWith (.ListComp elt gens scope p) (some (.Name x py)) l env = pure false := by
  have e : (env.blockKind == .function && env.kindOf x == some .local && py.line == p.line && !(scope.names.any fun (n, k) => n == x && (k == .local || k == .cell))) = false := by
    unfold swF at h
    rw [Bool.or_eq_true, decide_eq_true_eq] at h
    rcases h with h | h
    · have : (env.kindOf x == some .local) = false := by
        show (env.scope.names.lookup x == some .local) = false
        rw [h]
        rfl
      rw [this]
      simp
    · rw [h]
      simp
  show (pure (env.blockKind == .function && env.kindOf x == some .local && py.line == p.line && !(scope.names.any fun (n, k) => n == x && (k == .local || k == .cell))) : Sem Bool) = pure false
  rw [e]
def dAsgN (d : Den) (Γ : Gam) (sc : Scope) (tg e : Expr) : Option SM := match e with
  | .ListComp elt gens scope p => (match tg with
    | .Name x py => if swB sc scope x py p = true then (asgOf Γ sc tg).bind fun a => (dComp d Γ sc elt gens scope).bind fun E => if a.okB Γ.ow E.1 = true then some (a.sm E.2) else none
      else if swF sc scope x = true then (asgOf Γ sc tg).bind fun a => (d Γ sc (.ListComp elt gens scope p)).bind fun E => if a.okB Γ.ow E.1 = true then some (a.sm E.2) else none else none
    | _ => none)
  | e => if (isComp e || (isTup tg && (isTup e && !cellT sc tg))) = true then none else (asgOf Γ sc tg).bind fun a => (d Γ sc e).bind fun E => if a.okB Γ.ow E.1 = true then some (a.sm E.2) else none
theorem dAsgN_ok {tg : Expr} {pos : Pos} {s : SM} (S : Sound T nn d) (G : Body T nn Γ X) (h : dAsgN d Γ X.env.scope tg e = some s) : PS X (.Assign [tg] e pos) (tSt X.K Γ.ow kf s) := by
  unfold dAsgN at h
  split at h
  · rename_i elt gens scope p
    split at h
    · rename_i x py
      split at h
      · rename_i hs
        obtain ⟨a, h1, h⟩ := Option.bind_eq_some_iff.mp h
        obtain ⟨⟨ke, me⟩, h2, h⟩ := Option.bind_eq_some_iff.mp h
        split at h
        · rename_i ho
          cases h
          simp only [swB, Bool.and_eq_true, decide_eq_true_eq, Bool.not_eq_true'] at hs
          obtain ⟨hl, hln, hnn⟩ := hs
          obtain ⟨g1, _, _⟩ := asgOf_ok G h1
          have hg : ∃ tg it ifs a, gens = [⟨tg, it, ifs, a⟩] := by
            unfold dComp at h2
            split at h2
            · exact ⟨_, _, _, _, rfl⟩
            · cases h2
          obtain ⟨tg', it, ifs, a0, rfl⟩ := hg
          obtain ⟨rfl, rfl, me', t, mi, c, em, pI, ok, hg, ht, he, hsf, w⟩ := dComp_core S G.toGamOk h2
          obtain ⟨t0, e1, e2⟩ := Option.map_eq_some_iff.mp (show (dTg Γ X.env.scope (fun _ => true) 9 (.Name x py)).map _ = some a from h1)
          simp only [dTg] at e1
          obtain ⟨i, e3, e4⟩ := Option.map_eq_some_iff.mp e1
          subst e4
          have hN : X.N[i]? = some x := by
            unfold tgN at e3
            split at e3
            · rw [G.N]; exact ixOf_ok e3
            · cases e3
          have hga : a.g X.K = gName i := by
            subst e2
            dsimp only
            split
            · rfl
            · simp only [Asg.g, gOf]
          refine PS.weak (ps_setLc G.calm (by rw [G.N]; exact G.nd) hN hl (sw_true G.kind hl hln hnn) pI ok hg ht he hsf) fun D σ H q => ?_
          rw [← hga]
          exact asg_run ho w q
        · cases h
      · split at h
        · rename_i hs
          obtain ⟨a, h1, h⟩ := Option.bind_eq_some_iff.mp h
          obtain ⟨⟨ke, me⟩, h2, h⟩ := Option.bind_eq_some_iff.mp h
          split at h
          · rename_i ho
            cases h
            obtain ⟨g1, g2, g3⟩ := asgOf_ok G h1
            obtain ⟨E, _⟩ := S Γ _ ke me X h2 G.toGamOk
            exact PS.weak (ps_asg E.val g1 (sw_false (l := pos.line) hs) rfl rfl) fun D σ H q => asg_run ho (fun _ _ _ q => q) q
          · cases h
        · cases h
    · cases h
  · split at h
    · cases h
    · rename_i hc
      obtain ⟨a, h1, h⟩ := Option.bind_eq_some_iff.mp h
      obtain ⟨⟨ke, me⟩, h2, h⟩ := Option.bind_eq_some_iff.mp h
      split at h
      · rename_i ho
        cases h
        obtain ⟨g1, g2, g3⟩ := asgOf_ok G h1
        obtain ⟨E, _⟩ := S Γ _ ke me X h2 G.toGamOk
        rw [Bool.not_eq_true, Bool.or_eq_false_iff, Bool.and_eq_false_iff, Bool.and_eq_false_iff] at hc
        have fin : (isTup tg = false ∨ isTup e = false) → PS X (.Assign [tg] e pos) (tSt X.K Γ.ow kf (a.sm me)) := fun ht => PS.weak (ps_asgG E.val g1 hc.1 ht g2 g3) fun D σ H q => asg_run ho (fun _ _ _ q => q) q
        rcases hc.2 with z | z | z
        · exact fin (.inl z)
        · exact fin (.inr z)
        · have z' : cellT X.env.scope tg = true := by simpa using z
          by_cases h1 : isTup e = true
          · cases tg with
            | Tuple ts kt pt =>
              cases e with
              | Tuple vs k2 pt2 => exact PS.weak (ps_asg E.val g1 (sw_no (env := X.env) hc.1 (some (.Tuple ts kt pt)) pos.line) (stores_cell z') rfl) fun D σ H q => asg_run ho (fun _ _ _ q => q) q
              | _ => cases h1
            | _ => cases z'
          · exact fin (.inr (by simpa using h1))
      · cases h
/-- a, b = e, e' -/
def parB (sc : Scope) (x y : Str) (px py : Pos) (a b : Expr) : Bool :=
  decide (sc.names.lookup x = some .local) && (decide (sc.names.lookup y = some .local) && ((py.line == px.line) && (decide (x ≠ y) && ((noStar a && noStar b) && (!(foldedForSure 8 a && foldedForSure 8 b) && !(constantsAlone 8 a && constantsAlone 8 b))))))
theorem no_star1 {a : Expr} (h : noStar a = true) : (match a with
    | .Starred _ _ => true
    | _ => false) = false := by cases a <;> first | rfl | cases h
theorem par_stores {x y : Str} {px py pt pt2 : Pos} {kt k2 : Nat} {a b : Expr} {env : PySem.Env} (hk : env.scope.kind = .function) (h : parB env.scope x y px py a b = true) :
    swappedStores [.Tuple [.Name x px, .Name y py] kt pt] (.Tuple [a, b] k2 pt2) env = pure (some [x, y]) := by
  simp only [parB, Bool.and_eq_true, decide_eq_true_eq, Bool.not_eq_true'] at h
  obtain ⟨h1, h2, h3, h4, ⟨h5, h6⟩, h7, h8⟩ := h
  have kx : env.kindOf x = some .local := h1
  have ky : env.kindOf y = some .local := h2
  have hb : env.blockKind = .function := by unfold Env.blockKind; rw [hk]; rfl
  have hxy : (x == y) = false := by simpa using h4
  have hyx : (y == x) = false := by simpa using fun z : y = x => h4 z.symm
  have h3' : py.line = px.line := by simpa using h3
  have fm : ∀ g : Expr → Option Str, g (Expr.Name y py) = some y → List.filterMap g [Expr.Name y py] = [y] := fun g hg => by
    rw [List.filterMap_cons, hg]
    rfl
  have sm : ∀ g : Expr → Bool, (∀ c, noStar c = true → g c = false) → (g a = true ∨ g b = true) = False := fun g hg => by
    rw [hg a h5, hg b h6]
    simp
  unfold swappedStores
  simp [hb, kx, Expr.pos, h7, h8, List.eraseDups_cons]
  rw [fm _ (by simp [ky, h3'])]
  rw [if_neg, if_neg (by simp [List.eraseDups_cons, hyx])]
  rintro (z | z)
  · cases a <;> first | (cases h5; done) | (cases z; done)
  · cases b <;> first | (cases h6; done) | (cases z; done)
def dPar (d : Den) (Γ : Gam) (sc : Scope) (tg e : Expr) : Option SM := match tg, e with
  | .Tuple [.Name x px, .Name y py] _ _, .Tuple [a, b] _ _ => if parB sc x y px py a b = true then (ixOf Γ.N x).bind fun i => (ixOf Γ.N y).bind fun j => if i ∉ Γ.ow ∧ j ∉ Γ.ow ∧ i ≠ j then (dList d Γ sc [a, b]).bind fun ms => (match ms with
      | [ma, mb] => some (mPar i j ma mb)
      | _ => none) else none else none
  | _, _ => none
theorem dPar_ok {tg : Expr} {pos : Pos} {s : SM} (S : Sound T nn d) (G : Body T nn Γ X) (h : dPar d Γ X.env.scope tg e = some s) : PS X (.Assign [tg] e pos) (tSt X.K Γ.ow kf s) := by
  unfold dPar at h
  split at h
  · split at h
    · rename_i hp
      obtain ⟨i, h1, h⟩ := Option.bind_eq_some_iff.mp h
      obtain ⟨j, h2, h⟩ := Option.bind_eq_some_iff.mp h
      split at h
      · rename_i hw
        obtain ⟨w1, w2, w3⟩ := hw
        obtain ⟨ms, h3, h⟩ := Option.bind_eq_some_iff.mp h
        split at h
        · cases h
          obtain ⟨r1, _, _⟩ := dList_ok S G.toGamOk h3
          rename_i x px y py kt pt a b k2 pt2 _ _ _ _ _ _ _
          have st := par_stores (kt := kt) (pt := pt) (k2 := k2) (pt2 := pt2) G.kind hp
          simp only [parB, Bool.and_eq_true, decide_eq_true_eq] at hp
          exact PS.weak (ps_par G.calm (by rw [G.N]; exact G.nd) (by rw [G.N]; exact ixOf_ok h1) (by rw [G.N]; exact ixOf_ok h2) w3 hp.1 hp.2.1 r1 st) fun D σ H q => tSt_par w1 w2 q
        · cases h
      · cases h
    · cases h
  · cases h
/-- a, b(, c) = e, e'(, e''), owned slots among them -/
def dArgM (d : Den) (Γ : Gam) (sc : Scope) : List Bool → List Expr → Option (List EM)
  | [], [] => some []
  | b :: bs, e :: es => (d Γ sc e).bind fun p => (if b = true then (if p.1 = .F then some p.2 else none) else needC p).bind fun m => (dArgM d Γ sc bs es).map (m :: ·)
  | _, _ => none
theorem dArgM_ok (S : Sound T nn d) (G : GamOk T nn Γ X) : ∀ {bs : List Bool} {es : List Expr} {ms : List EM}, dArgM d Γ X.env.scope bs es = some ms → PA X es (tM X.K Γ.ow bs ms)
  | [], [], ms, h => by
    cases h
    exact pa_nil
  | [], _ :: _, ms, h => by simp [dArgM] at h
  | _ :: _, [], ms, h => by simp [dArgM] at h
  | b :: bs, e :: es, ms, h => by
    simp only [dArgM] at h
    obtain ⟨⟨ke, me⟩, h1, h⟩ := Option.bind_eq_some_iff.mp h
    obtain ⟨m, h2, h⟩ := Option.bind_eq_some_iff.mp h
    obtain ⟨ms', h3, e'⟩ := Option.map_eq_some_iff.mp h
    subst e'
    obtain ⟨E, nE⟩ := S Γ e ke me X h1 G
    have r := dArgM_ok S G h3
    cases b with
    | true =>
      simp only [if_true] at h2
      split at h2
      · rename_i hk
        cases h2
        have hk' : ke = .F := hk
        subst hk'
        exact pa_cons E.val r (star_of nE es)
      · cases h2
    | false =>
      simp only [Bool.false_eq_true, if_false] at h2
      obtain ⟨c1, rfl, _⟩ := E.toC h2
      exact pa_cons c1 r (star_of nE es)
def parB3 (sc : Scope) (x y z : Str) (px py pz : Pos) (a b c : Expr) : Bool :=
  decide (sc.names.lookup x = some .local) && (decide (sc.names.lookup y = some .local) && (decide (sc.names.lookup z = some .local) && ((py.line == px.line) && ((pz.line == px.line) && (decide (x ≠ y) && (decide (x ≠ z) && (decide (y ≠ z) && ((noStar a && (noStar b && noStar c)) && (!(foldedForSure 8 a && (foldedForSure 8 b && foldedForSure 8 c)) && !(constantsAlone 8 a && (constantsAlone 8 b && constantsAlone 8 c)))))))))))
theorem par_stores3 {x y z : Str} {px py pz pt pt2 : Pos} {kt k2 : Nat} {a b c : Expr} {env : PySem.Env} (hk : env.scope.kind = .function) (h : parB3 env.scope x y z px py pz a b c = true) :
    swappedStores [.Tuple [.Name x px, .Name y py, .Name z pz] kt pt] (.Tuple [a, b, c] k2 pt2) env = pure (some [x, y, z]) := by
  simp only [parB3, Bool.and_eq_true, decide_eq_true_eq, Bool.not_eq_true'] at h
  obtain ⟨h1, h2, h2', h3, h3', h4, h4', h4'', ⟨h5, h6, h6'⟩, h7, h8⟩ := h
  have kx : env.kindOf x = some .local := h1
  have ky : env.kindOf y = some .local := h2
  have kz : env.kindOf z = some .local := h2'
  have hb : env.blockKind = .function := by unfold Env.blockKind; rw [hk]; rfl
  have hyx : (y == x) = false := by simpa using fun q : y = x => h4 q.symm
  have hzx : (z == x) = false := by simpa using fun q : z = x => h4' q.symm
  have hzy : (z == y) = false := by simpa using fun q : z = y => h4'' q.symm
  have l1 : py.line = px.line := by simpa using h3
  have l2 : pz.line = px.line := by simpa using h3'
  have fm : ∀ g : Expr → Option Str, g (Expr.Name x px) = some x → g (Expr.Name y py) = some y → g (Expr.Name z pz) = some z → List.filterMap g [Expr.Name x px, Expr.Name y py, Expr.Name z pz] = [x, y, z] := fun g g1 g2 g3 => by
    rw [List.filterMap_cons_some g1, List.filterMap_cons_some g2, List.filterMap_cons_some g3]
    rfl
  unfold swappedStores
  dsimp only
  rw [if_neg (by simp [hb])]
  rw [if_neg (by
    simp only [List.any_cons, List.any_nil, Bool.or_false, Bool.or_eq_true, not_or]
    refine ⟨?_, ?_, ?_⟩
    · cases a <;> first | (cases h5; done) | simp
    · cases b <;> first | (cases h6; done) | simp
    · cases c <;> first | (cases h6'; done) | simp)]
  rw [fm _ (by simp [kx, Expr.pos]) (by simp [ky, Expr.pos, l1]) (by simp [kz, Expr.pos, l2])]
  rw [if_neg (by simp [List.eraseDups_cons, hyx, hzx, hzy])]
  rw [if_neg (by
    simp only [List.all_cons, List.all_nil, Bool.and_true]
    rw [h7]
    exact Bool.false_ne_true)]
  rw [if_neg (by
    simp only [List.all_cons, List.all_nil, Bool.and_true]
    rw [h8]
    exact Bool.false_ne_true)]
def isOw (Γ : Gam) (i : Nat) : Bool := decide (i ∈ Γ.ow)
def dMul (d : Den) (Γ : Gam) (sc : Scope) (tg e : Expr) : Option SM := match tg, e with
  | .Tuple [.Name x px, .Name y py] _ _, .Tuple [a, b] _ _ => if parB sc x y px py a b = true then (ixOf Γ.N x).bind fun i => (ixOf Γ.N y).bind fun j => if i ≠ j then (dArgM d Γ sc [isOw Γ i, isOw Γ j] [a, b]).map (mMany [i, j] [isOw Γ i, isOw Γ j]) else none else none
  | .Tuple [.Name x px, .Name y py, .Name z pz] _ _, .Tuple [a, b, c] _ _ => if parB3 sc x y z px py pz a b c = true then (ixOf Γ.N x).bind fun i => (ixOf Γ.N y).bind fun j => (ixOf Γ.N z).bind fun k => if i ≠ j ∧ i ≠ k ∧ j ≠ k then (dArgM d Γ sc [isOw Γ i, isOw Γ j, isOw Γ k] [a, b, c]).map (mMany [i, j, k] [isOw Γ i, isOw Γ j, isOw Γ k]) else none else none
  | _, _ => none
theorem isOw_ok (i : Nat) : (isOw Γ i = true ∧ i ∈ Γ.ow) ∨ (isOw Γ i = false ∧ i ∉ Γ.ow) := by
  unfold isOw
  by_cases h : i ∈ Γ.ow
  · exact .inl ⟨decide_eq_true h, h⟩
  · exact .inr ⟨decide_eq_false h, h⟩
theorem dMul_ok {tg : Expr} {pos : Pos} {s : SM} (S : Sound T nn d) (G : Body T nn Γ X) (h : dMul d Γ X.env.scope tg e = some s) : PS X (.Assign [tg] e pos) (tSt X.K Γ.ow kf s) := by
  unfold dMul at h
  split at h
  · split at h
    · rename_i hp
      obtain ⟨i, h1, h⟩ := Option.bind_eq_some_iff.mp h
      obtain ⟨j, h2, h⟩ := Option.bind_eq_some_iff.mp h
      split at h
      · rename_i hw
        obtain ⟨ms, h3, e'⟩ := Option.map_eq_some_iff.mp h
        subst e'
        have r1 := dArgM_ok S G.toGamOk h3
        have hp' := hp
        simp only [parB, Bool.and_eq_true, decide_eq_true_eq] at hp
        exact PS.weak (ps_mul2 G.calm (by rw [G.N]; exact G.nd) (by rw [G.N]; exact ixOf_ok h1) (by rw [G.N]; exact ixOf_ok h2) hw hp.1 hp.2.1 r1 (par_stores G.kind hp')) fun D σ H q => tSt_many ⟨isOw_ok _, isOw_ok _, trivial⟩ q
      · cases h
    · cases h
  · split at h
    · rename_i hp
      obtain ⟨i, h1, h⟩ := Option.bind_eq_some_iff.mp h
      obtain ⟨j, h2, h⟩ := Option.bind_eq_some_iff.mp h
      obtain ⟨k, h2', h⟩ := Option.bind_eq_some_iff.mp h
      split at h
      · rename_i hw
        obtain ⟨ms, h3, e'⟩ := Option.map_eq_some_iff.mp h
        subst e'
        have r1 := dArgM_ok S G.toGamOk h3
        have hp' := hp
        simp only [parB3, Bool.and_eq_true, decide_eq_true_eq] at hp
        exact PS.weak (ps_mul3 G.calm (by rw [G.N]; exact G.nd) (by rw [G.N]; exact ixOf_ok h1) (by rw [G.N]; exact ixOf_ok h2) (by rw [G.N]; exact ixOf_ok h2') hw.1 hw.2.1 hw.2.2 hp.1 hp.2.1 hp.2.2.1 r1 (par_stores3 G.kind hp')) fun D σ H q => tSt_many ⟨isOw_ok _, isOw_ok _, isOw_ok _, trivial⟩ q
      · cases h
    · cases h
  · cases h
/-- x[i] = e -/
def dSet (d : Den) (Γ : Gam) (sc : Scope) (tg e : Expr) : Option SM := match tg with
  | .Subscript (.Name x _) i _ => if okNm x = true ∧ isComp e = false ∧ (sc.names.lookup x = some .local ∨ sc.names.lookup x = some .cell) then (ixOf Γ.N x).bind fun j => (d Γ sc i).bind fun I => (needC I).bind fun mi => (d Γ sc e).bind fun E => (needC E).map fun me =>
      if j ∈ Γ.ow then mSetO j mi me else mSetS j mi me else none
  | _ => none
theorem dSet_ok {tg : Expr} {pos : Pos} {s : SM} (S : Sound T nn d) (G : Body T nn Γ X) (h : dSet d Γ X.env.scope tg e = some s) : PS X (.Assign [tg] e pos) (tSt X.K Γ.ow kf s) := by
  unfold dSet at h
  split at h
  · rename_i x px i pt
    split at h
    · rename_i hx
      obtain ⟨ho, hc, hl⟩ := hx
      obtain ⟨j, h1, h⟩ := Option.bind_eq_some_iff.mp h
      obtain ⟨⟨ki, mi⟩, h2, h⟩ := Option.bind_eq_some_iff.mp h
      obtain ⟨mi', h3, h⟩ := Option.bind_eq_some_iff.mp h
      obtain ⟨⟨ke, me⟩, h4, h⟩ := Option.bind_eq_some_iff.mp h
      obtain ⟨me', h5, e'⟩ := Option.map_eq_some_iff.mp h
      subst e'
      obtain ⟨I, nI⟩ := S Γ i ki mi X h2 G.toGamOk
      obtain ⟨E, _⟩ := S Γ e ke me X h4 G.toGamOk
      obtain ⟨i1, ei, _⟩ := I.toC h3
      obtain ⟨c1, ee, _⟩ := E.toC h5
      subst ei
      subst ee
      obtain ⟨o1, o2, o3⟩ := okNm_ok ho
      have hN : X.N[j]? = some x := by rw [G.N]; exact ixOf_ok h1
      have pv : PE X (.Name x px) (tVar j) := pe_var hN (hl.elim .inl fun q => .inr (.inl q)) o1 o2
      have psub : PG X (.Subscript (.Name x px) i pt) (gSub (tVar j) (tEv X.K Γ.ow .C mi') rSetL) := pg_sub pv i1 set_list (by intro v; cases i <;> first | rfl | cases nI)
      have p1 : PS X (.Assign [.Subscript (.Name x px) i pt] e pos) (tAsg (tEv X.K Γ.ow .C me') (gSub (tVar j) (tEv X.K Γ.ow .C mi') rSetL)) :=
        ps_asgG c1 psub hc (.inl rfl) rfl fun _ _ z => nomatch z
      split
      · rename_i hw
        have p2 := ps_dput (X := X) (pos := pos) (by have := G.toGamOk.hu; omega) pv i1 c1 (sw_no (env := X.env) hc (some (.Subscript (.Name x px) i pt)) pos.line)
        exact PS.weak (PS.or p1 p2) fun D σ H q => tSt_setO hw q
      · exact PS.weak p1 fun D σ H q => tSt_setS q
    · cases h
  · cases h
def dAsg (d : Den) (Γ : Gam) (sc : Scope) (tg e : Expr) : Option SM := match dSet d Γ sc tg e with
  | some s => some s
  | none => match dPar d Γ sc tg e with
    | some s => some s
    | none => match dMul d Γ sc tg e with
      | some s => some s
      | none => dAsgN d Γ sc tg e
theorem dAsg_ok {tg : Expr} {pos : Pos} {s : SM} (S : Sound T nn d) (G : Body T nn Γ X) (h : dAsg d Γ X.env.scope tg e = some s) : PS X (.Assign [tg] e pos) (tSt X.K Γ.ow kf s) := by
  unfold dAsg at h
  split at h
  · rename_i s' h1
    cases h
    exact dSet_ok S G h1
  · split at h
    · rename_i s' h1
      cases h
      exact dPar_ok S G h1
    · split at h
      · rename_i s' h1
        cases h
        exact dMul_ok S G h1
      · exact dAsgN_ok S G h
def appN : Str := "append"
def dExp (d : Den) (Γ : Gam) (sc : Scope) (e : Expr) : Option SM := match e with
  | .Call (.Attribute (.Name x _) m ap) [a] [] cp => if m = appN then (if okNm x = true ∧ (ap.endLine == cp.line) = true ∧ (sc.names.lookup x = some .local ∨ sc.names.lookup x = some .cell) then (ixOf Γ.N x).bind fun i => if i ∈ Γ.ow then (d Γ sc a).bind fun A => (needC A).map fun ma => mApp i ma else none else none) else none
  | .Call (.Name x p) es [] p2 => (d Γ sc (.Call (.Name x p) es [] p2)).bind fun E => (needC E).map mExpr
  | _ => none
theorem dExp_ok {pos : Pos} {s : SM} (S : Sound T nn d) (G : Body T nn Γ X) (h : dExp d Γ X.env.scope e = some s) : PS X (.Expr e pos) (tSt X.K Γ.ow kf s) := by
  unfold dExp at h
  split at h
  · rename_i x px m ap a cp
    split at h
    · rename_i hm
      subst hm
      split at h
      · rename_i hx
        obtain ⟨ho, hln, hl⟩ := hx
        obtain ⟨i, h1, h⟩ := Option.bind_eq_some_iff.mp h
        split at h
        · rename_i hw
          obtain ⟨⟨ka, ma⟩, h2, h⟩ := Option.bind_eq_some_iff.mp h
          obtain ⟨ma', h3, e'⟩ := Option.map_eq_some_iff.mp h
          subst e'
          obtain ⟨A, na⟩ := S Γ a ka ma X h2 G.toGamOk
          obtain ⟨c1, ee, _⟩ := A.toC h3
          subst ee
          obtain ⟨o1, o2, o3⟩ := okNm_ok ho
          have hN : X.N[i]? = some x := by rw [G.N]; exact ixOf_ok h1
          have pv : PE X (.Name x px) (tVar i) := pe_var hN (hl.elim .inl fun q => .inr (.inl q)) o1 o2
          have st := star_of (X := X) na []
          have pe : PE X (.Call (.Attribute (.Name x px) appN ap) [a] [] cp) (tBM X.K "list" rAppend (tVar i) (tCons (tEv X.K Γ.ow .C ma') tNil)) :=
            pe_bm PySem.F.plainAttrs_list PySem.F.slot_list_append PySem.F.type_list_append mt_append pv (pa_cons c1 pa_nil st) rfl (by rw [st]; rfl) hln st rfl
          exact PS.weak (ps_expr pe rfl) fun D σ H q => tSt_app hw q
        · cases h
      · cases h
    · cases h
  · obtain ⟨⟨ke, me⟩, h1, h⟩ := Option.bind_eq_some_iff.mp h
    obtain ⟨me', h2, e'⟩ := Option.map_eq_some_iff.mp h
    subst e'
    obtain ⟨E, _⟩ := S Γ _ ke me X h1 G.toGamOk
    obtain ⟨c1, ee, _⟩ := E.toC h2
    subst ee
    exact PS.weak (ps_expr c1 rfl) fun D σ H q => tSt_expr q
  · cases h
mutual
def dStm (d : Den) (Γ : Gam) (kf : Kd) (sc : Scope) : Nat → Stmt → Option SM
  | 0, _ => none
  | n + 1, st => match st with
    | .Return (some e) _ => dRet d Γ kf sc e
    | .Assign [tg] e _ => dAsg d Γ sc tg e
    | .Expr e _ => dExp d Γ sc e
    | .Pass _ => some mSkip
    | .If c a b _ => if noIf c = true then (d Γ sc c).bind fun C => (needC C).bind fun mc => (dStms d Γ kf sc n a).bind fun sa => (dStms d Γ kf sc n b).map fun sb => mIf mc sa sb else none
    | .For tg it body [] _ => (dTg Γ sc (fun _ => true) 9 tg).bind fun t => if (t.slots.all fun i => !Γ.ow.contains i) = true then (dIt d Γ sc tg it).bind fun I => if I.1 = .C then (dStms d Γ kf sc n body).map fun sb => mFor t I.2 sb else none else none
    | _ => none
def dStms (d : Den) (Γ : Gam) (kf : Kd) (sc : Scope) : Nat → List Stmt → Option SM
  | 0, _ => none
  | n + 1, sts => match sts with
    | [] => some mSkip
    | st :: r => (dStm d Γ kf sc n st).bind fun s => match r with
      | [] => some s
      | _ => (dStms d Γ kf sc n r).map fun t => mSeq s t
end
mutual
theorem dStm_ok (S : Sound T nn d) (G : Body T nn Γ X) : ∀ {n : Nat} {st : Stmt} {s : SM}, dStm d Γ kf X.env.scope n st = some s → PS X st (tSt X.K Γ.ow kf s)
  | 0, _, _, h => by simp [dStm] at h
  | n + 1, st, s, h => by
    simp only [dStm] at h
    split at h
    · exact dRet_ok S G h
    · exact dAsg_ok S G h
    · exact dExp_ok S G h
    · cases h
      exact PS.weak ps_pass fun D σ H q => tSt_skip q
    · rename_i c a b pos
      split at h
      · rename_i hn
        obtain ⟨⟨kc, mc⟩, h1, h⟩ := Option.bind_eq_some_iff.mp h
        obtain ⟨mc', h2, h⟩ := Option.bind_eq_some_iff.mp h
        obtain ⟨sa, h3, h⟩ := Option.bind_eq_some_iff.mp h
        obtain ⟨sb, h4, e'⟩ := Option.map_eq_some_iff.mp h
        subst e'
        obtain ⟨C, _⟩ := S Γ c kc mc X h1 G.toGamOk
        obtain ⟨_, ee, ck⟩ := C.toC h2
        subst ee
        exact PS.weak (ps_if (C.tst ck hn) (dStms_ok S G h3) (dStms_ok S G h4)) fun D σ H q => tSt_if q
      · cases h
    · rename_i tg it body pos
      obtain ⟨t, h1, h⟩ := Option.bind_eq_some_iff.mp h
      split at h
      · rename_i hsl
        obtain ⟨⟨ki, mi⟩, h2, h⟩ := Option.bind_eq_some_iff.mp h
        split at h
        · rename_i hk
          obtain ⟨sb, h3, e'⟩ := Option.map_eq_some_iff.mp h
          subst e'
          have hk' : ki = .C := hk
          subst hk'
          obtain ⟨pI, nI⟩ := dIt_ok (bb := t.isTup) S G.toGamOk (dTg_tup h1) h2
          have hs : ∀ i ∈ t.slots, i ∉ Γ.ow := fun i hi => by
            have := List.all_eq_true.mp hsl i hi
            simpa using this
          have pg : PG X tg (gOf X.K t) := dTg_ok (n := 9) G.toGamOk (by rw [G.fn]; exact h1)
          exact PS.weak (ps_for (by rw [G.xe]; exact PassesOwn.never) G.calm pI pg (dStms_ok S G h3) (slot_fold nI X.env)) fun D σ H q => tSt_for hs q
        · cases h
      · cases h
    · cases h
theorem dStms_ok (S : Sound T nn d) (G : Body T nn Γ X) : ∀ {n : Nat} {sts : List Stmt} {s : SM}, dStms d Γ kf X.env.scope n sts = some s → PSs X sts (tSt X.K Γ.ow kf s)
  | 0, _, _, h => by simp [dStms] at h
  | n + 1, [], s, h => by
    simp only [dStms] at h
    cases h
    exact PSs.weak pss_nil fun D σ H q => tSt_skip q
  | n + 1, [st], s, h => by
    simp only [dStms] at h
    obtain ⟨s1, h1, h⟩ := Option.bind_eq_some_iff.mp h
    cases h
    exact pss_one (dStm_ok S G h1)
  | n + 1, st :: st2 :: r, s, h => by
    simp only [dStms] at h
    obtain ⟨s1, h1, h⟩ := Option.bind_eq_some_iff.mp h
    obtain ⟨s2, h2, e'⟩ := Option.map_eq_some_iff.mp h
    subst e'
    exact PSs.weak (pss_cons (dStm_ok S G h1) (dStms_ok S G h2)) fun D σ H q => tSt_seq q
end
end
end SH

namespace SH
open PySem L2
section
variable {T : List FnDef} {nn : Nat} {d : Den} {Γ : Gam} {X : Cx} {e : Expr} {k : Kd} {m : EM}
theorem ED.plain (main : PE X e (tEv X.K Γ.ow k m)) (he : ∀ whole, isTrue e X.env whole = (do let v ← whole; standAt e.pos; holding [v] (truthy v))) : ED X Γ.ow k e m := ⟨main, fun hk _ => tst_plain main hk he⟩
def sortN : Str := "sorted"
def setN : Str := "set"
/-- sorted(set(a)) -/
def dSortSet (d : Den) (Γ : Gam) (sc : Scope) (x : Str) (es : List Expr) : Option EK := match es with
  | [.Call (.Name y _) [a] [] _] => if x = sortN ∧ y = setN ∧ isB Γ sc x = true ∧ isB Γ sc y = true then (d Γ sc a).map fun A => (.F, mOp1 sortSetD A.2) else none
  | _ => none
theorem dSortSet_ok {x : Str} {es : List Expr} {p pos : Pos} (S : Sound T nn d) (G : GamOk T nn Γ X) (h : dSortSet d Γ X.env.scope x es = some (k, m)) : ED X Γ.ow k (.Call (.Name x p) es [] pos) m := by
  unfold dSortSet at h
  split at h
  · split at h
    · rename_i hx
      obtain ⟨rfl, rfl, b1, b2⟩ := hx
      obtain ⟨⟨ka, ma⟩, h1, e⟩ := Option.map_eq_some_iff.mp h
      cases e
      obtain ⟨A, na⟩ := S Γ _ ka ma X h1 G
      obtain ⟨g1, g2, _, _⟩ := isB_ok G b1
      obtain ⟨g3, g4, _, _⟩ := isB_ok G b2
      exact ED.plain (pe_sortSet rfl G.calm g1 g2 g3 g4 A.toT (star_of na [])) fun _ => rfl
    · cases h
  · cases h
/-- sorted(a, key=lambda y: y[0]) -/
def lamP : Arguments → Option Str
  | ⟨[], [⟨y, _, _⟩], none, [], [], none, []⟩ => if y = ("_law_row" : Str) ∨ y = ("pair" : Str) then some y else none
  | _ => none
def lamB (scope : Scope) (y : Str) : Bool := decide (scope.kind = .function) && (!scope.isCoroutine && (!scope.isGenerator && (decide (scope.names.lookup y = some .local) && scope.names.all fun z => !decide (z.2 = .cell) && !decide (z.2 = .free))))
theorem lamB_ok {scope : Scope} {y : Str} (h : lamB scope y = true) : Lam1 scope y := by
  unfold lamB at h
  simp only [Bool.and_eq_true, decide_eq_true_eq, Bool.not_eq_true', List.all_eq_true, decide_eq_false_iff_not] at h
  obtain ⟨h1, h2, h3, h4, h5⟩ := h
  exact ⟨h1, h2, h3, h4, fun z hz => (h5 z hz).1, fun z hz => (h5 z hz).2⟩
def dSortKey (d : Den) (Γ : Gam) (sc : Scope) (x : Str) (es : List Expr) (kws : List Keyword) : Option EK := match es, kws with
  | [a], [⟨some kk, .Lambda params (.Subscript (.Name y _) (.Constant (.int i) _ _) _) scope _, _⟩] =>
    if x = sortN ∧ kk = kwKey ∧ i = 0 ∧ isB Γ sc x = true ∧ lamB scope y = true ∧ lamP params = some y ∧ (y == ("__debug__" : Str)) = false then
      Γ.lam.bind fun l => (d Γ sc a).map fun A => (.F, mSortKey l.1 (l.2.2 ++ "<lambda>") l.2.1 A.2)
    else none
  | _, _ => none
theorem dSortKey_ok {x : Str} {es : List Expr} {kws : List Keyword} {p pos : Pos} (S : Sound T nn d) (G : GamOk T nn Γ X) (h : dSortKey d Γ X.env.scope x es kws = some (k, m)) : ED X Γ.ow k (.Call (.Name x p) es kws pos) m := by
  unfold dSortKey at h
  split at h
  · split at h
    · rename_i hx
      obtain ⟨rfl, rfl, rfl, b1, b2, b3, b4⟩ := hx
      obtain ⟨⟨n, P, q⟩, hl, h⟩ := Option.bind_eq_some_iff.mp h
      obtain ⟨⟨ka, ma⟩, h1, e⟩ := Option.map_eq_some_iff.mp h
      cases e
      obtain ⟨A, na⟩ := S Γ _ ka ma X h1 G
      obtain ⟨g1, g2, _, _⟩ := isB_ok G b1
      obtain ⟨eq, c, hc, TB⟩ := G.lam n P q hl
      subst eq
      refine ED.plain ?_ fun _ => rfl
      unfold lamP at b3
      split at b3
      · split at b3
        · rename_i hy
          cases b3
          refine pe_mSortKey rfl G.calm G.room TB hc g1 g2 A.toT (star_of na []) (lamB_ok b2) rfl b4 fun q pm cv ctv v => ?_
          rcases hy with rfl | rfl
          · rfl
          · rfl
        · cases b3
      · cases b3
    · cases h
  · cases h
def joinN : Str := "join"
def getN : Str := "get"
def baseB : Expr → Bool
  | .Name .. => true
  | .Constant .. => true
  | .Subscript .. => true
  | _ => false
theorem baseB_ok {o : Expr} (h : baseB o = true) (nm : Str) : attributeBase o nm X.env (eval o X.env) = eval o X.env := by
  cases o <;> first | rfl | cases h
def dMeth (d : Den) (Γ : Gam) (sc : Scope) (o : Expr) (nm : Str) (ap : Pos) (es : List Expr) (cp : Pos) : Option EK := if (baseB o && (ap.endLine == cp.line)) = true then (match es with
  | [a] => if nm = joinN then (d Γ sc o).bind fun O => (d Γ sc a).map fun A => (.C, mOp2 joinD O.2 A.2) else none
  | [a, b] => if nm = getN then (d Γ sc a).bind fun A => (needC A).bind fun ma => (d Γ sc b).bind fun B => (needC B).bind fun mb => (match o with
      | .Name x _ => (match look Γ.tabs x with
        | some tab => if okNm x = true ∧ sc.names.lookup x = some .globalImplicit then some (.C, mOp2 (kgetD tab) ma mb) else none
        | none => (d Γ sc o).map fun O => (.C, mOp3 get2D O.2 ma mb))
      | _ => (d Γ sc o).map fun O => (.C, mOp3 get2D O.2 ma mb)) else none
  | _ => none) else none
theorem dMeth_ok {o : Expr} {nm : Str} {es : List Expr} {ap cp : Pos} (S : Sound T nn d) (G : GamOk T nn Γ X) (h : dMeth d Γ X.env.scope o nm ap es cp = some (k, m)) : ED X Γ.ow k (.Call (.Attribute o nm ap) es [] cp) m := by
  unfold dMeth at h
  split at h
  · rename_i hb
    simp only [Bool.and_eq_true] at hb
    obtain ⟨hb, hln⟩ := hb
    split at h
    · rename_i a
      split at h
      · rename_i hn
        subst hn
        obtain ⟨⟨ko, mo⟩, h1, h⟩ := Option.bind_eq_some_iff.mp h
        obtain ⟨⟨ka, ma⟩, h2, e⟩ := Option.map_eq_some_iff.mp h
        cases e
        obtain ⟨O, no⟩ := S Γ o ko mo X h1 G
        obtain ⟨A, na⟩ := S Γ a ka ma X h2 G
        have main := pe_mJoin (X := X) (ap := ap) (cp := cp) rfl O.toT A.toT (baseB_ok hb _) hln (star_of na [])
        exact ⟨main, fun hk _ => tst_plain main hk fun _ => rfl⟩
      · cases h
    · rename_i a b
      split at h
      · rename_i hn
        subst hn
        obtain ⟨⟨ka, ma⟩, h1, h⟩ := Option.bind_eq_some_iff.mp h
        obtain ⟨ma', h2, h⟩ := Option.bind_eq_some_iff.mp h
        obtain ⟨⟨kb, mb⟩, h3, h⟩ := Option.bind_eq_some_iff.mp h
        obtain ⟨mb', h4, hF⟩ := Option.bind_eq_some_iff.mp h
        obtain ⟨A, na⟩ := S Γ a ka ma X h1 G
        obtain ⟨B, nb⟩ := S Γ b kb mb X h3 G
        obtain ⟨c1, e1, _⟩ := A.toC h2
        obtain ⟨c2, e2, _⟩ := B.toC h4
        subst e1
        subst e2
        have m2 : M2 X o getN ap a b cp := m2_of (baseB_ok hb _) hln (star_of na [b]) (star_of nb [])
        have gen : ∀ {r : Option EK}, r = ((d Γ X.env.scope o).map fun O => (Kd.C, mOp3 get2D O.2 ma' mb')) → r = some (k, m) → ED X Γ.ow k (.Call (.Attribute o getN ap) [a, b] [] cp) m := by
          intro r hr h
          rw [hr] at h
          obtain ⟨⟨ko, mo⟩, h5, e⟩ := Option.map_eq_some_iff.mp h
          cases e
          obtain ⟨O, no⟩ := S Γ o ko mo X h5 G
          have main := pe_mGet2 (by have := G.hu; omega) O.toT c1 c2 m2
          exact ⟨main, fun hk _ => tst_plain main hk fun _ => rfl⟩
        split at hF
        · rename_i x p
          split at hF
          · rename_i tab ht
            split at hF
            · rename_i hx
              cases hF
              have main := pe_mKGet (G.tabs _ (look_mem ht)) hx.2 (okNm_ok hx.1).1 c1 c2 m2
              exact ⟨main, fun hk _ => tst_plain main hk fun _ => rfl⟩
            · cases hF
          · exact gen rfl hF
        · exact gen rfl hF
      · cases h
    · cases h
  · cases h
def dPairs (d : Den) (Γ : Gam) (sc : Scope) : List (Option Expr) → List Expr → Option (List (EM × EM))
  | [], [] => some []
  | some a :: ks, b :: vs => (d Γ sc a).bind fun A => (needC A).bind fun ma => (d Γ sc b).bind fun B => (needC B).bind fun mb => (dPairs d Γ sc ks vs).map ((ma, mb) :: ·)
  | _, _ => none
theorem dPairs_ok {pos : Pos} (S : Sound T nn d) (G : GamOk T nn Γ X) : ∀ {ks : List (Option Expr)} {vs : List Expr} {l : List (EM × EM)}, dPairs d Γ X.env.scope ks vs = some l →
    PPs X pos ks vs (l.map fun p => (tEv X.K Γ.ow .C p.1, tEv X.K Γ.ow .C p.2)) ∧ ks.all (·.isSome) = true ∧ ks.length = vs.length ∧ l.length = ks.length
  | [], [], l, h => by
    cases h
    exact ⟨pps_nil, rfl, rfl, rfl⟩
  | [], _ :: _, l, h => by cases h
  | none :: _, _, l, h => by cases h
  | some _ :: _, [], l, h => by cases h
  | some a :: ks, b :: vs, l, h => by
    unfold dPairs at h
    obtain ⟨⟨ka, ma⟩, h1, h⟩ := Option.bind_eq_some_iff.mp h
    obtain ⟨ma', h2, h⟩ := Option.bind_eq_some_iff.mp h
    obtain ⟨⟨kb, mb⟩, h3, h⟩ := Option.bind_eq_some_iff.mp h
    obtain ⟨mb', h4, h⟩ := Option.bind_eq_some_iff.mp h
    obtain ⟨l', h5, e⟩ := Option.map_eq_some_iff.mp h
    subst e
    obtain ⟨c1, e1, _⟩ := (S Γ a ka ma X h1 G).1.toC h2
    obtain ⟨c2, e2, _⟩ := (S Γ b kb mb X h3 G).1.toC h4
    subst e1
    subst e2
    obtain ⟨r1, r2, r3, r4⟩ := dPairs_ok (pos := pos) S G h5
    exact ⟨pps_cons c1 c2 r1, by rw [List.all_cons, r2]; rfl, by simp [r3], by simp [r4]⟩
def dDict (d : Den) (Γ : Gam) (sc : Scope) (ks : List (Option Expr)) (vs : List Expr) : Option EK := match ks, vs with
  | [], [] => some (.F, mDic [])
  | ks, vs => if ks.length ≤ 15 ∧ ks ≠ [] then (dPairs d Γ sc ks vs).map fun l => (.F, mDic l) else none
theorem pe_mDic0 {pos : Pos} : PE X (.Dict [] [] pos) (tEv X.K Γ.ow .F (mDic [])) := pe_weak pe_dnewK fun σ H Q q => by
  obtain ⟨f, Z, ρ, st, E, d, st', e, q⟩ := q
  cases e
  intro p hp
  obtain ⟨x, r⟩ := dic_new (ks := []) (ds := []) (vs := []) E.st .nil rfl (fun s h => nomatch h) hp (Nat.zero_le _)
  exact q f _ _ x r
theorem dDict_ok {ks : List (Option Expr)} {vs : List Expr} {pos : Pos} (S : Sound T nn d) (G : GamOk T nn Γ X) (h : dDict d Γ X.env.scope ks vs = some (k, m)) : ED X Γ.ow k (.Dict ks vs pos) m := by
  unfold dDict at h
  split at h
  · cases h
    exact ⟨pe_mDic0, fun hk _ => tst_plain pe_mDic0 hk fun _ => rfl⟩
  · split at h
    · rename_i hl
      obtain ⟨l, h1, e⟩ := Option.map_eq_some_iff.mp h
      cases e
      obtain ⟨r1, r2, r3, r4⟩ := dPairs_ok (pos := pos) S G h1
      have main := pe_mDic r1 r2 r3 hl.2 hl.1 (by rw [r4]; exact hl.1)
      exact ⟨main, fun hk _ => tst_plain main hk fun _ => rfl⟩
    · cases h
end
def orE (a b : Option EK) : Option EK := match a with
  | some r => some r
  | none => b
def den (F : Ft) : Nat → Den
  | 0 => fun _ _ _ => none
  | n + 1 => fun Γ sc e => match e with
    | .Name x _ => dName Γ sc x
    | .Constant c _ _ => dConst c
    | .Tuple es _ _ => dTup (den F n) Γ sc es
    | .List es _ => dLst (den F n) Γ sc es
    | .BinOp a op b _ => dBin (den F n) Γ sc a op b
    | .UnaryOp op a _ => dUn (den F n) Γ sc op a
    | .BoolOp op es _ => dBool (den F n) Γ sc op es
    | .Compare a ops bs _ => dCmp (den F n) Γ sc a ops bs
    | .IfExp c a b _ => dIte (den F n) Γ sc c a b
    | .Subscript a i _ => dSub (den F n) Γ sc a i
    | .Call (.Name x _) es [] _ => orE (dSortSet (den F n) Γ sc x es) (dCallN (den F n) F Γ sc x es)
    | .Call (.Name x _) es kws _ => dSortKey (den F n) Γ sc x es kws
    | .Call (.Attribute o nm ap) es [] cp => dMeth (den F n) Γ sc o nm ap es cp
    | .Dict ks vs _ => dDict (den F n) Γ sc ks vs
    | .ListComp elt gens scope _ => dComp (den F n) Γ sc elt gens scope
    | _ => none
theorem den_ok (T : List FnDef) (nn : Nat) : ∀ n : Nat, Sound T nn (den (callT T nn) n)
  | 0 => fun Γ e k m X h _ => by simp [den] at h
  | n + 1 => fun Γ e k m X h G => by
    have S := den_ok T nn n
    simp only [den] at h
    split at h
    · exact ⟨dName_ok G h, rfl⟩
    · exact ⟨dConst_ok h, rfl⟩
    · exact ⟨dTup_ok S G h, rfl⟩
    · exact ⟨dLst_ok S G h, rfl⟩
    · exact ⟨dBin_ok S G h, rfl⟩
    · exact ⟨dUn_ok S G h, rfl⟩
    · exact ⟨dBool_ok S G h, rfl⟩
    · exact ⟨dCmp_ok S G h, rfl⟩
    · exact ⟨dIte_ok S G h, rfl⟩
    · exact ⟨dSub_ok S G h, rfl⟩
    · rename_i x p es pos
      cases h1 : dSortSet (den (callT T nn) n) Γ X.env.scope x es with
      | some r =>
        rw [h1] at h
        cases h
        exact ⟨dSortSet_ok S G h1, rfl⟩
      | none =>
        rw [h1] at h
        exact ⟨dCallN_ok S G h, rfl⟩
    · exact ⟨dSortKey_ok S G h, rfl⟩
    · exact ⟨dMeth_ok S G h, rfl⟩
    · exact ⟨dDict_ok S G h, rfl⟩
    · exact ⟨dComp_ok S G h, rfl⟩
    · cases h
/-- a def's body -/
def denBody (F : Ft) (Γ : Gam) (kf : Kd) (st : Stmt) : Option SM := dStms (den F 40) Γ kf (defScope st) 60 (defBody st)
end SH

namespace SH
open PySem L2
structure DS where
  name : Str
  st : Stmt
  g : Gam
  ps : List Str
/-- what is closed -/
structure DOk (T : List FnDef) (C : Gam) (j : Nat) (d : DS) : Prop where
  fn : ∃ fn, T[j]? = some fn ∧ fn.ps = d.ps.length ∧ fn.slots = d.g.N.length ∧ fn.fresh = false ∧ ∀ F, denBody F d.g .C d.st = some (fn.body F)
  scope : FnScope d.g.N d.ps (defScope d.st)
  how : ∀ i ∈ d.g.ow, d.ps.length ≤ i
  fns : d.g.fns = C.fns
  free : d.g.free = C.free
  cons : d.g.cons = C.cons
  tabs : d.g.tabs = C.tabs
  lam : ∀ n P q, d.g.lam = some (n, P, q) → q = d.name ++ ".<locals>."
/-- what the head tells of a def -/
structure DHd (K : Frag) (mg : Str → Option Value) (base : Heap) (d : DS) (f : Addr) (fd : FuncData) : Prop where
  fun_ : FunD K d.name d.name (defArgs d.st) (defBody d.st) (defScope d.st) [] [] f fd
  mg_ : mg d.name = some (.ref f)
  bind : Binds K fd d.ps []
  lam : ∀ n P q, d.g.lam = some (n, P, q) → ∃ c, fd.code = .ref c ∧ LamX.TabB base mg c P
/-- what the head tells of the rest -/
structure GHd (K : Frag) (w : World) (mg : Str → Option Value) (C : Gam) : Prop where
  free : ∀ x ∈ C.free, mg x = none
  cons : ∀ p ∈ C.cons, ∃ v u, mg p.1 = some u ∧ RelV v u ∧ ∀ f Z H, Rp K f Z H p.2 v
  tabs : ∀ p ∈ C.tabs, ∃ (d : Addr) (es : Array DictEntry) (n : Nat), mg p.1 = some (.ref d) ∧ KDict K w d es n ∧ ∀ z : Str, (match (p.2.find? fun p => decide (p.1 = z)) with
    | some p => ∃ t, PySem.W.nsIn K d z = some (some (.int p.2 t))
    | none => PySem.W.nsIn K d z = some none)
theorem spF_zero {K : Frag} {T : List FnDef} {j : Nat} {vs : List V} {H : Hp} {Q : VK} {E : XK} (h : spF K T 0 j vs H Q E) : False := by
  obtain ⟨f, Z, ds, st, S, r, d, st', e, _⟩ := h
  cases e
theorem all_ok {P : Program} {w : World} {K : Frag} {mg : Str → Option Value} {base : Heap} {T : List FnDef} {C : Gam} {ds : List DS} (hd : ∀ j d, ds[j]? = some d → DOk T C j d) (hh : ∀ d ∈ ds, ∃ f fd, DHd K mg base d f fd) (hg : GHd K w mg C)
    (hf : ∀ p ∈ C.fns, ∃ d, ds[p.2.1]? = some d ∧ d.name = p.1 ∧ p.2.2 = false) : ∀ (n j : Nat) (d : DS), ds[j]? = some d → ∀ f fd, DHd K mg base d f fd → FnG P w K mg base CX0 n f fd d.ps (spF K T n j)
  | 0, j, d, _, f, fd, _ => ⟨fun vs H Q E h => (spF_zero h).elim, fun A outer s H args us vs Q E _ _ _ _ _ h => (spF_zero h).elim⟩
  | n + 1, j, d, hj, f, fd, D => by
    have ih := all_ok (P := P) hd hh hg hf n
    have O := hd j d hj
    obtain ⟨fn, h1, h2, h3, h4, h5⟩ := O.fn
    have hk : ∀ i d, ds[i]? = some d → kdOf T i = .C := fun i d hi => by
      obtain ⟨fn, g1, _, _, g4, _⟩ := (hd i d hi).fn
      unfold kdOf
      rw [g1]
      simp [g4]
    refine fnOk_of (ow := d.g.ow) D.fun_ O.scope h1 h2 h3 O.how fun X e1 e2 e3 e4 e5 e6 e7 e8 e0 hr e9 e10 e11 e12 => ?_
    subst e3
    have G : GamOk T n d.g X := by
      refine ⟨e6, O.scope.nd, e8, e0, hr, e9, fun p hp => ?_, fun x hx => ?_, fun p hp => ?_, fun p hp => ?_, fun m Q q hl => ?_⟩
      · rw [O.fns] at hp
        obtain ⟨d2, g1, g2, g3⟩ := hf p hp
        obtain ⟨f2, fd2, D2⟩ := hh d2 (List.mem_of_getElem? g1)
        refine ⟨⟨f2, fd2, d2.ps, ?_, ?_, D2.fun_.kp, D2.bind⟩, ?_⟩
        · rw [e1, e2, e4, e5]
          exact ih _ d2 g1 f2 fd2 D2
        · rw [e4, ← g2]
          exact D2.mg_
        · rw [hk _ d2 g1, g3]
          rfl
      · rw [O.free] at hx
        rw [e4]
        exact hg.free x hx
      · rw [O.cons] at hp
        rw [e4]
        exact hg.cons p hp
      · rw [O.tabs] at hp
        refine ⟨?_⟩
        rw [e4, e2]
        exact hg.tabs p hp
      · obtain ⟨c, c1, c2⟩ := D.lam m Q q hl
        rw [e5, e4]
        exact ⟨e11.trans (O.lam m Q q hl).symm, c, e12.trans c1, c2⟩
    have B : Body T n d.g X := { G with kind := by rw [e7]; exact O.scope.kind, fn := e10 }
    have hb := h5 (callT T n)
    unfold denBody at hb
    rw [← e7] at hb
    rw [hk j d hj]
    exact dStms_ok (den_ok T n 40) B hb
end SH

namespace SH
open PySem L2
theorem nsIn_no {K : Frag} {d : Addr} {ks : List (Option (Str × Int))} {z : Str} (h : He.dicW K d = some ks) (hk : ∀ k ∈ ks, ∃ y i, k = some (y, i) ∧ y ≠ z) : PySem.W.nsIn K d z = some none := by
  unfold He.dicW at h
  unfold PySem.W.nsIn
  cases q : K.lookup d with
  | none => rw [q] at h; cases h
  | some o =>
    obtain ⟨oc, od, dt, osl⟩ := o
    rw [q] at h
    cases oc with
    | type c =>
      cases od with
      | none =>
        cases dt with
        | dict es n =>
          dsimp only at h ⊢
          split at h
          · have e : es.toList.map He.keyOf = ks := Option.some.inj h
            have key : ∀ e ∈ es.toList, ∃ y t, e.key = .str y t ∧ y ≠ z := fun e he => by
              obtain ⟨y, i, h1, h2⟩ := hk (He.keyOf e) (by rw [← ‹es.toList.map He.keyOf = ks›]; exact List.mem_map_of_mem he)
              unfold He.keyOf at h1
              split at h1
              · rename_i x t hx
                cases h1
                exact ⟨_, t, hx, h2⟩
              · cases h1
            have f1 : es.toList.find? (·.key.isStr z) = none := by
              rw [List.find?_eq_none]
              intro e he
              obtain ⟨y, t, hy, hn⟩ := key e he
              rw [hy]
              show ¬ (y == z) = true
              rw [beq_iff_eq]
              exact hn
            have f2 : es.toList.any (·.refKey) = false := by
              rw [List.any_eq_false]
              intro e he
              obtain ⟨y, t, hy, _⟩ := key e he
              unfold DictEntry.refKey
              rw [hy]
              exact Bool.false_ne_true
            rw [f1]
            dsimp only
            rw [f2]
            rfl
          · cases h
        | _ => cases h
      | some b => cases dt <;> cases h
    | _ => cases od <;> cases dt <;> cases h
theorem ktab_of {K : Frag} {w : World} {d : Addr} {tab : List (Str × Int)} (h : He.dicW K d = some (He.keysIn w.params (tab.map (·.1)))) (hv : He.valsB K d (tab.map fun p => (p.1, He.Dv.int p.2)) = true) :
    ∃ (es : Array DictEntry) (n : Nat), KDict K w d es n ∧ ∀ z : Str, (match (tab.find? fun p => decide (p.1 = z)) with
    | some p => ∃ t, PySem.W.nsIn K d z = some (some (.int p.2 t))
    | none => PySem.W.nsIn K d z = some none) := by
  obtain ⟨es, n, D⟩ := He.dicW_ok h
  refine ⟨es, n, D, fun z => ?_⟩
  cases hf : tab.find? (fun p => decide (p.1 = z)) with
  | some p =>
    have h1 := List.find?_some hf
    have h2 := List.mem_of_find?_eq_some hf
    simp only [decide_eq_true_eq] at h1
    subst h1
    obtain ⟨u, e1, e2⟩ := He.valsB_ok hv (q := (p.1, He.Dv.int p.2)) (List.mem_map.mpr ⟨p, h2, rfl⟩)
    obtain ⟨t, rfl⟩ := e2
    exact ⟨t, e1⟩
  | none =>
    refine nsIn_no h fun k hk => ?_
    obtain ⟨y, hy, rfl⟩ := List.mem_map.mp hk
    obtain ⟨p, hp, rfl⟩ := List.mem_map.mp hy
    refine ⟨_, _, rfl, fun e => ?_⟩
    have := List.find?_eq_none.mp hf p hp
    simp [e] at this
/-- the store at the start: one table a def with lambdas; qs: their names -/
def st0 : List Str → (Nat → Addr) → Nat → Store
  | [], _, _ => []
  | q :: r, pa, i => .tab q (pa i) :: st0 r pa (i + 1)
def f0 : Nat → (Nat → Addr) → Nat → List Addr
  | 0, _, _ => []
  | n + 1, pa, i => pa i :: f0 n pa (i + 1)
theorem f0_get (pa : Nat → Addr) : ∀ (n i j : Nat), (f0 n pa i)[j]? = if j < n then some (pa (i + j)) else none
  | 0, i, j => by simp [f0]
  | n + 1, i, 0 => by simp [f0]
  | n + 1, i, j + 1 => by
    have := f0_get pa n (i + 1) j
    simp only [f0, List.getElem?_cons_succ, this]
    rw [show i + 1 + j = i + (j + 1) by omega]
    simp
theorem st0_get (pa : Nat → Addr) : ∀ (qs : List Str) (i j : Nat) (o : O), (st0 qs pa i)[j]? = some o → ∃ q, o = .tab q (pa (i + j)) ∧ j < qs.length
  | [], i, j, o, h => by simp [st0] at h
  | q :: r, i, 0, o, h => by
    simp [st0] at h
    exact ⟨q, h.symm, by simp⟩
  | q :: r, i, j + 1, o, h => by
    obtain ⟨q', h1, h2⟩ := st0_get pa r (i + 1) j o (by simpa [st0] using h)
    exact ⟨q', by rw [h1, show i + 1 + j = i + (j + 1) by omega], by simpa using h2⟩
theorem st0_len (pa : Nat → Addr) : ∀ (qs : List Str) (i : Nat), (st0 qs pa i).length = qs.length
  | [], _ => rfl
  | q :: r, i => by simp [st0, st0_len pa r]
theorem f0_len (pa : Nat → Addr) : ∀ (n i : Nat), (f0 n pa i).length = n
  | 0, _ => rfl
  | n + 1, i => by simp [f0, f0_len pa n]
theorem mem_f0 {pa : Nat → Addr} {n : Nat} {a : Addr} (h : a ∈ f0 n pa 0) : ∃ j, j < n ∧ a = pa j := by
  obtain ⟨j, hj⟩ := List.getElem?_of_mem h
  rw [f0_get] at hj
  split at hj
  · rename_i hl
    cases hj
    exact ⟨j, hl, by simp⟩
  · cases hj
theorem spF_law {K : Frag} {T : List FnDef} {k i : Nat} {qs : List Str} {pa : Nat → Addr} {H : Hp} {a : Addr} {ns : List Int} {st' : Store} (hT : kdOf T i = .C) (hnd : (f0 qs.length pa 0).Nodup) (hH : ∀ j, j < qs.length → H (pa j) = some (.tbl #[])) (hS : SqL K H a (ns.map V.int)) (hl : ns.length ≤ 63)
    (hr : callT T k i [.scr ns] (st0 qs pa 0) = .ok (.bl true) st') : spF K T k i [.ref a] H (fun v _ => v = .bl true) fun _ _ _ => False := by
  have na : ∀ u, H a = some u → (∀ ps, u ≠ .tbl ps) → a ∉ f0 qs.length pa 0 := fun u e n hm => by
    obtain ⟨j, hj, rfl⟩ := mem_f0 hm
    rw [hH j hj] at e
    cases e
    exact n _ rfl
  refine ⟨f0 qs.length pa 0, noZ, [.scr ns], st0 qs pa 0, ⟨hnd, by rw [f0_len, st0_len], fun n o b e1 e2 => ?_, fun a z => z.elim⟩, .cons (.scr ?_ hl) .nil, .bl true, st', hr, fun f' H' v x p => ?_⟩
  · obtain ⟨q, rfl, hn⟩ := st0_get pa qs 0 n o e1
    rw [f0_get, if_pos hn] at e2
    cases e2
    refine ⟨rfl, #[], by rw [Nat.zero_add]; exact hH n hn, trivial, fun pos cv hc => ?_⟩
    have z : codeAmong pos [] = some cv := hc
    simp [codeAmong] at z
  · rcases hS with (e | ⟨o, e⟩) | h
    · exact .inl ⟨⟨_, e, .inl rfl⟩, na _ e (fun ps z => nomatch z), fun z => z⟩
    · exact .inl ⟨⟨_, e, .inr ⟨o, rfl⟩⟩, na _ e (fun ps z => nomatch z), fun z => z⟩
    · exact .inr h
  · rw [hT] at p
    obtain ⟨_, r⟩ := p
    cases r
    rfl
/-- a def's code object and its table -/
theorem lam_of {K : Frag} {mg : Str → Option Value} {base : Heap} {x qual : Str} {params : Arguments} {body : List Stmt} {scope : Scope} {p : He.Defn} {fd : FuncData} (F : FunD K x qual params body scope [] [] (He.fAd K p) fd) (TB : LamX.TabB base mg (He.cT K p).1 (He.cT K p).2) :
    ∃ c, fd.code = .ref c ∧ LamX.TabB base mg c (He.cT K p).2 := by
  obtain ⟨oc, od, dV, kV, doc, pm, an, cdv, ct, osl, rfl, lk, hcd, _, _⟩ := F.ex
  obtain ⟨c, rfl⟩ := He.codeIn_ref hcd
  have e : (He.cT K p).1 = c := He.codeOf_eq lk rfl
  rw [e] at TB
  exact ⟨c, rfl, TB⟩
end SH

namespace SH
open PySem L2
abbrev ix_row_of : Nat := 0
abbrev ix_least_value : Nat := 1
abbrev ix_reads : Nat := 2
abbrev ix_against : Nat := 3
abbrev ix_against_plain : Nat := 4
abbrev ix_against_list : Nat := 5
abbrev ix_against_either : Nat := 6
abbrev ix_with_pair : Nat := 7
abbrev ix_against_record : Nat := 8
abbrev ix__law_cell_at : Nat := 9
abbrev ix__law_draws : Nat := 10
abbrev ix__law_from : Nat := 11
abbrev ix__law_bag : Nat := 12
abbrev ix__law_bags : Nat := 13
abbrev ix__law_take : Nat := 14
abbrev ix__law_names : Nat := 15
abbrev ix__law_leaf : Nat := 16
abbrev ix__law_shape : Nat := 17
abbrev ix__law_value : Nat := 18
abbrev ix__law_near_leaf : Nat := 19
abbrev ix__law_near : Nat := 20
abbrev ix__law_near_fields : Nat := 21
abbrev ix__law_is_name : Nat := 22
abbrev ix__law_rows_right : Nat := 23
abbrev ix__law_is_value : Nat := 24
abbrev ix__law_letters : Nat := 25
abbrev ix__law_taken : Nat := 26
abbrev ix__law_taken_list : Nat := 27
abbrev ix__law_taken_record : Nat := 28
abbrev ix__law_corners : Nat := 29
abbrev ix__law_reads : Nat := 30
abbrev ix_law : Nat := 31
def b_row_of (F : Ft) : SM := (mSeq (mAsg (.nm 2) (mComp (mVar 3) (.nm 3) (iSeq (mVar 0)) (mOp2 (eqD false) (mOp2 ixD (mVar 3) (mLit (.int 0))) (mVar 1)) [3]))
(mRet (mIte (mOp2 (eqD true) (mVar 2) (mLst [])) (mOp2 ixD (mVar 2) (mLit (.int 0))) (mLit .non))))
def b_least_value (F : Ft) : SM := (mSeq (mAsg (.nm 1) (mOp2 ixD (mVar 0) (mLit (.int 0))))
(mSeq (mIf (mOp2 (eqD false) (mVar 1) (mLit (.str "whole")))
  (mRet (mOp2 min2D (mOp2 max2D (mLit (.int 0)) (mOp2 ixD (mVar 0) (mLit (.int 1)))) (mOp2 ixD (mVar 0) (mLit (.int 2)))))
  mSkip)
(mSeq (mIf (mOp2 (inD false) (mVar 1) (mTup [(mLit (.str "word")), (mLit (.str "truth"))]))
  (mRet (mIte (mOp2 (eqD false) (mVar 1) (mLit (.str "word"))) (mLit (.str "")) (mLit (.bl false))))
  mSkip)
(mSeq (mIf (mOp2 (eqD false) (mVar 1) (mLit (.str "one")))
  (mRet (mOp2 ixD (mOp2 ixD (mVar 0) (mLit (.int 1))) (mLit (.int 0))))
  mSkip)
(mSeq (mIf (mOp2 (eqD false) (mVar 1) (mLit (.str "list")))
  (mRet (mTup [(mLit (.str "list")), (mTup [])]))
  mSkip)
(mSeq (mIf (mOp2 (eqD false) (mVar 1) (mLit (.str "maybe")))
  (mRet (mLit .non))
  mSkip)
(mSeq (mIf (mOp2 (eqD false) (mVar 1) (mLit (.str "record")))
  (mRet (mTup [(mLit (.str "record")), (mOp1 tupleD (mComp (mTup [(mVar 2), (mCall F ix_least_value [(mVar 3)])]) (.tup [(.nm 2), (.nm 3), (.nm 4)]) (iSeq (mOp2 ixD (mVar 0) (mLit (.int 1)))) (mOp2 (eqD false) (mVar 4) (mTup [(mLit (.str "must"))])) [2, 3, 4]))]))
  mSkip)
(mRet (mTup [(mLit (.str "either")), (mOp2 ixD (mOp2 ixD (mOp2 ixD (mVar 0) (mLit (.int 1))) (mLit (.int 0))) (mLit (.int 0))), (mCall F ix_least_value [(mOp2 ixD (mOp2 ixD (mOp2 ixD (mVar 0) (mLit (.int 1))) (mLit (.int 0))) (mLit (.int 1)))])])))))))))
def b_reads (F : Ft) : SM := (mRet (mOp2 (isND false) (mCall F ix_against [(mVar 0), (mVar 1)]) (mLit .non)))
def b_against (F : Ft) : SM := (mSeq (mIf (mOp2 (eqD false) (mOp2 ixD (mVar 1) (mLit (.int 0))) (mLit (.str "maybe")))
  (mSeq (mIf (mOp2 (eqD true) (mOp2 ixD (mVar 0) (mLit (.int 0))) (mLit (.str "maybe")))
    (mRet (mTup [(mLit .non), (mTup [])]))
    mSkip)
  (mRet (mCall F ix_against [(mOp2 ixD (mVar 0) (mLit (.int 1))), (mOp2 ixD (mVar 1) (mLit (.int 1)))])))
  mSkip)
(mSeq (mIf (mOp2 (eqD false) (mOp2 ixD (mVar 0) (mLit (.int 0))) (mLit (.str "maybe")))
  (mRet (mCall F ix_against [(mOp2 ixD (mVar 0) (mLit (.int 1))), (mVar 1)]))
  mSkip)
(mSeq (mIf (mAnd (mOp2 (eqD false) (mOp2 ixD (mVar 0) (mLit (.int 0))) (mLit (.str "word"))) (mOp2 (eqD false) (mOp2 ixD (mVar 1) (mLit (.int 0))) (mLit (.str "one"))))
  (mSeq (mAsg (.nm 2) (mComp (mVar 3) (.nm 3) (iSeq (mOp2 ixD (mVar 1) (mLit (.int 1)))) (mOp2 gtD (mOp1 lenD (mVar 3)) (mOp2 ixD (mVar 0) (mLit (.int 1)))) [3]))
  (mRet (mIte (mOp2 (eqD true) (mVar 2) (mLst [])) (mTup [(mOp2 ixD (mVar 2) (mLit (.int 0))), (mTup [])]) (mLit .non))))
  mSkip)
(mSeq (mIf (mOp2 (eqD true) (mOp2 ixD (mVar 0) (mLit (.int 0))) (mOp2 ixD (mVar 1) (mLit (.int 0))))
  (mRet (mTup [(mCall F ix_least_value [(mVar 1)]), (mTup [])]))
  mSkip)
(mSeq (mIf (mOp2 (eqD false) (mOp2 ixD (mVar 0) (mLit (.int 0))) (mLit (.str "list")))
  (mRet (mCall F ix_against_list [(mVar 0), (mVar 1)]))
  mSkip)
(mSeq (mIf (mOp2 (eqD false) (mOp2 ixD (mVar 0) (mLit (.int 0))) (mLit (.str "record")))
  (mRet (mCall F ix_against_record [(mVar 0), (mVar 1)]))
  mSkip)
(mSeq (mIf (mOp2 (eqD false) (mOp2 ixD (mVar 0) (mLit (.int 0))) (mLit (.str "either")))
  (mRet (mCall F ix_against_either [(mVar 0), (mVar 1)]))
  mSkip)
(mRet (mCall F ix_against_plain [(mVar 0), (mVar 1)])))))))))
def b_against_plain (F : Ft) : SM := (mSeq (mIf (mOp2 (eqD false) (mOp2 ixD (mVar 0) (mLit (.int 0))) (mLit (.str "whole")))
  (mSeq (mAsg (.nm 2) (mComp (mVar 3) (.nm 3) (iSeq (mSl (mVar 1) (some (mLit (.int 1))) none)) (mOp1 notD (mChain leD leD (mOp2 ixD (mVar 0) (mLit (.int 1))) (mVar 3) (mOp2 ixD (mVar 0) (mLit (.int 2))))) [3]))
  (mRet (mIte (mOp2 (eqD true) (mVar 2) (mLst [])) (mTup [(mOp2 ixD (mVar 2) (mLit (.int 0))), (mTup [])]) (mLit .non))))
  mSkip)
(mSeq (mIf (mOp2 (eqD false) (mOp2 ixD (mVar 0) (mLit (.int 0))) (mLit (.str "word")))
  (mRet (mIte (mOp2 gtD (mOp2 ixD (mVar 1) (mLit (.int 1))) (mOp2 ixD (mVar 0) (mLit (.int 1)))) (mTup [(mOp2 mulD (mLit (.str "a")) (mOp2 ixD (mVar 1) (mLit (.int 1)))), (mTup [])]) (mLit .non)))
  mSkip)
(mSeq (mIf (mOp2 (eqD false) (mOp2 ixD (mVar 0) (mLit (.int 0))) (mLit (.str "one")))
  (mSeq (mAsg (.nm 2) (mComp (mVar 4) (.nm 4) (iSeq (mOp2 ixD (mVar 1) (mLit (.int 1)))) (mOp2 (inD true) (mVar 4) (mOp2 ixD (mVar 0) (mLit (.int 1)))) [4]))
  (mRet (mIte (mOp2 (eqD true) (mVar 2) (mLst [])) (mTup [(mOp2 ixD (mVar 2) (mLit (.int 0))), (mTup [])]) (mLit .non))))
  mSkip)
(mRet (mLit .non)))))
def b_against_list (F : Ft) : SM := (mSeq (mIf (mOp2 gtD (mOp2 ixD (mVar 1) (mLit (.int 2))) (mOp2 ixD (mVar 0) (mLit (.int 2))))
  (mRet (mTup [(mTup [(mLit (.str "list")), (mOp2 mulD (mTup [(mCall F ix_least_value [(mOp2 ixD (mVar 1) (mLit (.int 1)))])]) (mOp2 ixD (mVar 1) (mLit (.int 2))))]), (mTup [])]))
  mSkip)
(mSeq (mAsg (.nm 2) (mIte (mOp2 gtD (mOp2 ixD (mVar 1) (mLit (.int 2))) (mLit (.int 0))) (mCall F ix_against [(mOp2 ixD (mVar 0) (mLit (.int 1))), (mOp2 ixD (mVar 1) (mLit (.int 1)))]) (mLit .non)))
(mRet (mIte (mOp2 (isND false) (mVar 2) (mLit .non)) (mLit .non) (mTup [(mTup [(mLit (.str "list")), (mTup [(mOp2 ixD (mVar 2) (mLit (.int 0)))])]), (mOp2 addD (mTup [(mLit (.int 0))]) (mOp2 ixD (mVar 2) (mLit (.int 1))))])))))
def b_against_either (F : Ft) : SM := (mSeq (mFor (.tup [(.nm 2), (.nm 3)]) (iSeq (mOp2 ixD (mVar 1) (mLit (.int 1))))
  (mSeq (mAsg (.nm 4) (mCall F ix_row_of [(mOp2 ixD (mVar 0) (mLit (.int 1))), (mVar 2)]))
  (mSeq (mIf (mOp2 (isND false) (mVar 4) (mLit .non))
    (mRet (mTup [(mTup [(mLit (.str "either")), (mVar 2), (mCall F ix_least_value [(mVar 3)])]), (mTup [])]))
    mSkip)
  (mSeq (mAsg (.nm 5) (mCall F ix_against [(mOp2 ixD (mVar 4) (mLit (.int 1))), (mVar 3)]))
  (mIf (mOp2 (isND true) (mVar 5) (mLit .non))
    (mRet (mTup [(mTup [(mLit (.str "either")), (mVar 2), (mOp2 ixD (mVar 5) (mLit (.int 0)))]), (mOp2 addD (mTup [(mVar 2)]) (mOp2 ixD (mVar 5) (mLit (.int 1))))]))
    mSkip)))))
(mRet (mLit .non)))
def b_with_pair (pa : Nat → Addr) (F : Ft) : SM := (mSeq (mAsg (.nm 3) (mOp2 addD (mComp (mVar 4) (.nm 4) (iSeq (mOp2 ixD (mVar 0) (mLit (.int 1)))) (mOp2 (eqD true) (mOp2 ixD (mVar 4) (mLit (.int 0))) (mVar 1)) [4]) (mLst [(mTup [(mVar 1), (mVar 2)])])))
(mRet (mTup [(mLit (.str "record")), (mOp1 tupleD (mSortKey 0 ("with_pair.<locals>." ++ "<lambda>") (pa 0) (mVar 3)))])))
def b_against_record (F : Ft) : SM := (mSeq (mAsg (.nm 2) (mCall F ix_least_value [(mVar 1)]))
(mSeq (mFor (.tup [(.nm 3), (.nm 4), (.nm 5)]) (iSeq (mOp2 ixD (mVar 0) (mLit (.int 1))))
  (mSeq (mAsg (.nm 6) (mCall F ix_row_of [(mOp2 ixD (mVar 1) (mLit (.int 1))), (mVar 3)]))
  (mSeq (mIf (mAnd (mOp2 (eqD false) (mVar 5) (mTup [(mLit (.str "must"))])) (mOr (mOp2 (isND false) (mVar 6) (mLit .non)) (mOp2 (eqD true) (mOp2 ixD (mVar 6) (mLit (.int 2))) (mTup [(mLit (.str "must"))]))))
    (mRet (mTup [(mVar 2), (mTup [(mVar 3)])]))
    mSkip)
  (mSeq (mAsg (.nm 7) (mIte (mOp2 (isND true) (mVar 6) (mLit .non)) (mCall F ix_against [(mVar 4), (mOp2 ixD (mVar 6) (mLit (.int 1)))]) (mLit .non)))
  (mIf (mOp2 (isND true) (mVar 7) (mLit .non))
    (mRet (mTup [(mCall F ix_with_pair [(mVar 2), (mVar 3), (mOp2 ixD (mVar 7) (mLit (.int 0)))]), (mOp2 addD (mTup [(mVar 3)]) (mOp2 ixD (mVar 7) (mLit (.int 1))))]))
    mSkip)))))
(mRet (mLit .non))))
def b__law_cell_at (F : Ft) : SM := (mSeq (mIf (mOp2 ltD (mVar 1) (mOp1 lenD (mVar 0)))
  (mRet (mOp2 ixD (mVar 0) (mVar 1)))
  mSkip)
(mRet (mLit (.int 0))))
def b__law_draws (F : Ft) : SM := (mSeq (mOwn 3 (mLst []))
(mSeq (mAsg (.nm 4) (mOp2 mulD (mVar 0) (mOp1 intD (mOp2 geD (mVar 0) (mOp2 powD (mLit (.int 10)) (mLit (.int 18)))))))
(mSeq (mAsg (.nm 5) (mOp2 modD (mVar 0) (mLit (.int 2305843009213693951))))
(mSeq (mFor (.nm 6) (iRange (mOp2 addD (mVar 1) (mLit (.int 3))))
  (mSeq (mAsg (.nm 5) (mOp2 modD (mOp2 addD (mOp2 addD (mOp2 addD (mOp2 mulD (mVar 5) (mVar 5)) (mOp2 mulD (mLit (.int 48271)) (mVar 5))) (mVar 6)) (mLit (.int 1))) (mLit (.int 2305843009213693951))))
  (mIf (mAnd (mOp2 gtD (mVar 6) (mLit (.int 2))) (mOp2 gtD (mVar 4) (mLit (.int 0))))
    (mSeq (mApp 3 (mOp2 modD (mVar 4) (mVar 2)))
    (mAsg (.nm 4) (mOp2 fdivD (mVar 4) (mVar 2))))
    (mIf (mOp2 gtD (mVar 6) (mLit (.int 2)))
      (mApp 3 (mOp2 modD (mOp2 fdivD (mVar 5) (mLit (.int 4096))) (mVar 2)))
      mSkip))))
(mRet (mVar 3))))))
def b__law_from (F : Ft) : SM := (mRet (mAnd (mOp1 (isiD [.int]) (mVar 0)) (mAnd (mOp1 notD (mOp1 (isiD [.bool]) (mVar 0))) (mAnd (mOp2 leD (mVar 1) (mVar 0)) (mOp2 leD (mVar 0) (mVar 2))))))
def b__law_bag (F : Ft) : SM := (mRet (mNew [(mCall F ix__law_draws [(mCall F ix__law_cell_at [(mVar 0), (mVar 1)]), (mLit (.int 400)), (mLit (.int 1000))]), (mLit (.int 0))]))
def b__law_bags (F : Ft) : SM := (mRet (mComp (mCall F ix__law_bag [(mVar 0), (mVar 2)]) (.nm 2) (iRange (mOp2 max2D (mLit (.int 1)) (mOp2 min2D (mVar 1) (mOp1 lenD (mVar 0))))) (mLit (.bl true)) [2]))
def b__law_take (F : Ft) : SM := (mSeq (mSetS 0 (mLit (.int 1)) (mOp2 addD (mOp2 ixD (mVar 0) (mLit (.int 1))) (mLit (.int 1))))
(mRet (mOp2 modD (mOp2 ixD (mOp2 ixD (mVar 0) (mLit (.int 0))) (mOp2 modD (mOp2 ixD (mVar 0) (mLit (.int 1))) (mOp1 lenD (mOp2 ixD (mVar 0) (mLit (.int 0)))))) (mVar 1))))
def b__law_names (F : Ft) : SM := (mSeq (mOwn 3 (mDic [((mOp2 ixD (mVar 1) (mCall F ix__law_take [(mVar 0), (mOp1 lenD (mVar 1))])), (mLit (.bl true)))]))
(mSeq (mFor (.nm 4) (iRange (mCall F ix__law_take [(mVar 0), (mVar 2)]))
  (mSetO 3 (mOp2 ixD (mVar 1) (mCall F ix__law_take [(mVar 0), (mOp1 lenD (mVar 1))])) (mLit (.bl true))))
(mRet (mOp1 sortedD (mVar 3)))))
def b__law_leaf (F : Ft) : SM := (mSeq (mAsg (.nm 1) (mCall F ix__law_take [(mVar 0), (mLit (.int 5))]))
(mSeq (mIf (mOp2 ltD (mVar 1) (mLit (.int 2)))
  (mSeq (mAsg (.nm 2) (mOp2 ixD (mLst [(mLit (.int 0)), (mOp2 subD (mCall F ix__law_take [(mVar 0), (mLit (.int 9))]) (mLit (.int 4))), (mOp1 negD (mOp2 powD (mLit (.int 10)) (mLit (.int 9)))), (mOp2 subD (mOp2 powD (mLit (.int 10)) (mLit (.int 9))) (mLit (.int 40)))]) (mOp2 min2D (mLit (.int 3)) (mCall F ix__law_take [(mVar 0), (mLit (.int 8))]))))
  (mRet (mTup [(mLit (.str "whole")), (mVar 2), (mOp2 addD (mVar 2) (mOp2 ixD (mLst [(mLit (.int 0)), (mLit (.int 3)), (mCall F ix__law_take [(mVar 0), (mLit (.int 30))])]) (mCall F ix__law_take [(mVar 0), (mLit (.int 3))])))])))
  mSkip)
(mSeq (mIf (mOp2 (eqD false) (mVar 1) (mLit (.int 2)))
  (mRet (mTup [(mLit (.str "word")), (mOp2 ixD (mLst [(mLit (.int 0)), (mLit (.int 1)), (mLit (.int 3)), (mLit (.int 8)), (mLit (.int 20))]) (mCall F ix__law_take [(mVar 0), (mLit (.int 5))]))]))
  mSkip)
(mSeq (mIf (mOp2 (eqD false) (mVar 1) (mLit (.int 3)))
  (mRet (mTup [(mLit (.str "truth"))]))
  mSkip)
(mRet (mTup [(mLit (.str "one")), (mOp1 tupleD (mCall F ix__law_names [(mVar 0), (mLst [(mLit (.str "a")), (mLit (.str "b")), (mLit (.str "cc")), (mLit (.str "no")), (mLit (.str "yes")), (mLit (.str "zzzzzzzz"))]), (mLit (.int 4))]))]))))))
def b__law_shape (F : Ft) : SM := (mSeq (mAsg (.nm 2) (mCall F ix__law_take [(mVar 0), (mLit (.int 9))]))
(mSeq (mIf (mOr (mOp2 ltD (mVar 1) (mLit (.int 2))) (mOp2 gtD (mVar 2) (mLit (.int 5))))
  (mRet (mCall F ix__law_leaf [(mVar 0)]))
  mSkip)
(mSeq (mIf (mOp2 ltD (mVar 2) (mLit (.int 2)))
  (mRet (mTup [(mLit (.str "list")), (mCall F ix__law_shape [(mVar 0), (mOp2 subD (mVar 1) (mLit (.int 1)))]), (mCall F ix__law_take [(mVar 0), (mLit (.int 4))])]))
  mSkip)
(mSeq (mIf (mOp2 (eqD false) (mVar 2) (mLit (.int 2)))
  (mSeq (mAsg (.nm 3) (mCall F ix__law_shape [(mVar 0), (mOp2 subD (mVar 1) (mLit (.int 1)))]))
  (mRet (mIte (mOp2 (eqD false) (mOp2 ixD (mVar 3) (mLit (.int 0))) (mLit (.str "maybe"))) (mVar 3) (mTup [(mLit (.str "maybe")), (mVar 3)]))))
  mSkip)
(mSeq (mAsg (.nm 4) (mCall F ix__law_names [(mVar 0), (mLst [(mLit (.str "a")), (mLit (.str "b")), (mLit (.str "cc")), (mLit (.str "dd"))]), (mLit (.int 3))]))
(mSeq (mIf (mOp2 (eqD false) (mVar 2) (mLit (.int 5)))
  (mRet (mTup [(mLit (.str "either")), (mOp1 tupleD (mComp (mTup [(mVar 5), (mCall F ix__law_shape [(mVar 0), (mOp2 subD (mVar 1) (mLit (.int 1)))])]) (.nm 5) (iSeq (mVar 4)) (mLit (.bl true)) [5]))]))
  mSkip)
(mSeq (mOwn 6 (mLst []))
(mSeq (mFor (.nm 5) (iSeq (mSl (mVar 4) (some (mOp2 fdivD (mCall F ix__law_take [(mVar 0), (mLit (.int 7))]) (mLit (.int 6)))) none))
  (mSeq (mAsg (.nm 3) (mCall F ix__law_shape [(mVar 0), (mOp2 subD (mVar 1) (mLit (.int 1)))]))
  (mSeq (mAsg (.nm 7) (mOp2 (eqD false) (mCall F ix__law_take [(mVar 0), (mLit (.int 2))]) (mLit (.int 0))))
  (mApp 6 (mTup [(mVar 5), (mVar 3), (mIte (mVar 7) (mTup [(mLit (.str "must"))]) (mTup [(mLit (.str "else")), (mCall F ix__law_value [(mVar 0), (mVar 3)])]))])))))
(mRet (mTup [(mLit (.str "record")), (mOp1 tupleD (mVar 6))]))))))))))
def b__law_value (F : Ft) : SM := (mSeq (mAsg (.nm 2) (mOp2 ixD (mVar 1) (mLit (.int 0))))
(mSeq (mIf (mOp2 (eqD false) (mVar 2) (mLit (.str "whole")))
  (mRet (mOp2 ixD (mLst [(mOp2 ixD (mVar 1) (mLit (.int 1))), (mOp2 ixD (mVar 1) (mLit (.int 2))), (mOp2 addD (mOp2 ixD (mVar 1) (mLit (.int 1))) (mCall F ix__law_take [(mVar 0), (mOp2 addD (mOp2 subD (mOp2 ixD (mVar 1) (mLit (.int 2))) (mOp2 ixD (mVar 1) (mLit (.int 1)))) (mLit (.int 1)))]))]) (mCall F ix__law_take [(mVar 0), (mLit (.int 3))])))
  mSkip)
(mSeq (mIf (mOp2 (eqD false) (mVar 2) (mLit (.str "word")))
  (mRet (mOp2 joinD (mLit (.str "")) (mComp (mOp2 ixD (mLit (.str "abyz")) (mCall F ix__law_take [(mVar 0), (mLit (.int 4))])) (.nm 3) (iRange (mCall F ix__law_take [(mVar 0), (mOp2 addD (mOp2 ixD (mVar 1) (mLit (.int 1))) (mLit (.int 1)))])) (mLit (.bl true)) [3])))
  mSkip)
(mSeq (mIf (mOp2 (eqD false) (mVar 2) (mLit (.str "truth")))
  (mRet (mOp2 (eqD false) (mCall F ix__law_take [(mVar 0), (mLit (.int 2))]) (mLit (.int 0))))
  mSkip)
(mSeq (mIf (mOp2 (eqD false) (mVar 2) (mLit (.str "one")))
  (mRet (mOp2 ixD (mOp2 ixD (mVar 1) (mLit (.int 1))) (mCall F ix__law_take [(mVar 0), (mOp1 lenD (mOp2 ixD (mVar 1) (mLit (.int 1))))])))
  mSkip)
(mSeq (mIf (mOp2 (eqD false) (mVar 2) (mLit (.str "list")))
  (mRet (mTup [(mLit (.str "list")), (mOp1 tupleD (mComp (mCall F ix__law_value [(mVar 0), (mOp2 ixD (mVar 1) (mLit (.int 1)))]) (.nm 3) (iRange (mCall F ix__law_take [(mVar 0), (mOp2 addD (mOp2 ixD (mVar 1) (mLit (.int 2))) (mLit (.int 1)))])) (mLit (.bl true)) [3]))]))
  mSkip)
(mSeq (mIf (mOp2 (eqD false) (mVar 2) (mLit (.str "maybe")))
  (mRet (mIte (mOp2 (eqD false) (mCall F ix__law_take [(mVar 0), (mLit (.int 3))]) (mLit (.int 0))) (mLit .non) (mCall F ix__law_value [(mVar 0), (mOp2 ixD (mVar 1) (mLit (.int 1)))])))
  mSkip)
(mSeq (mIf (mOp2 (eqD false) (mVar 2) (mLit (.str "either")))
  (mSeq (mAsg (.tup [(.nm 4), (.nm 5)]) (mOp2 ixD (mOp2 ixD (mVar 1) (mLit (.int 1))) (mCall F ix__law_take [(mVar 0), (mOp1 lenD (mOp2 ixD (mVar 1) (mLit (.int 1))))])))
  (mRet (mTup [(mLit (.str "either")), (mVar 4), (mCall F ix__law_value [(mVar 0), (mVar 5)])])))
  mSkip)
(mSeq (mOwn 6 (mLst []))
(mSeq (mFor (.tup [(.nm 7), (.nm 5), (.nm 8)]) (iSeq (mOp2 ixD (mVar 1) (mLit (.int 1))))
  (mIf (mOr (mOp2 (eqD false) (mVar 8) (mTup [(mLit (.str "must"))])) (mOp2 (eqD false) (mCall F ix__law_take [(mVar 0), (mLit (.int 2))]) (mLit (.int 0))))
    (mApp 6 (mTup [(mVar 7), (mCall F ix__law_value [(mVar 0), (mVar 5)])]))
    mSkip))
(mRet (mTup [(mLit (.str "record")), (mOp1 tupleD (mVar 6))]))))))))))))
def b__law_near_leaf (F : Ft) : SM := (mSeq (mAsg (.nm 2) (mCall F ix__law_take [(mVar 0), (mLit (.int 6))]))
(mSeq (mIf (mAnd (mOp2 (eqD false) (mOp2 ixD (mVar 1) (mLit (.int 0))) (mLit (.str "whole"))) (mOp2 ltD (mVar 2) (mLit (.int 4))))
  (mSeq (mPar 3 4 (mOp2 addD (mOp2 ixD (mVar 1) (mLit (.int 1))) (mOp2 ixD (mLst [(mLit (.int 0)), (mOp1 negD (mLit (.int 1))), (mLit (.int 1)), (mLit (.int 0))]) (mVar 2))) (mOp2 addD (mOp2 ixD (mVar 1) (mLit (.int 2))) (mOp2 ixD (mLst [(mLit (.int 1)), (mLit (.int 0)), (mLit (.int 0)), (mOp1 negD (mLit (.int 1)))]) (mVar 2))))
  (mRet (mIte (mChain3 leD leD leD (mOp1 negD (mOp2 powD (mLit (.int 10)) (mLit (.int 9)))) (mVar 3) (mVar 4) (mOp2 powD (mLit (.int 10)) (mLit (.int 9)))) (mTup [(mLit (.str "whole")), (mVar 3), (mVar 4)]) (mVar 1))))
  mSkip)
(mSeq (mIf (mAnd (mOp2 (eqD false) (mOp2 ixD (mVar 1) (mLit (.int 0))) (mLit (.str "word"))) (mOp2 ltD (mVar 2) (mLit (.int 4))))
  (mRet (mTup [(mLit (.str "word")), (mOp2 min2D (mLit (.int 20)) (mOp2 max2D (mLit (.int 0)) (mOp2 addD (mOp2 ixD (mVar 1) (mLit (.int 1))) (mOp2 ixD (mLst [(mLit (.int 1)), (mOp1 negD (mLit (.int 1))), (mLit (.int 3)), (mOp1 negD (mLit (.int 3)))]) (mVar 2)))))]))
  mSkip)
(mSeq (mIf (mAnd (mOp2 (eqD false) (mOp2 ixD (mVar 1) (mLit (.int 0))) (mLit (.str "one"))) (mAnd (mOp2 ltD (mVar 2) (mLit (.int 2))) (mOp2 gtD (mOp1 lenD (mOp2 ixD (mVar 1) (mLit (.int 1)))) (mLit (.int 1)))))
  (mRet (mTup [(mLit (.str "one")), (mSl (mOp2 ixD (mVar 1) (mLit (.int 1))) (some (mVar 2)) (some (mOp2 addD (mOp2 subD (mOp1 lenD (mOp2 ixD (mVar 1) (mLit (.int 1)))) (mLit (.int 1))) (mVar 2))))]))
  mSkip)
(mSeq (mIf (mAnd (mOp2 (eqD false) (mOp2 ixD (mVar 1) (mLit (.int 0))) (mLit (.str "one"))) (mOp2 ltD (mVar 2) (mLit (.int 4))))
  (mRet (mTup [(mLit (.str "one")), (mOp1 tupleD (mOp1 sortSetD (mOp2 addD (mOp2 ixD (mVar 1) (mLit (.int 1))) (mTup [(mLit (.str "new"))]))))]))
  mSkip)
(mRet (mIte (mOp2 (eqD false) (mVar 2) (mLit (.int 5))) (mCall F ix__law_leaf [(mVar 0)]) (mVar 1))))))))
def b__law_near (pa : Nat → Addr) (F : Ft) : SM := (mSeq (mAsg (.nm 2) (mOp2 ixD (mVar 1) (mLit (.int 0))))
(mSeq (mIf (mOp2 (eqD false) (mCall F ix__law_take [(mVar 0), (mLit (.int 12))]) (mLit (.int 0)))
  (mRet (mCall F ix__law_shape [(mVar 0), (mLit (.int 2))]))
  mSkip)
(mSeq (mIf (mOp2 (eqD false) (mVar 2) (mLit (.str "list")))
  (mRet (mTup [(mLit (.str "list")), (mCall F ix__law_near [(mVar 0), (mOp2 ixD (mVar 1) (mLit (.int 1)))]), (mOp2 max2D (mLit (.int 0)) (mOp2 min2D (mLit (.int 8)) (mOp2 subD (mOp2 addD (mOp2 ixD (mVar 1) (mLit (.int 2))) (mCall F ix__law_take [(mVar 0), (mLit (.int 3))])) (mLit (.int 1)))))]))
  mSkip)
(mSeq (mIf (mOp2 (eqD false) (mVar 2) (mLit (.str "maybe")))
  (mSeq (mAsg (.nm 3) (mCall F ix__law_near [(mVar 0), (mOp2 ixD (mVar 1) (mLit (.int 1)))]))
  (mRet (mIte (mOr (mOp2 (eqD false) (mOp2 ixD (mVar 3) (mLit (.int 0))) (mLit (.str "maybe"))) (mOp2 (eqD false) (mCall F ix__law_take [(mVar 0), (mLit (.int 5))]) (mLit (.int 0)))) (mVar 3) (mTup [(mLit (.str "maybe")), (mVar 3)]))))
  mSkip)
(mSeq (mIf (mOp2 (eqD false) (mVar 2) (mLit (.str "either")))
  (mSeq (mAsg (.nm 4) (mComp (mTup [(mVar 5), (mCall F ix__law_near [(mVar 0), (mVar 3)])]) (.tup [(.nm 5), (.nm 3)]) (iSeq (mOp2 ixD (mVar 1) (mLit (.int 1)))) (mOp2 gtD (mCall F ix__law_take [(mVar 0), (mLit (.int 7))]) (mLit (.int 0))) [5, 3]))
  (mSeq (mIf (mOr (mOp2 (eqD false) (mVar 4) (mLst [])) (mOp2 (eqD false) (mCall F ix__law_take [(mVar 0), (mLit (.int 4))]) (mLit (.int 0))))
    (mAsg (.nm 4) (mOp2 addD (mComp (mVar 6) (.nm 6) (iSeq (mVar 4)) (mOp2 (eqD true) (mOp2 ixD (mVar 6) (mLit (.int 0))) (mLit (.str "q"))) [6]) (mLst [(mTup [(mLit (.str "q")), (mCall F ix__law_leaf [(mVar 0)])])])))
    mSkip)
  (mRet (mTup [(mLit (.str "either")), (mOp1 tupleD (mSortKey 1 ("_law_near.<locals>." ++ "<lambda>") (pa 1) (mVar 4)))]))))
  mSkip)
(mSeq (mIf (mOp2 (eqD false) (mVar 2) (mLit (.str "record")))
  (mRet (mTup [(mLit (.str "record")), (mCall F ix__law_near_fields [(mVar 0), (mOp2 ixD (mVar 1) (mLit (.int 1)))])]))
  mSkip)
(mRet (mCall F ix__law_near_leaf [(mVar 0), (mVar 1)]))))))))
def b__law_near_fields (pa : Nat → Addr) (F : Ft) : SM := (mSeq (mOwn 2 (mLst []))
(mSeq (mFor (.tup [(.nm 3), (.nm 4), (.nm 5)]) (iSeq (mVar 1))
  (mSeq (mAsg (.nm 6) (mCall F ix__law_take [(mVar 0), (mLit (.int 8))]))
  (mSeq (mAsg (.nm 7) (mIte (mOp2 ltD (mVar 6) (mLit (.int 4))) (mCall F ix__law_near [(mVar 0), (mVar 4)]) (mVar 4)))
  (mSeq (mIf (mOr (mOp2 (inD false) (mVar 6) (mTup [(mLit (.int 1)), (mLit (.int 4))])) (mOp2 (eqD true) (mVar 7) (mVar 4)))
    (mAsg (.nm 5) (mIte (mOp2 (eqD false) (mCall F ix__law_take [(mVar 0), (mLit (.int 2))]) (mLit (.int 0))) (mTup [(mLit (.str "must"))]) (mTup [(mLit (.str "else")), (mCall F ix__law_value [(mVar 0), (mVar 7)])])))
    mSkip)
  (mIf (mOp2 (eqD true) (mVar 6) (mLit (.int 7)))
    (mApp 2 (mTup [(mVar 3), (mVar 7), (mVar 5)]))
    mSkip)))))
(mSeq (mIf (mOp2 (eqD false) (mCall F ix__law_take [(mVar 0), (mLit (.int 3))]) (mLit (.int 0)))
  (mSeq (mAsg (.nm 4) (mCall F ix__law_leaf [(mVar 0)]))
  (mSeq (mOwn 2 (mComp (mVar 8) (.nm 8) (iSeq (mVar 2)) (mOp2 (eqD true) (mOp2 ixD (mVar 8) (mLit (.int 0))) (mLit (.str "e"))) [8]))
  (mApp 2 (mTup [(mLit (.str "e")), (mVar 4), (mOp2 ixD (mLst [(mTup [(mLit (.str "must"))]), (mTup [(mLit (.str "else")), (mCall F ix__law_value [(mVar 0), (mVar 4)])])]) (mCall F ix__law_take [(mVar 0), (mLit (.int 2))]))]))))
  mSkip)
(mRet (mOp1 tupleD (mSortKey 2 ("_law_near_fields.<locals>." ++ "<lambda>") (pa 2) (mVar 2)))))))
def b__law_is_name (F : Ft) : SM := (mSeq (mIf (mOr (mOp1 notD (mOp1 (isiD [.str]) (mVar 0))) (mOr (mOp2 ltD (mOp1 lenD (mVar 0)) (mLit (.int 1))) (mOp2 gtD (mOp1 lenD (mVar 0)) (mLit (.int 8)))))
  (mRet (mLit (.bl false)))
  mSkip)
(mRet (mOp1 allD (mComp (mOp2 (inD false) (mVar 1) (mLit (.str "abcdefghijklmnopqrstuvwxyz"))) (.nm 1) (iSeq (mVar 0)) (mLit (.bl true)) [1]))))
def b__law_rows_right (F : Ft) : SM := (mSeq (mIf (mOr (mOp1 notD (mOp1 (isiD [.tuple]) (mVar 0))) (mOr (mOp2 ltD (mOp1 lenD (mVar 0)) (mVar 1)) (mOp2 gtD (mOp1 lenD (mVar 0)) (mVar 2))))
  (mRet (mLit (.bl false)))
  mSkip)
(mSeq (mFor (.nm 4) (iSeq (mVar 0))
  (mIf (mOr (mOp1 notD (mOp1 (isiD [.tuple]) (mVar 4))) (mOr (mOp2 (eqD true) (mOp1 lenD (mVar 4)) (mVar 3)) (mOp1 notD (mCall F ix__law_is_name [(mOp2 ixD (mVar 4) (mLit (.int 0)))]))))
    (mRet (mLit (.bl false)))
    mSkip))
(mSeq (mAsg (.nm 5) (mComp (mOp2 ixD (mVar 4) (mLit (.int 0))) (.nm 4) (iSeq (mVar 0)) (mLit (.bl true)) [4]))
(mRet (mOp2 (eqD false) (mVar 5) (mOp1 sortSetD (mVar 5)))))))
def b__law_is_value (F : Ft) : SM := (mSeq (mAsg (.nm 2) (mOp2 ixD (mVar 0) (mLit (.int 0))))
(mSeq (mIf (mOp2 (eqD false) (mVar 2) (mLit (.str "whole")))
  (mRet (mCall F ix__law_from [(mVar 1), (mOp2 ixD (mVar 0) (mLit (.int 1))), (mOp2 ixD (mVar 0) (mLit (.int 2)))]))
  mSkip)
(mSeq (mIf (mOp2 (eqD false) (mVar 2) (mLit (.str "word")))
  (mRet (mOr (mOp2 (eqD false) (mVar 1) (mLit (.str ""))) (mAnd (mOp1 (isiD [.str]) (mVar 1)) (mAnd (mCall F ix__law_is_name [(mSl (mVar 1) none (some (mLit (.int 1))))]) (mOp2 leD (mCall F ix__law_letters [(mVar 1)]) (mOp2 ixD (mVar 0) (mLit (.int 1))))))))
  mSkip)
(mSeq (mIf (mOp2 (eqD false) (mVar 2) (mLit (.str "truth")))
  (mRet (mOp1 (isiD [.bool]) (mVar 1)))
  mSkip)
(mSeq (mIf (mOp2 (eqD false) (mVar 2) (mLit (.str "one")))
  (mRet (mAnd (mOp1 (isiD [.str]) (mVar 1)) (mOp2 (inD false) (mVar 1) (mOp2 ixD (mVar 0) (mLit (.int 1))))))
  mSkip)
(mSeq (mIf (mOp2 (eqD false) (mVar 2) (mLit (.str "maybe")))
  (mRet (mOr (mOp2 (isND false) (mVar 1) (mLit .non)) (mCall F ix__law_is_value [(mOp2 ixD (mVar 0) (mLit (.int 1))), (mVar 1)])))
  mSkip)
(mSeq (mIf (mOr (mOp1 notD (mOp1 (isiD [.tuple]) (mVar 1))) (mOr (mOp2 ltD (mOp1 lenD (mVar 1)) (mLit (.int 2))) (mOr (mOp1 notD (mOp1 (isiD [.str]) (mOp2 ixD (mVar 1) (mLit (.int 0))))) (mOp2 (eqD true) (mOp2 ixD (mVar 1) (mLit (.int 0))) (mVar 2)))))
  (mRet (mLit (.bl false)))
  mSkip)
(mSeq (mIf (mOp2 (eqD false) (mVar 2) (mLit (.str "either")))
  (mSeq (mAsg (.nm 3) (mComp (mVar 3) (.nm 3) (iSeq (mOp2 ixD (mVar 0) (mLit (.int 1)))) (mAnd (mOp1 (isiD [.str]) (mOp2 ixD (mVar 1) (mLit (.int 1)))) (mOp2 (eqD false) (mOp2 ixD (mVar 3) (mLit (.int 0))) (mOp2 ixD (mVar 1) (mLit (.int 1))))) [3]))
  (mRet (mAnd (mOp2 (eqD false) (mOp1 lenD (mVar 1)) (mLit (.int 3))) (mAnd (mOp2 (eqD true) (mVar 3) (mLst [])) (mCall F ix__law_is_value [(mOp2 ixD (mOp2 ixD (mVar 3) (mLit (.int 0))) (mLit (.int 1))), (mOp2 ixD (mVar 1) (mLit (.int 2)))])))))
  mSkip)
(mSeq (mIf (mOr (mOp2 (eqD true) (mOp1 lenD (mVar 1)) (mLit (.int 2))) (mOp1 notD (mOp1 (isiD [.tuple]) (mOp2 ixD (mVar 1) (mLit (.int 1))))))
  (mRet (mLit (.bl false)))
  mSkip)
(mSeq (mIf (mOp2 (eqD false) (mVar 2) (mLit (.str "list")))
  (mRet (mAnd (mOp2 leD (mOp1 lenD (mOp2 ixD (mVar 1) (mLit (.int 1)))) (mOp2 ixD (mVar 0) (mLit (.int 2)))) (mOp1 allD (mComp (mCall F ix__law_is_value [(mOp2 ixD (mVar 0) (mLit (.int 1))), (mVar 4)]) (.nm 4) (iSeq (mOp2 ixD (mVar 1) (mLit (.int 1)))) (mLit (.bl true)) [4]))))
  mSkip)
(mSeq (mIf (mOp1 notD (mCall F ix__law_rows_right [(mOp2 ixD (mVar 1) (mLit (.int 1))), (mLit (.int 0)), (mLit (.int 300)), (mLit (.int 2))]))
  (mRet (mLit (.bl false)))
  mSkip)
(mSeq (mAsg (.nm 5) (mOp1 dictD (mComp (mTup [(mOp2 ixD (mVar 3) (mLit (.int 0))), (mOp2 ixD (mVar 3) (mLit (.int 1)))]) (.nm 3) (iSeq (mOp2 ixD (mVar 0) (mLit (.int 1)))) (mLit (.bl true)) [3])))
(mSeq (mIf (mOp1 notD (mOp1 allD (mComp (mAnd (mOp2 (inD false) (mVar 6) (mVar 5)) (mCall F ix__law_is_value [(mOp2 ixD (mVar 5) (mVar 6)), (mVar 7)])) (.tup [(.nm 6), (.nm 7)]) (iSeq (mOp2 ixD (mVar 1) (mLit (.int 1)))) (mLit (.bl true)) [6, 7])))
  (mRet (mLit (.bl false)))
  mSkip)
(mSeq (mAsg (.nm 8) (mComp (mVar 6) (.tup [(.nm 6), (.nm 7)]) (iSeq (mOp2 ixD (mVar 1) (mLit (.int 1)))) (mLit (.bl true)) [6, 7]))
(mRet (mOp1 allD (mComp (mOp2 (inD false) (mOp2 ixD (mVar 3) (mLit (.int 0))) (mVar 8)) (.nm 3) (iSeq (mOp2 ixD (mVar 0) (mLit (.int 1)))) (mOp2 (eqD false) (mOp2 ixD (mVar 3) (mLit (.int 2))) (mTup [(mLit (.str "must"))])) [3])))))))))))))))))
def b__law_letters (F : Ft) : SM := (mRet (mIte (mOp1 allD (mComp (mOp2 (inD false) (mVar 1) (mLit (.str "abcdefghijklmnopqrstuvwxyz"))) (.nm 1) (iSeq (mVar 0)) (mLit (.bl true)) [1])) (mOp1 lenD (mVar 0)) (mLit (.int 999))))
def b__law_taken (F : Ft) : SM := (mSeq (mAsg (.nm 3) (mOp2 ixD (mVar 0) (mLit (.int 0))))
(mSeq (mIf (mOp2 (eqD false) (mVar 3) (mLit (.str "maybe")))
  (mRet (mIte (mOp2 (isND false) (mVar 1) (mLit .non)) (mTup [(mLit .non), (mLit .non)]) (mCall F ix__law_taken [(mOp2 ixD (mVar 0) (mLit (.int 1))), (mVar 1), (mVar 2)])))
  mSkip)
(mSeq (mIf (mOp2 (inD true) (mVar 3) (mTup [(mLit (.str "list")), (mLit (.str "record")), (mLit (.str "either"))]))
  (mRet (mIte (mCall F ix__law_is_value [(mVar 0), (mVar 1)]) (mTup [(mVar 1), (mLit .non)]) (mTup [(mLit .non), (mVar 2)])))
  mSkip)
(mSeq (mIf (mOr (mOp1 notD (mOp1 (isiD [.tuple]) (mVar 1))) (mOr (mOp2 ltD (mOp1 lenD (mVar 1)) (mLit (.int 2))) (mOr (mOp1 notD (mOp1 (isiD [.str]) (mOp2 ixD (mVar 1) (mLit (.int 0))))) (mOp2 (eqD true) (mOp2 ixD (mVar 1) (mLit (.int 0))) (mVar 3)))))
  (mRet (mTup [(mLit .non), (mVar 2)]))
  mSkip)
(mSeq (mIf (mOp2 (eqD false) (mVar 3) (mLit (.str "either")))
  (mSeq (mAsg (.nm 4) (mComp (mVar 4) (.nm 4) (iSeq (mOp2 ixD (mVar 0) (mLit (.int 1)))) (mAnd (mOp1 (isiD [.str]) (mOp2 ixD (mVar 1) (mLit (.int 1)))) (mOp2 (eqD false) (mOp2 ixD (mVar 4) (mLit (.int 0))) (mOp2 ixD (mVar 1) (mLit (.int 1))))) [4]))
  (mSeq (mIf (mOr (mOp2 (eqD true) (mOp1 lenD (mVar 1)) (mLit (.int 3))) (mOp2 (eqD false) (mVar 4) (mLst [])))
    (mRet (mTup [(mLit .non), (mVar 2)]))
    mSkip)
  (mSeq (mAsg (.tup [(.nm 5), (.nm 6)]) (mCall F ix__law_taken [(mOp2 ixD (mOp2 ixD (mVar 4) (mLit (.int 0))) (mLit (.int 1))), (mOp2 ixD (mVar 1) (mLit (.int 2))), (mOp2 addD (mVar 2) (mTup [(mOp2 ixD (mVar 1) (mLit (.int 1)))]))]))
  (mRet (mTup [(mTup [(mLit (.str "either")), (mOp2 ixD (mVar 1) (mLit (.int 1))), (mVar 5)]), (mVar 6)])))))
  mSkip)
(mSeq (mIf (mOr (mOp2 (eqD true) (mOp1 lenD (mVar 1)) (mLit (.int 2))) (mOp1 notD (mOp1 (isiD [.tuple]) (mOp2 ixD (mVar 1) (mLit (.int 1))))))
  (mRet (mTup [(mLit .non), (mVar 2)]))
  mSkip)
(mRet (mIte (mOp2 (eqD false) (mVar 3) (mLit (.str "list"))) (mCall F ix__law_taken_list [(mVar 0), (mVar 1), (mVar 2)]) (mCall F ix__law_taken_record [(mVar 0), (mVar 1), (mVar 2)])))))))))
def b__law_taken_list (F : Ft) : SM := (mSeq (mIf (mOp2 gtD (mOp1 lenD (mOp2 ixD (mVar 1) (mLit (.int 1)))) (mOp2 ixD (mVar 0) (mLit (.int 2))))
  (mRet (mTup [(mLit .non), (mVar 2)]))
  mSkip)
(mSeq (mAsg (.nm 3) (mComp (mCall F ix__law_taken [(mOp2 ixD (mVar 0) (mLit (.int 1))), (mVar 5), (mOp2 addD (mVar 2) (mTup [(mVar 4)]))]) (.tup [(.nm 4), (.nm 5)]) (iEnumL (mOp2 ixD (mVar 1) (mLit (.int 1)))) (mLit (.bl true)) [4, 5]))
(mSeq (mAsg (.nm 6) (mComp (mOp2 ixD (mVar 7) (mLit (.int 1))) (.nm 7) (iSeq (mVar 3)) (mOp2 (isND true) (mOp2 ixD (mVar 7) (mLit (.int 1))) (mLit .non)) [7]))
(mRet (mTup [(mTup [(mLit (.str "list")), (mOp1 tupleD (mComp (mOp2 ixD (mVar 7) (mLit (.int 0))) (.nm 7) (iSeq (mVar 3)) (mLit (.bl true)) [7]))]), (mIte (mOp2 (eqD true) (mVar 6) (mLst [])) (mOp2 ixD (mVar 6) (mLit (.int 0))) (mLit .non))])))))
def b__law_taken_record (F : Ft) : SM := (mSeq (mIf (mOp1 notD (mCall F ix__law_rows_right [(mOp2 ixD (mVar 1) (mLit (.int 1))), (mLit (.int 0)), (mLit (.int 300)), (mLit (.int 2))]))
  (mRet (mTup [(mLit .non), (mVar 2)]))
  mSkip)
(mSeq (mMany [3, 4, 5] [false, true, false] [(mOp1 dictD (mOp2 ixD (mVar 1) (mLit (.int 1)))), (mLst []), (mLst [])])
(mSeq (mFor (.tup [(.nm 6), (.nm 7), (.nm 8)]) (iSeq (mOp2 ixD (mVar 0) (mLit (.int 1))))
  (mSeq (mIf (mOp2 (inD false) (mVar 6) (mVar 3))
    (mAsg (.tup [(.nm 9), (.nm 10)]) (mCall F ix__law_taken [(mVar 7), (mOp2 ixD (mVar 3) (mVar 6)), (mOp2 addD (mVar 2) (mTup [(mVar 6)]))]))
    (mIf (mOp2 (eqD false) (mVar 8) (mTup [(mLit (.str "must"))]))
      (mPar 9 10 (mLit .non) (mOp2 addD (mVar 2) (mTup [(mVar 6)])))
      (mAsg (.tup [(.nm 9), (.nm 10)]) (mCall F ix__law_taken [(mVar 7), (mOp2 ixD (mVar 8) (mLit (.int 1))), (mOp2 addD (mVar 2) (mTup [(mVar 6)]))]))))
  (mSeq (mApp 4 (mTup [(mVar 6), (mVar 9)]))
  (mAsg (.nm 5) (mOp2 addD (mVar 5) (mOp2 mulD (mLst [(mVar 10)]) (mOp1 intD (mOp2 (isND true) (mVar 10) (mLit .non)))))))))
(mRet (mTup [(mTup [(mLit (.str "record")), (mOp1 tupleD (mVar 4))]), (mIte (mOp2 (eqD true) (mVar 5) (mLst [])) (mOp2 ixD (mVar 5) (mLit (.int 0))) (mLit .non))])))))
def b__law_corners (F : Ft) : SM := (mSeq (mAsg (.nm 1) (mOp2 ixD (mVar 0) (mLit (.int 0))))
(mSeq (mIf (mOp2 (inD false) (mVar 1) (mTup [(mLit (.str "whole")), (mLit (.str "one"))]))
  (mRet (mIte (mOp2 (eqD false) (mVar 1) (mLit (.str "whole"))) (mOp1 listD (mSl (mVar 0) (some (mLit (.int 1))) none)) (mOp1 listD (mOp2 ixD (mVar 0) (mLit (.int 1))))))
  mSkip)
(mSeq (mIf (mOp2 (inD false) (mVar 1) (mTup [(mLit (.str "word")), (mLit (.str "truth"))]))
  (mRet (mIte (mOp2 (eqD false) (mVar 1) (mLit (.str "word"))) (mLst [(mLit (.str "")), (mOp2 mulD (mLit (.str "a")) (mOp2 ixD (mVar 0) (mLit (.int 1))))]) (mLst [(mLit (.bl true)), (mLit (.bl false))])))
  mSkip)
(mSeq (mIf (mOp2 (eqD false) (mVar 1) (mLit (.str "maybe")))
  (mRet (mOp2 addD (mLst [(mLit .non)]) (mCall F ix__law_corners [(mOp2 ixD (mVar 0) (mLit (.int 1)))])))
  mSkip)
(mSeq (mIf (mOp2 (eqD false) (mVar 1) (mLit (.str "list")))
  (mSeq (mAsg (.nm 2) (mCall F ix__law_corners [(mOp2 ixD (mVar 0) (mLit (.int 1)))]))
  (mSeq (mOwn 3 (mLst [(mTup [(mLit (.str "list")), (mTup [])]), (mTup [(mLit (.str "list")), (mOp1 tupleD (mOp2 mulD (mSl (mVar 2) none (some (mLit (.int 1)))) (mOp2 ixD (mVar 0) (mLit (.int 2)))))])]))
  (mRet (mOp2 addD (mVar 3) (mComp (mTup [(mLit (.str "list")), (mTup [(mVar 4)])]) (.nm 4) (iSeq (mVar 2)) (mOp2 gtD (mOp2 ixD (mVar 0) (mLit (.int 2))) (mLit (.int 0))) [4])))))
  mSkip)
(mSeq (mIf (mOp2 (eqD false) (mVar 1) (mLit (.str "either")))
  (mSeq (mOwn 3 (mLst []))
  (mSeq (mFor (.tup [(.nm 5), (.nm 2)]) (iSeq (mOp2 ixD (mVar 0) (mLit (.int 1))))
    (mOwn 3 (mOp2 addD (mVar 3) (mComp (mTup [(mLit (.str "either")), (mVar 5), (mVar 4)]) (.nm 4) (iSeq (mCall F ix__law_corners [(mVar 2)])) (mLit (.bl true)) [4]))))
  (mRet (mVar 3))))
  mSkip)
(mSeq (mAsg (.nm 6) (mOp1 dictD (mComp (mTup [(mOp2 ixD (mVar 7) (mLit (.int 0))), (mOp2 ixD (mCall F ix__law_corners [(mOp2 ixD (mVar 7) (mLit (.int 1)))]) (mLit (.int 0)))]) (.nm 7) (iSeq (mOp2 ixD (mVar 0) (mLit (.int 1)))) (mOp2 (eqD false) (mOp2 ixD (mVar 7) (mLit (.int 2))) (mTup [(mLit (.str "must"))])) [7])))
(mSeq (mOwn 3 (mLst [(mTup [(mLit (.str "record")), (mOp1 tupleD (mComp (mTup [(mVar 8), (mOp2 ixD (mVar 6) (mVar 8))]) (.nm 8) (iSeq (mOp1 sortedD (mVar 6))) (mLit (.bl true)) [8]))])]))
(mSeq (mFor (.tup [(.nm 9), (.nm 2), (.nm 10)]) (iSeq (mOp2 ixD (mVar 0) (mLit (.int 1))))
  (mFor (.nm 4) (iSeq (mCall F ix__law_corners [(mVar 2)]))
    (mSeq (mOwn 11 (mOp1 dictD (mVar 6)))
    (mSeq (mSetO 11 (mVar 9) (mVar 4))
    (mApp 3 (mTup [(mLit (.str "record")), (mOp1 tupleD (mComp (mTup [(mVar 8), (mOp2 ixD (mVar 11) (mVar 8))]) (.nm 8) (iSeq (mOp1 sortedD (mVar 11))) (mLit (.bl true)) [8]))]))))))
(mRet (mVar 3)))))))))))
def b__law_reads (F : Ft) : SM := (mRet (mOp1 allD (mComp (mOp2 (isND false) (mOp2 ixD (mCall F ix__law_taken [(mVar 0), (mVar 2), (mTup [])]) (mLit (.int 1))) (mLit .non)) (.nm 2) (iSeq (mCall F ix__law_corners [(mVar 1)])) (mLit (.bl true)) [2])))
def b_law (F : Ft) : SM := (mSeq (mFor (.nm 1) (iSeq (mCall F ix__law_bags [(mVar 0), (mLit (.int 8))]))
  (mFor (.nm 2) (iRange (mLit (.int 3)))
    (mSeq (mAsg (.nm 3) (mCall F ix__law_shape [(mVar 1), (mLit (.int 3))]))
    (mSeq (mAsg (.nm 4) (mOp2 addD (mComp (mCall F ix__law_near [(mVar 1), (mVar 3)]) (.nm 5) (iRange (mLit (.int 3))) (mLit (.bl true)) [5]) (mLst [(mVar 3), (mCall F ix__law_shape [(mVar 1), (mLit (.int 2))]), (mTup [(mLit (.str "maybe")), (mTup [(mLit (.str "word")), (mLit (.int 20))])])])))
    (mFor (.nm 6) (iSeq (mVar 4))
      (mFor (.tup [(.nm 7), (.nm 8)]) (iSeq (mTup [(mTup [(mVar 3), (mVar 6)]), (mTup [(mVar 6), (mVar 3)])]))
        (mSeq (mPar 9 10 (mCall F ix__law_reads [(mVar 7), (mVar 8)]) (mCall F ix_against [(mVar 7), (mVar 8)]))
        (mSeq (mIf (mOr (mOp2 (eqD true) (mOp1 reprB (mCall F ix_reads [(mVar 7), (mVar 8)])) (mOp1 reprB (mVar 9))) (mOp2 (eqD true) (mOp2 (isND false) (mVar 10) (mLit .non)) (mVar 9)))
          (mRet (mLit (.bl false)))
          mSkip)
        (mIf (mOp2 (isND true) (mVar 10) (mLit .non))
          (mSeq (mIf (mOr (mOp1 notD (mOp1 (isiD [.tuple]) (mVar 10))) (mOr (mOp2 (eqD true) (mOp1 lenD (mVar 10)) (mLit (.int 2))) (mOp1 notD (mCall F ix__law_is_value [(mVar 8), (mOp2 ixD (mVar 10) (mLit (.int 0)))]))))
            (mRet (mLit (.bl false)))
            mSkip)
          (mIf (mOr (mOp2 (eqD true) (mOp2 ixD (mCall F ix__law_taken [(mVar 7), (mOp2 ixD (mVar 10) (mLit (.int 0))), (mTup [])]) (mLit (.int 1))) (mOp2 ixD (mVar 10) (mLit (.int 1)))) (mOp1 notD (mOp1 (isiD [.tuple]) (mOp2 ixD (mVar 10) (mLit (.int 1))))))
            (mRet (mLit (.bl false)))
            mSkip))
          mSkip)))))))))
(mSeq (mIf (mOp2 (isND true) (mCall F ix_reads [(mTup [(mLit (.str "list")), (mTup [(mLit (.str "truth"))]), (mLit (.int 0))]), (mTup [(mLit (.str "list")), (mTup [(mLit (.str "whole")), (mLit (.int 0)), (mLit (.int 1))]), (mLit (.int 0))])]) (mLit (.bl true)))
  (mRet (mLit (.bl false)))
  mSkip)
(mRet (mAnd (mOp2 (isND false) (mCall F ix_reads [(mTup [(mLit (.str "word")), (mLit (.int 2))]), (mTup [(mLit (.str "one")), (mTup [(mLit (.str "ab"))])])]) (mLit (.bl true))) (mOp2 (isND false) (mCall F ix_reads [(mTup [(mLit (.str "word")), (mLit (.int 1))]), (mTup [(mLit (.str "one")), (mTup [(mLit (.str "ab"))])])]) (mLit (.bl false)))))))
def T (pa : Nat → Addr) : List FnDef := [⟨2, 4, false, b_row_of⟩,
  ⟨1, 5, false, b_least_value⟩,
  ⟨2, 2, false, b_reads⟩,
  ⟨2, 4, false, b_against⟩,
  ⟨2, 5, false, b_against_plain⟩,
  ⟨2, 3, false, b_against_list⟩,
  ⟨2, 6, false, b_against_either⟩,
  ⟨3, 5, false, b_with_pair pa⟩,
  ⟨2, 8, false, b_against_record⟩,
  ⟨2, 2, false, b__law_cell_at⟩,
  ⟨3, 7, false, b__law_draws⟩,
  ⟨3, 3, false, b__law_from⟩,
  ⟨2, 2, false, b__law_bag⟩,
  ⟨2, 3, false, b__law_bags⟩,
  ⟨2, 2, false, b__law_take⟩,
  ⟨3, 5, false, b__law_names⟩,
  ⟨1, 3, false, b__law_leaf⟩,
  ⟨2, 8, false, b__law_shape⟩,
  ⟨2, 9, false, b__law_value⟩,
  ⟨2, 5, false, b__law_near_leaf⟩,
  ⟨2, 7, false, b__law_near pa⟩,
  ⟨2, 9, false, b__law_near_fields pa⟩,
  ⟨1, 2, false, b__law_is_name⟩,
  ⟨4, 6, false, b__law_rows_right⟩,
  ⟨2, 9, false, b__law_is_value⟩,
  ⟨1, 2, false, b__law_letters⟩,
  ⟨3, 7, false, b__law_taken⟩,
  ⟨3, 8, false, b__law_taken_list⟩,
  ⟨3, 11, false, b__law_taken_record⟩,
  ⟨1, 12, false, b__law_corners⟩,
  ⟨2, 3, false, b__law_reads⟩,
  ⟨1, 11, false, b_law⟩]
def lamQs : List Str := [("with_pair.<locals>." ++ "<lambda>"), ("_law_near.<locals>." ++ "<lambda>"), ("_law_near_fields.<locals>." ++ "<lambda>")]
def TOP : List Stmt := PySem.Challenge.pw_shapehall_k04_which_shapes_read.main.body
def top (i : Nat) : Stmt := TOP.getD i (.Pass ⟨0, 0, 0, 0⟩)
def gFns : List (Str × Nat × Bool) := [(("row_of" : Str), ix_row_of, false), (("least_value" : Str), ix_least_value, false), (("reads" : Str), ix_reads, false), (("against" : Str), ix_against, false), (("against_plain" : Str), ix_against_plain, false), (("against_list" : Str), ix_against_list, false), (("against_either" : Str), ix_against_either, false), (("with_pair" : Str), ix_with_pair, false), (("against_record" : Str), ix_against_record, false), (("_law_cell_at" : Str), ix__law_cell_at, false), (("_law_draws" : Str), ix__law_draws, false), (("_law_from" : Str), ix__law_from, false), (("_law_bag" : Str), ix__law_bag, false), (("_law_bags" : Str), ix__law_bags, false), (("_law_take" : Str), ix__law_take, false), (("_law_names" : Str), ix__law_names, false), (("_law_leaf" : Str), ix__law_leaf, false), (("_law_shape" : Str), ix__law_shape, false), (("_law_value" : Str), ix__law_value, false), (("_law_near_leaf" : Str), ix__law_near_leaf, false), (("_law_near" : Str), ix__law_near, false), (("_law_near_fields" : Str), ix__law_near_fields, false), (("_law_is_name" : Str), ix__law_is_name, false), (("_law_rows_right" : Str), ix__law_rows_right, false), (("_law_is_value" : Str), ix__law_is_value, false), (("_law_letters" : Str), ix__law_letters, false), (("_law_taken" : Str), ix__law_taken, false), (("_law_taken_list" : Str), ix__law_taken_list, false), (("_law_taken_record" : Str), ix__law_taken_record, false), (("_law_corners" : Str), ix__law_corners, false), (("_law_reads" : Str), ix__law_reads, false), (("law" : Str), ix_law, false)]
def gFree : List Str := ["all", "any", "bool", "dict", "enumerate", "int", "isinstance", "len", "list", "max", "min", "range", "repr", "set", "sorted", "str", "sum", "tuple", "zip", "ord"]
def gCons : List (Str × D) := []
def gTabs : List (Str × List (Str × Int)) := []
def G_row_of (pa : Nat → Addr) : Gam := ⟨["rows", "name", "some", "row"], [], gFns, gFree, gCons, false, gTabs, none⟩
theorem d_row_of (pa : Nat → Addr) (F : Ft) : denBody F (G_row_of pa) .C (top 1) = some (b_row_of F) := by kernel_rfl
def G_least_value (pa : Nat → Addr) : Gam := ⟨["shape", "word", "name", "inner", "need"], [], gFns, gFree, gCons, false, gTabs, none⟩
theorem d_least_value (pa : Nat → Addr) (F : Ft) : denBody F (G_least_value pa) .C (top 2) = some (b_least_value F) := by kernel_rfl
def G_reads (pa : Nat → Addr) : Gam := ⟨["reader", "writer"], [], gFns, gFree, gCons, false, gTabs, none⟩
theorem d_reads (pa : Nat → Addr) (F : Ft) : denBody F (G_reads pa) .C (top 4) = some (b_reads F) := by kernel_rfl
def G_against (pa : Nat → Addr) : Gam := ⟨["reader", "writer", "long", "name"], [], gFns, gFree, gCons, false, gTabs, none⟩
theorem d_against (pa : Nat → Addr) (F : Ft) : denBody F (G_against pa) .C (top 5) = some (b_against F) := by kernel_rfl
def G_against_plain (pa : Nat → Addr) : Gam := ⟨["reader", "writer", "some", "number", "name"], [], gFns, gFree, gCons, false, gTabs, none⟩
theorem d_against_plain (pa : Nat → Addr) (F : Ft) : denBody F (G_against_plain pa) .C (top 6) = some (b_against_plain F) := by kernel_rfl
def G_against_list (pa : Nat → Addr) : Gam := ⟨["reader", "writer", "inner"], [], gFns, gFree, gCons, false, gTabs, none⟩
theorem d_against_list (pa : Nat → Addr) (F : Ft) : denBody F (G_against_list pa) .C (top 7) = some (b_against_list F) := by kernel_rfl
def G_against_either (pa : Nat → Addr) : Gam := ⟨["reader", "writer", "tag", "shape", "row", "inner"], [], gFns, gFree, gCons, false, gTabs, none⟩
theorem d_against_either (pa : Nat → Addr) (F : Ft) : denBody F (G_against_either pa) .C (top 8) = some (b_against_either F) := by kernel_rfl
def G_with_pair (pa : Nat → Addr) : Gam := ⟨["value", "name", "thing", "pairs", "pair"], [], gFns, gFree, gCons, false, gTabs, (some (0, pa 0, "with_pair.<locals>."))⟩
theorem d_with_pair (pa : Nat → Addr) (F : Ft) : denBody F (G_with_pair pa) .C (top 9) = some (b_with_pair pa F) := by kernel_rfl
def G_against_record (pa : Nat → Addr) : Gam := ⟨["reader", "writer", "least", "name", "inner", "need", "field", "odd"], [], gFns, gFree, gCons, false, gTabs, none⟩
theorem d_against_record (pa : Nat → Addr) (F : Ft) : denBody F (G_against_record pa) .C (top 10) = some (b_against_record F) := by kernel_rfl
def G__law_cell_at (pa : Nat → Addr) : Gam := ⟨["_law_script", "_law_k"], [], gFns, gFree, gCons, false, gTabs, none⟩
theorem d__law_cell_at (pa : Nat → Addr) (F : Ft) : denBody F (G__law_cell_at pa) .C (top 12) = some (b__law_cell_at F) := by kernel_rfl
def G__law_draws (pa : Nat → Addr) : Gam := ⟨["_law_cell", "_law_many", "_law_size", "_law_found", "_law_rest", "_law_stirred", "_law_k"], [3], gFns, gFree, gCons, false, gTabs, none⟩
theorem d__law_draws (pa : Nat → Addr) (F : Ft) : denBody F (G__law_draws pa) .C (top 13) = some (b__law_draws F) := by kernel_rfl
def G__law_from (pa : Nat → Addr) : Gam := ⟨["_law_thing", "_law_least", "_law_top"], [], gFns, gFree, gCons, false, gTabs, none⟩
theorem d__law_from (pa : Nat → Addr) (F : Ft) : denBody F (G__law_from pa) .C (top 14) = some (b__law_from F) := by kernel_rfl
def G__law_bag (pa : Nat → Addr) : Gam := ⟨["_law_script", "_law_k"], [], gFns, gFree, gCons, true, gTabs, none⟩
theorem d__law_bag (pa : Nat → Addr) (F : Ft) : denBody F (G__law_bag pa) .C (top 15) = some (b__law_bag F) := by kernel_rfl
def G__law_bags (pa : Nat → Addr) : Gam := ⟨["_law_script", "_law_limit", "_law_k"], [], gFns, gFree, gCons, false, gTabs, none⟩
theorem d__law_bags (pa : Nat → Addr) (F : Ft) : denBody F (G__law_bags pa) .C (top 16) = some (b__law_bags F) := by kernel_rfl
def G__law_take (pa : Nat → Addr) : Gam := ⟨["_law_bag_here", "_law_many"], [], gFns, gFree, gCons, false, gTabs, none⟩
theorem d__law_take (pa : Nat → Addr) (F : Ft) : denBody F (G__law_take pa) .C (top 17) = some (b__law_take F) := by kernel_rfl
def G__law_names (pa : Nat → Addr) : Gam := ⟨["_law_bag_here", "_law_some", "_law_most", "_law_found", "_law_turn"], [3], gFns, gFree, gCons, false, gTabs, none⟩
theorem d__law_names (pa : Nat → Addr) (F : Ft) : denBody F (G__law_names pa) .C (top 18) = some (b__law_names F) := by kernel_rfl
def G__law_leaf (pa : Nat → Addr) : Gam := ⟨["_law_bag_here", "_law_how", "_law_low"], [], gFns, gFree, gCons, false, gTabs, none⟩
theorem d__law_leaf (pa : Nat → Addr) (F : Ft) : denBody F (G__law_leaf pa) .C (top 19) = some (b__law_leaf F) := by kernel_rfl
def G__law_shape (pa : Nat → Addr) : Gam := ⟨["_law_bag_here", "_law_deep", "_law_how", "_law_inner", "_law_names_here", "_law_name", "_law_fields", "_law_must"], [6], gFns, gFree, gCons, false, gTabs, none⟩
theorem d__law_shape (pa : Nat → Addr) (F : Ft) : denBody F (G__law_shape pa) .C (top 20) = some (b__law_shape F) := by kernel_rfl
def G__law_value (pa : Nat → Addr) : Gam := ⟨["_law_bag_here", "_law_shape_here", "_law_word", "_law_turn", "_law_tag", "_law_inner", "_law_pairs", "_law_name", "_law_need"], [6], gFns, gFree, gCons, false, gTabs, none⟩
theorem d__law_value (pa : Nat → Addr) (F : Ft) : denBody F (G__law_value pa) .C (top 21) = some (b__law_value F) := by kernel_rfl
def G__law_near_leaf (pa : Nat → Addr) : Gam := ⟨["_law_bag_here", "_law_shape_here", "_law_how", "_law_low", "_law_high"], [], gFns, gFree, gCons, false, gTabs, none⟩
theorem d__law_near_leaf (pa : Nat → Addr) (F : Ft) : denBody F (G__law_near_leaf pa) .C (top 22) = some (b__law_near_leaf F) := by kernel_rfl
def G__law_near (pa : Nat → Addr) : Gam := ⟨["_law_bag_here", "_law_shape_here", "_law_word", "_law_inner", "_law_rows", "_law_tag", "_law_row"], [], gFns, gFree, gCons, false, gTabs, (some (1, pa 1, "_law_near.<locals>."))⟩
theorem d__law_near (pa : Nat → Addr) (F : Ft) : denBody F (G__law_near pa) .C (top 23) = some (b__law_near pa F) := by kernel_rfl
def G__law_near_fields (pa : Nat → Addr) : Gam := ⟨["_law_bag_here", "_law_fields", "_law_found", "_law_name", "_law_inner", "_law_need", "_law_how", "_law_other", "_law_row"], [2], gFns, gFree, gCons, false, gTabs, (some (2, pa 2, "_law_near_fields.<locals>."))⟩
theorem d__law_near_fields (pa : Nat → Addr) (F : Ft) : denBody F (G__law_near_fields pa) .C (top 24) = some (b__law_near_fields pa F) := by kernel_rfl
def G__law_is_name (pa : Nat → Addr) : Gam := ⟨["_law_thing", "_law_sign"], [], gFns, gFree, gCons, false, gTabs, none⟩
theorem d__law_is_name (pa : Nat → Addr) (F : Ft) : denBody F (G__law_is_name pa) .C (top 25) = some (b__law_is_name F) := by kernel_rfl
def G__law_rows_right (pa : Nat → Addr) : Gam := ⟨["_law_thing", "_law_least", "_law_most", "_law_many", "_law_row", "_law_names_here"], [], gFns, gFree, gCons, false, gTabs, none⟩
theorem d__law_rows_right (pa : Nat → Addr) (F : Ft) : denBody F (G__law_rows_right pa) .C (top 26) = some (b__law_rows_right F) := by kernel_rfl
def G__law_is_value (pa : Nat → Addr) : Gam := ⟨["_law_shape_here", "_law_thing", "_law_word", "_law_row", "_law_one", "_law_inner", "_law_name", "_law_value_here", "_law_names_here"], [], gFns, gFree, gCons, false, gTabs, none⟩
theorem d__law_is_value (pa : Nat → Addr) (F : Ft) : denBody F (G__law_is_value pa) .C (top 27) = some (b__law_is_value F) := by kernel_rfl
def G__law_letters (pa : Nat → Addr) : Gam := ⟨["_law_text", "_law_sign"], [], gFns, gFree, gCons, false, gTabs, none⟩
theorem d__law_letters (pa : Nat → Addr) (F : Ft) : denBody F (G__law_letters pa) .C (top 28) = some (b__law_letters F) := by kernel_rfl
def G__law_taken (pa : Nat → Addr) : Gam := ⟨["_law_shape_here", "_law_thing", "_law_path", "_law_word", "_law_row", "_law_value_here", "_law_odd"], [], gFns, gFree, gCons, false, gTabs, none⟩
theorem d__law_taken (pa : Nat → Addr) (F : Ft) : denBody F (G__law_taken pa) .C (top 29) = some (b__law_taken F) := by kernel_rfl
def G__law_taken_list (pa : Nat → Addr) : Gam := ⟨["_law_shape_here", "_law_thing", "_law_path", "_law_rows", "_law_at", "_law_one", "_law_odd", "_law_row"], [], gFns, gFree, gCons, false, gTabs, none⟩
theorem d__law_taken_list (pa : Nat → Addr) (F : Ft) : denBody F (G__law_taken_list pa) .C (top 30) = some (b__law_taken_list F) := by kernel_rfl
def G__law_taken_record (pa : Nat → Addr) : Gam := ⟨["_law_shape_here", "_law_thing", "_law_path", "_law_given", "_law_pairs", "_law_odd", "_law_name", "_law_inner", "_law_need", "_law_value_here", "_law_strange_at"], [4], gFns, gFree, gCons, false, gTabs, none⟩
theorem d__law_taken_record (pa : Nat → Addr) (F : Ft) : denBody F (G__law_taken_record pa) .C (top 31) = some (b__law_taken_record F) := by kernel_rfl
def G__law_corners (pa : Nat → Addr) : Gam := ⟨["_law_shape_here", "_law_word", "_law_inner", "_law_found", "_law_one", "_law_tag", "_law_first", "_law_row", "_law_label", "_law_name", "_law_need", "_law_other"], [11, 3], gFns, gFree, gCons, false, gTabs, none⟩
theorem d__law_corners (pa : Nat → Addr) (F : Ft) : denBody F (G__law_corners pa) .C (top 32) = some (b__law_corners F) := by kernel_rfl
def G__law_reads (pa : Nat → Addr) : Gam := ⟨["_law_reader", "_law_writer", "_law_value_here"], [], gFns, gFree, gCons, false, gTabs, none⟩
theorem d__law_reads (pa : Nat → Addr) (F : Ft) : denBody F (G__law_reads pa) .C (top 33) = some (b__law_reads F) := by kernel_rfl
def G_law (pa : Nat → Addr) : Gam := ⟨["_law_script", "_law_bag_here", "_law_turn", "_law_shape_here", "_law_others", "_law_k", "_law_other", "_law_reader", "_law_writer", "_law_due", "_law_told"], [], gFns, gFree, gCons, false, gTabs, none⟩
theorem d_law (pa : Nat → Addr) (F : Ft) : denBody F (G_law pa) .C (top 34) = some (b_law F) := by kernel_rfl
end SH

namespace SH
open PySem
/-- r ends well, with Q -/
def okR {α : Type} (r : R α) (Q : α → Store → Prop) : Prop := ∃ a st, r = .ok a st ∧ Q a st
section
variable {α β : Type}
@[simp] theorem okR_ok {a : α} {st : Store} {Q : α → Store → Prop} : okR (.ok a st) Q ↔ Q a st := ⟨fun ⟨_, _, h, q⟩ => by cases h; exact q, fun q => ⟨a, st, rfl, q⟩⟩
@[simp] theorem okR_bad {Q : α → Store → Prop} : okR (.bad : R α) Q ↔ False := ⟨fun ⟨_, _, h, _⟩ => (by cases h), fun h => h.elim⟩
@[simp] theorem okR_bind {r : R α} {k : α → Store → R β} {Q : β → Store → Prop} : okR (r.bind k) Q ↔ okR r fun a st => okR (k a st) Q := by
  cases r with
  | ok a st => simp
  | exc c fs st => exact ⟨fun ⟨_, _, h, _⟩ => (by cases h), fun ⟨_, _, h, _⟩ => (by cases h)⟩
  | bad => simp
@[simp] theorem okR_liftO {o : Option D} {st : Store} {Q : D → Store → Prop} : okR (liftO o st) Q ↔ ∃ d, o = some d ∧ Q d st := by
  cases o <;> simp
@[simp] theorem okR_onO {o : Option α} {k : α → R β} {Q : β → Store → Prop} : okR (onO o k) Q ↔ ∃ a, o = some a ∧ okR (k a) Q := by
  cases o <;> simp
@[simp] theorem okR_onB {x : D} {t e : R α} {Q : α → Store → Prop} : okR (onB x t e) Q ↔ ∃ b, x = .bl b ∧ (b = true → okR t Q) ∧ (b = false → okR e Q) := by
  cases x with
  | bl b => cases b <;> simp
  | _ => simp [onB]
theorem okR.mono {r : R α} {Q Q' : α → Store → Prop} (h : okR r Q) (w : ∀ a st, Q a st → Q' a st) : okR r Q' := by
  obtain ⟨a, st, e, q⟩ := h
  exact ⟨a, st, e, w a st q⟩
theorem okR.eq {r : R α} {a : α} {st : Store} (h : okR r fun a' st' => a' = a ∧ st' = st) : r = .ok a st := by
  obtain ⟨a', st', e, rfl, rfl⟩ := h
  exact e
end
section
variable {ρ : Env} {st : Store} {Q : D → Store → Prop}
@[simp] theorem w_var {i : Nat} : okR (mVar i ρ st) Q ↔ ∃ d, ρ[i]? = some (some d) ∧ Q d st := by
  unfold mVar
  cases h : ρ[i]? with
  | none => simp
  | some o => cases o <;> simp
@[simp] theorem w_lit {d : D} : okR (mLit d ρ st) Q ↔ Q d st := by simp [mLit]
@[simp] theorem w_nil {Q : List D → Store → Prop} : okR (mArgs [] ρ st) Q ↔ Q [] st := by simp [mArgs]
@[simp] theorem w_cons {e : EM} {r : List EM} {Q : List D → Store → Prop} : okR (mArgs (e :: r) ρ st) Q ↔ okR (e ρ st) fun d st1 => okR (mArgs r ρ st1) fun ds st2 => Q (d :: ds) st2 := by simp [mArgs]
@[simp] theorem w_tup {es : List EM} : okR (mTup es ρ st) Q ↔ okR (mArgs es ρ st) fun ds st1 => Q (.tup ds) st1 := by simp [mTup]
@[simp] theorem w_lst {es : List EM} : okR (mLst es ρ st) Q ↔ okR (mArgs es ρ st) fun ds st1 => Q (.lst ds) st1 := by simp [mLst]
@[simp] theorem w_new {es : List EM} : okR (mNew es ρ st) Q ↔ okR (mArgs es ρ st) fun ds st1 => Q (.ref st1.length) (st1 ++ [.lst ds]) := by simp [mNew]
@[simp] theorem w_op2 {f : Store → D → D → Option D} {a b : EM} : okR (mOp2 f a b ρ st) Q ↔ okR (a ρ st) fun x st1 => okR (b ρ st1) fun y st2 => ∃ d, f st2 x y = some d ∧ Q d st2 := by simp [mOp2]
@[simp] theorem w_op3 {f : Store → D → D → D → Option D} {a b c : EM} : okR (mOp3 f a b c ρ st) Q ↔ okR (a ρ st) fun x st1 => okR (b ρ st1) fun y st2 => okR (c ρ st2) fun z st3 => ∃ d, f st3 x y z = some d ∧ Q d st3 := by simp [mOp3]
@[simp] theorem w_op1 {f : Store → D → Option D} {a : EM} : okR (mOp1 f a ρ st) Q ↔ okR (a ρ st) fun x st1 => ∃ d, f st1 x = some d ∧ Q d st1 := by simp [mOp1]
@[simp] theorem w_and {a b : EM} : okR (mAnd a b ρ st) Q ↔ okR (a ρ st) fun x st1 => ∃ c, x = .bl c ∧ (c = true → okR (b ρ st1) Q) ∧ (c = false → Q (.bl false) st1) := by simp [mAnd]
@[simp] theorem w_or {a b : EM} : okR (mOr a b ρ st) Q ↔ okR (a ρ st) fun x st1 => ∃ c, x = .bl c ∧ (c = true → Q (.bl true) st1) ∧ (c = false → okR (b ρ st1) Q) := by simp [mOr]
@[simp] theorem w_ite {c a b : EM} : okR (mIte c a b ρ st) Q ↔ okR (c ρ st) fun x st1 => ∃ t, x = .bl t ∧ (t = true → okR (a ρ st1) Q) ∧ (t = false → okR (b ρ st1) Q) := by simp [mIte]
@[simp] theorem w_call {F : Ft} {i : Nat} {es : List EM} : okR (mCall F i es ρ st) Q ↔ okR (mArgs es ρ st) fun ds st1 => okR (F i ds st1) Q := by simp [mCall]
@[simp] theorem w_chain {f g : Store → D → D → Option D} {a b c : EM} : okR (mChain f g a b c ρ st) Q ↔ okR (a ρ st) fun x st1 => okR (b ρ st1) fun y st2 => ∃ t, f st2 x y = some t ∧ ∃ u, t = .bl u ∧ (u = true → okR (c ρ st2) fun z st4 => ∃ d, g st4 y z = some d ∧ Q d st4) ∧ (u = false → Q (.bl false) st2) := by simp [mChain]
@[simp] theorem w_sl {a : EM} {lo hi : Option EM} : okR (mSl a lo hi ρ st) Q ↔ okR (a ρ st) fun x st1 => okR (partD lo ρ st1) fun l st2 => okR (partD hi ρ st2) fun h st3 => ∃ d, slD x l h = some d ∧ Q d st3 := by simp [mSl]
@[simp] theorem w_part0 {Q : Option Int → Store → Prop} : okR (partD none ρ st) Q ↔ Q none st := by simp [partD]
@[simp] theorem w_part1 {m : EM} {Q : Option Int → Store → Prop} : okR (partD (some m) ρ st) Q ↔ okR (m ρ st) fun d st1 => ∃ i, d = .int i ∧ Q (some i) st1 := by
  simp only [partD, okR_bind]
  constructor
  · rintro ⟨a, s, e, q⟩
    refine ⟨a, s, e, ?_⟩
    cases a <;> simp at q ⊢
    exact q
  · rintro ⟨a, s, e, i, rfl, q⟩
    exact ⟨_, s, e, by simpa using q⟩
end
section
variable {ρ : Env} {st : Store} {Q : Fl × Env → Store → Prop}
@[simp] theorem w_skip : okR (mSkip ρ st) Q ↔ Q (.next, ρ) st := by simp [mSkip]
@[simp] theorem w_seq {a b : SM} : okR (mSeq a b ρ st) Q ↔ okR (a ρ st) fun p st1 => (p.1 = .next → okR (b p.2 st1) Q) ∧ ∀ d, p.1 = .ret d → Q (.ret d, p.2) st1 := by
  simp only [mSeq, okR_bind]
  constructor
  · rintro ⟨⟨fl, ρ1⟩, s, e, q⟩
    refine ⟨_, s, e, ?_⟩
    cases fl with
    | next => exact ⟨fun _ => q, fun d h => (by cases h)⟩
    | ret d => exact ⟨fun h => (by cases h), fun d' h => (by cases h; simpa using q)⟩
  · rintro ⟨⟨fl, ρ1⟩, s, e, q⟩
    refine ⟨_, s, e, ?_⟩
    cases fl with
    | next => exact q.1 rfl
    | ret d => simpa using q.2 d rfl
@[simp] theorem w_ret {e : EM} : okR (mRet e ρ st) Q ↔ okR (e ρ st) fun d st1 => Q (.ret d, ρ) st1 := by simp [mRet]
@[simp] theorem w_if {c : EM} {a b : SM} : okR (mIf c a b ρ st) Q ↔ okR (c ρ st) fun x st1 => ∃ t, x = .bl t ∧ (t = true → okR (a ρ st1) Q) ∧ (t = false → okR (b ρ st1) Q) := by simp [mIf]
@[simp] theorem w_asg {tg : Tg} {e : EM} : okR (mAsg tg e ρ st) Q ↔ okR (e ρ st) fun d st1 => ∃ ρ1, tg.set d ρ = some ρ1 ∧ Q (.next, ρ1) st1 := by simp [mAsg]
@[simp] theorem w_expr {e : EM} : okR (mExpr e ρ st) Q ↔ okR (e ρ st) fun _ st1 => Q (.next, ρ) st1 := by simp [mExpr]
@[simp] theorem w_par {i j : Nat} {a b : EM} : okR (mPar i j a b ρ st) Q ↔ okR (a ρ st) fun x st1 => okR (b ρ st1) fun y st2 => Q (.next, (ρ.set i (some x)).set j (some y)) st2 := by simp [mPar, mArgs]
@[simp] theorem w_own {i : Nat} {e : EM} : okR (mOwn i e ρ st) Q ↔ okR (e ρ st) fun d st1 => d.isObj = true ∧ Q (.next, ρ.set i (some d)) st1 := by
  simp only [mOwn, okR_bind]
  constructor
  · rintro ⟨d, s, e, q⟩
    refine ⟨d, s, e, ?_⟩
    split at q
    · rename_i h; exact ⟨h, by simpa using q⟩
    · simp at q
  · rintro ⟨d, s, e, h, q⟩
    exact ⟨d, s, e, by dsimp only; rw [if_pos h]; simpa using q⟩
end
@[simp] theorem set_nm {i : Nat} {d : D} {ρ : Env} : Tg.set (.nm i) d ρ = some (ρ.set i (some d)) := by simp [Tg.set]
@[simp] theorem set_tup {l : List Tg} {ds : List D} {ρ : Env} : Tg.set (.tup l) (.tup ds) ρ = Tg.sets l ds ρ := by simp [Tg.set]
@[simp] theorem sets_nil {ρ : Env} : Tg.sets [] [] ρ = some ρ := by simp [Tg.sets]
@[simp] theorem sets_cons {t : Tg} {ts : List Tg} {d : D} {ds : List D} {ρ : Env} : Tg.sets (t :: ts) (d :: ds) ρ = (Tg.set t d ρ).bind fun ρ1 => Tg.sets ts ds ρ1 := by
  simp only [Tg.sets]
  cases Tg.set t d ρ <;> rfl
/-- a call -/
theorem okR_run {T : List FnDef} {n i : Nat} {fn : FnDef} {ds : List D} {st : Store} {Q : D → Store → Prop} (h : T[i]? = some fn) (hl : ds.length = fn.ps)
    (q : okR (fn.body (callT T n) (startE fn.slots ds) st) fun p st' => (p.1 = .next → Q .non st') ∧ ∀ d, p.1 = .ret d → Q d st') : okR (callT T (n + 1) i ds st) Q := by
  rw [callT_succ h]
  unfold runFn
  rw [if_pos hl]
  unfold finish
  rw [okR_bind]
  refine q.mono fun p s h => ?_
  obtain ⟨fl, ρ⟩ := p
  cases fl with
  | next => simpa using h.1 rfl
  | ret d => simpa using h.2 d rfl
theorem dBoolsF {α : Type} (p : α → Bool) : ∀ l : List α, dBools (l.map fun x => .bl (p x)) = some (l.map p)
  | [] => rfl
  | x :: r => by simp [dBools, dBoolsF p r]
theorem dIntsF {α : Type} (p : α → Int) : ∀ l : List α, dInts (l.map fun x => .int (p x)) = some (l.map p)
  | [] => rfl
  | x :: r => by simp [dInts, dIntsF p r]
theorem dStrsF {α : Type} (p : α → Str) : ∀ l : List α, dStrs (l.map fun x => .str (p x)) = some (l.map p)
  | [] => rfl
  | x :: r => by simp [dStrs, dStrsF p r]
@[simp] theorem allD_map {α : Type} {st : Store} (p : α → Bool) (l : List α) : allD st (.lst (l.map fun x => .bl (p x))) = some (.bl (l.all p)) := by
  unfold allD
  dsimp only
  rw [dBoolsF, Option.map_some]
  congr 2
  rw [List.all_map]
  rfl
section
variable {ρ : Env} {st : Store}
@[simp] theorem w_seq_it {e : EM} {Q : List D → Store → Prop} : okR (iSeq e ρ st) Q ↔ okR (e ρ st) fun d st1 => ∃ l, elems d = some l ∧ Q l st1 := by
  simp only [iSeq, okR_bind]
  constructor
  · rintro ⟨d, s, e, q⟩
    refine ⟨d, s, e, ?_⟩
    unfold onL at q
    split at q
    · exact ⟨_, ‹_›, by simpa using q⟩
    · simp at q
  · rintro ⟨d, s, e, l, h, q⟩
    refine ⟨d, s, e, ?_⟩
    dsimp only
    rw [h]
    simpa [onL] using q
/-- a comprehension that leaves the store -/
theorem compGo_of {α : Type} {elt cond : EM} {tg : Tg} (k g : α → D) (c : α → Bool) : ∀ {xs : List α}, (∀ a ∈ xs, ∃ ρ1, tg.set (k a) ρ = some ρ1 ∧ okR (cond ρ1 st) (fun d s => d = .bl (c a) ∧ s = st) ∧ (c a = true → okR (elt ρ1 st) fun d s => d = g a ∧ s = st)) →
    compGo elt tg cond ρ (xs.map k) st = .ok ((xs.filter c).map g) st
  | [], _ => rfl
  | x :: r, h => by
    obtain ⟨ρ1, h1, h2, h3⟩ := h x List.mem_cons_self
    have ih := compGo_of (elt := elt) (cond := cond) (tg := tg) k g c (xs := r) fun y hy => h y (List.mem_cons_of_mem _ hy)
    rw [List.map_cons]
    unfold compGo
    rw [h1, onO_some, h2.eq, R.bind_ok]
    cases hc : c x with
    | true => rw [onB_true, (h3 hc).eq, R.bind_ok, ih, R.bind_ok, List.filter_cons_of_pos hc, List.map_cons]
    | false => rw [onB_false, ih, List.filter_cons_of_neg (by simp [hc])]
theorem comp_if {α : Type} {elt cond : EM} {tg : Tg} {it : LM} {vs : List Nat} {xs : List α} (k g : α → D) (c : α → Bool) (hit : okR (it ρ st) fun l s => l = xs.map k ∧ s = st)
    (h : ∀ a ∈ xs, ∃ ρ1, tg.set (k a) (wipeE ρ vs) = some ρ1 ∧ okR (cond ρ1 st) (fun d s => d = .bl (c a) ∧ s = st) ∧ (c a = true → okR (elt ρ1 st) fun d s => d = g a ∧ s = st)) : mComp elt tg it cond vs ρ st = .ok (.lst ((xs.filter c).map g)) st := by
  unfold mComp
  rw [hit.eq, R.bind_ok, compGo_of k g c h, R.bind_ok]
theorem comp_of {α : Type} {elt : EM} {tg : Tg} {it : LM} {vs : List Nat} {xs : List α} (k g : α → D) (hit : okR (it ρ st) fun l s => l = xs.map k ∧ s = st)
    (h : ∀ a ∈ xs, ∃ ρ1, tg.set (k a) (wipeE ρ vs) = some ρ1 ∧ okR (elt ρ1 st) fun d s => d = g a ∧ s = st) : mComp elt tg it (mLit (.bl true)) vs ρ st = .ok (.lst (xs.map g)) st := by
  have := comp_if (elt := elt) (cond := mLit (.bl true)) (tg := tg) (it := it) (vs := vs) k g (fun _ => true) hit fun x hx => by
    obtain ⟨ρ1, h1, h2⟩ := h x hx
    exact ⟨ρ1, h1, by simp, fun _ => h2⟩
  rw [this, List.filter_eq_self.mpr fun _ _ => rfl]
theorem w_comp {α : Type} {elt : EM} {tg : Tg} {it : LM} {vs : List Nat} {xs : List α} {Q : D → Store → Prop} (k g : α → D) (hit : okR (it ρ st) fun l s => l = xs.map k ∧ s = st)
    (h : ∀ a ∈ xs, ∃ ρ1, tg.set (k a) (wipeE ρ vs) = some ρ1 ∧ okR (elt ρ1 st) fun d s => d = g a ∧ s = st) (q : Q (.lst (xs.map g)) st) : okR (mComp elt tg it (mLit (.bl true)) vs ρ st) Q := by
  rw [comp_of k g hit h, okR_ok]
  exact q
theorem w_compIf {α : Type} {elt cond : EM} {tg : Tg} {it : LM} {vs : List Nat} {xs : List α} {Q : D → Store → Prop} (k g : α → D) (c : α → Bool) (hit : okR (it ρ st) fun l s => l = xs.map k ∧ s = st)
    (h : ∀ a ∈ xs, ∃ ρ1, tg.set (k a) (wipeE ρ vs) = some ρ1 ∧ okR (cond ρ1 st) (fun d s => d = .bl (c a) ∧ s = st) ∧ (c a = true → okR (elt ρ1 st) fun d s => d = g a ∧ s = st)) (q : Q (.lst ((xs.filter c).map g)) st) : okR (mComp elt tg it cond vs ρ st) Q := by
  rw [comp_if k g c hit h, okR_ok]
  exact q
end
theorem beqd {α : Type} [BEq α] [LawfulBEq α] [DecidableEq α] (a b : α) : (a == b) = decide (a = b) := by
  by_cases h : a = b
  · subst h; simp
  · simp [h]
theorem ifn (b c : Bool) : (if b = true then !c else c) = (b ^^ c) := by cases b <;> cases c <;> rfl
@[simp] theorem eqD_ss {neg : Bool} {st : Store} {a b : Str} : eqD neg st (.str a) (.str b) = some (.bl (neg ^^ decide (a = b))) := by
  simp only [eqD, eqOk, D.plain, D.py, D.eq, PyData.eqv, PyData.depth, beqd]
  rw [ifn]
  rfl
@[simp] theorem eqD_ii {neg : Bool} {st : Store} {a b : Int} : eqD neg st (.int a) (.int b) = some (.bl (neg ^^ decide (a = b))) := by
  simp only [eqD, eqOk, D.plain, D.py, D.eq, PyData.eqv, PyData.depth, beqd]
  rw [ifn]
  rfl
def strIs (s : Str) : D → Bool
  | .str t => decide (t = s)
  | _ => false
@[simp] theorem strIs_str {s t : Str} : strIs s (.str t) = decide (t = s) := rfl
theorem eqD_s {neg : Bool} {st : Store} {x : D} {s : Str} (h : x.plain = true) : eqD neg st x (.str s) = some (.bl (neg ^^ strIs s x)) := by
  have hd : ∀ y, min (PyData.depth y) (PyData.depth (.str s)) ≤ 64 := fun y => by simp [PyData.depth]
  have ok : eqOk x (.str s) = true := by
    unfold eqOk
    rw [h]
    simp only [Bool.true_and, D.plain, D.py]
    exact decide_eq_true (hd _)
  unfold eqD
  rw [if_pos ok, ifn]
  congr 3
  cases x <;> simp [D.eq, D.py, PyData.eqv, strIs, D.plain, beqd] at h ⊢
theorem cutL_1 {α : Type} (l : List α) : cutL l (some 1) none = l.tail := by
  unfold cutL
  rw [show (1 : Int) = ((1 : Nat) : Int) from rfl, HT.sIx_nat, HT.sIx_none]
  cases l <;> simp
@[simp] theorem slD_1t {l : List D} : slD (.tup l) (some 1) none = some (.tup l.tail) := by simp [slD, cutL_1]
@[simp] theorem slD_1l {l : List D} : slD (.lst l) (some 1) none = some (.lst l.tail) := by simp [slD, cutL_1]
def zipD : D → D → Option (List D)
  | .lst l, .lst m => some (pairs l m)
  | .tup l, .tup m => some (pairs l m)
  | _, _ => none
@[simp] theorem w_zip {ρ : Env} {st : Store} {a b : EM} {Q : List D → Store → Prop} : okR (iZipL a b ρ st) Q ↔ okR (a ρ st) fun d st1 => okR (b ρ st1) fun e st2 => ∃ l, zipD d e = some l ∧ Q l st2 := by
  simp only [iZipL, okR_bind]
  have key : ∀ (d e : D) (st2 : Store), okR (match d, e with
      | .lst l, .lst m => .ok (pairs l m) st2
      | .tup l, .tup m => .ok (pairs l m) st2
      | _, _ => .bad) Q ↔ ∃ l, zipD d e = some l ∧ Q l st2 := fun d e st2 => by
    cases d <;> cases e <;> simp [zipD]
  constructor
  · rintro ⟨d, s, e1, e, s2, e2, q⟩
    exact ⟨d, s, e1, e, s2, e2, (key d e s2).mp q⟩
  · rintro ⟨d, s, e1, e, s2, e2, q⟩
    exact ⟨d, s, e1, e, s2, e2, (key d e s2).mpr q⟩
theorem pairs_str (l m : List Str) : pairs (l.map D.str) (m.map D.str) = (l.zip m).map fun p => .tup [.str p.1, .str p.2] := by
  unfold pairs
  rw [List.zip_map, List.map_map]
  rfl
@[simp] theorem atI_0 {x : D} {l : List D} : L2.atI (x :: l) 0 = some x := by
  have h : (0 : Int) < ((x :: l).length : Nat) := by simp only [List.length_cons]; omega
  unfold L2.atI L2.ixN
  rw [if_pos (by decide), if_pos h]
  rfl
@[simp] theorem atI_1 {x y : D} {l : List D} : L2.atI (x :: y :: l) 1 = some y := by
  have h : (1 : Int) < ((x :: y :: l).length : Nat) := by simp only [List.length_cons]; omega
  unfold L2.atI L2.ixN
  rw [if_pos (by decide), if_pos h]
  rfl
@[simp] theorem atI_2 {x y z : D} {l : List D} : L2.atI (x :: y :: z :: l) 2 = some z := by
  have h : (2 : Int) < ((x :: y :: z :: l).length : Nat) := by simp only [List.length_cons]; omega
  unfold L2.atI L2.ixN
  rw [if_pos (by decide), if_pos h]
  rfl
def isTy (ts : List Ty) (d : D) : Bool := match d.ty with
  | some t => ts.any fun u => t.sub u
  | none => false
theorem isiD_eq {ts : List Ty} {st : Store} {d : D} (h : d.plain = true) : isiD ts st d = some (.bl (isTy ts d)) := by
  cases d <;> first | rfl | (simp [D.plain] at h)
def tyTup : D → Bool
  | .tup _ => true
  | _ => false
def tyStr : D → Bool
  | .str _ => true
  | _ => false
def tyLst : D → Bool
  | .lst _ => true
  | _ => false
def tyBl : D → Bool
  | .bl _ => true
  | _ => false
theorem isi_tup {st : Store} {d : D} (h : d.plain = true) : isiD [.tuple] st d = some (.bl (tyTup d)) := by
  cases d <;> first | rfl | (simp [D.plain] at h)
theorem isi_str {st : Store} {d : D} (h : d.plain = true) : isiD [.str] st d = some (.bl (tyStr d)) := by
  cases d <;> first | rfl | (simp [D.plain] at h)
theorem isi_bl {st : Store} {d : D} (h : d.plain = true) : isiD [.bool] st d = some (.bl (tyBl d)) := by
  cases d <;> first | rfl | (simp [D.plain] at h)
theorem isi_tl {st : Store} {d : D} (h : d.plain = true) : isiD [.tuple, .list] st d = some (.bl (tyTup d || tyLst d)) := by
  cases d <;> first | rfl | (simp [D.plain] at h)
@[simp] theorem notD_bl {st : Store} {b : Bool} : notD st (.bl b) = some (.bl !b) := rfl
@[simp] theorem lenD_tup {st : Store} {l : List D} : lenD st (.tup l) = some (.int l.length) := rfl
@[simp] theorem lenD_lst {st : Store} {l : List D} : lenD st (.lst l) = some (.int l.length) := rfl
@[simp] theorem lenD_str {st : Store} {l : Str} : lenD st (.str l) = some (.int l.length) := rfl
@[simp] theorem ixD_tup {st : Store} {l : List D} {i : Int} : ixD st (.tup l) (.int i) = L2.atI l i := rfl
@[simp] theorem ixD_lst {st : Store} {l : List D} {i : Int} : ixD st (.lst l) (.int i) = L2.atI l i := rfl
@[simp] theorem isN_bl {st : Store} {n a b : Bool} : isND n st (.bl a) (.bl b) = some (.bl (n ^^ decide (a = b))) := by
  cases n <;> cases a <;> cases b <;> rfl
@[simp] theorem isN_non {st : Store} {n : Bool} {d : D} : isND n st d .non = some (.bl (n ^^ d.isNon)) := by
  cases n <;> simp [isND]
@[simp] theorem le_ii {st : Store} {i j : Int} : leD st (.int i) (.int j) = some (.bl (decide (i ≤ j))) := rfl
@[simp] theorem lt_ii {st : Store} {i j : Int} : ltD st (.int i) (.int j) = some (.bl (decide (i < j))) := rfl
@[simp] theorem gt_ii {st : Store} {i j : Int} : gtD st (.int i) (.int j) = some (.bl (decide (j < i))) := rfl
@[simp] theorem ge_ii {st : Store} {i j : Int} : geD st (.int i) (.int j) = some (.bl (decide (j ≤ i))) := rfl
@[simp] theorem add_ii {st : Store} {i j : Int} : addD st (.int i) (.int j) = some (.int (i + j)) := rfl
@[simp] theorem tyTup_tup {l : List D} : tyTup (.tup l) = true := rfl
theorem flat_strs (ss : List Str) : (ss.map D.str).all D.flat = true := by
  rw [List.all_map]
  exact List.all_eq_true.mpr fun _ _ => rfl
theorem any_eqF (a : Str) : ∀ ss : List Str, ((ss.map D.str).any fun z => eqF z (.str a)) = decide (a ∈ ss)
  | [] => rfl
  | s :: r => by
    rw [List.map_cons, List.any_cons, any_eqF a r]
    have : eqF (.str s) (.str a) = decide (s = a) := by simp [eqF, beqd]
    rw [this]
    by_cases h : s = a
    · subst h; simp
    · have h' : ¬ a = s := fun e => h e.symm
      simp [h, h']
theorem inD_strs {neg : Bool} {st : Store} {a : Str} {ss : List Str} : inD neg st (.str a) (.tup (ss.map D.str)) = some (.bl (neg ^^ decide (a ∈ ss))) := by
  show (if (D.str a).flat && (ss.map D.str).all D.flat then some (D.bl (if neg then !((ss.map D.str).any fun z => eqF z (.str a)) else (ss.map D.str).any fun z => eqF z (.str a))) else none) = _
  rw [flat_strs, any_eqF, ifn]
  rfl
/-- a loop that leaves the store: it goes through, or it hands back e at the first a with p a false -/
theorem forGo_all {α : Type} {tg : Tg} {body : SM} {st : Store} {I : Env → Prop} (k : α → D) (p : α → Bool) (e : D) : ∀ {xs : List α} {ρ : Env}, I ρ → (∀ a ∈ xs, ∀ ρ, I ρ → ∃ ρ1, tg.set (k a) ρ = some ρ1 ∧ okR (body ρ1 st) fun q s => s = st ∧ (p a = true → q.1 = .next ∧ I q.2) ∧ (p a = false → q.1 = .ret e)) →
    okR (forGo tg body (xs.map k) ρ st) fun q s => s = st ∧ (xs.all p = true → q.1 = .next ∧ I q.2) ∧ (xs.all p = false → q.1 = .ret e)
  | [], ρ, hi, _ => by simp [forGo, hi]
  | a :: r, ρ, hi, h => by
    obtain ⟨ρ1, h1, ⟨fl, ρ2⟩, s, h2, h3, h4, h5⟩ := h a (by simp) ρ hi
    subst h3
    rw [List.map_cons]
    unfold forGo
    rw [h1, onO_some, h2, R.bind_ok]
    cases hp : p a with
    | true =>
      obtain ⟨g1, g2⟩ := h4 hp
      have g1' : fl = .next := g1
      subst g1'
      have ih := forGo_all (tg := tg) (body := body) (st := s) (I := I) k p e (xs := r) (ρ := ρ2) g2 fun b hb => h b (by simp [hb])
      simpa [hp] using ih
    | false =>
      have g1' : fl = .ret e := h5 hp
      subst g1'
      simp [hp]
theorem w_for {α : Type} {tg : Tg} {it : LM} {body : SM} {ρ : Env} {st : Store} {Q : Fl × Env → Store → Prop} {xs : List α} (I : Env → Prop) (k : α → D) (p : α → Bool) (e : D) (hit : okR (it ρ st) fun l s => l = xs.map k ∧ s = st) (hi : I ρ)
    (h : ∀ a ∈ xs, ∀ ρ, I ρ → ∃ ρ1, tg.set (k a) ρ = some ρ1 ∧ okR (body ρ1 st) fun q s => s = st ∧ (p a = true → q.1 = .next ∧ I q.2) ∧ (p a = false → q.1 = .ret e))
    (q1 : xs.all p = true → ∀ ρ', I ρ' → Q (.next, ρ') st) (q2 : xs.all p = false → ∀ ρ', Q (.ret e, ρ') st) : okR (mFor tg it body ρ st) Q := by
  unfold mFor
  rw [hit.eq, R.bind_ok]
  refine (forGo_all k p e hi h).mono fun q s hq => ?_
  obtain ⟨rfl, h1, h2⟩ := hq
  obtain ⟨fl, ρ'⟩ := q
  cases hp : xs.all p with
  | true =>
    obtain ⟨g1, g2⟩ := h1 hp
    have g1' : fl = .next := g1
    subst g1'
    exact q1 hp ρ' g2
  | false =>
    have g1' : fl = .ret e := h2 hp
    subst g1'
    exact q2 hp ρ'
end SH

namespace SH
open PySem
section
variable {st : Store} {d e : D}
def isWhole : D → Bool
  | .int _ => true
  | _ => false
def within (lo hi : Int) : D → Bool
  | .int i => decide (lo ≤ i) && decide (i ≤ hi)
  | _ => false
def lettersS (s : Str) : Bool := s.cps.toList.all fun c => decide (c ∈ ("abcdefghijklmnopqrstuvwxyz" : Str).cps.toList)
def letters : D → Bool
  | .str s => lettersS s
  | _ => false
def nameS (s : Str) : Bool := lettersS s && (decide (1 ≤ s.length) && decide (s.length ≤ 8))
def isName : D → Bool
  | .str s => nameS s
  | _ => false
def ltS (a b : Str) : Bool := decide (a.cps.toList < b.cps.toList)
def risesS (ss : List Str) : Bool := (ss.zip ss.tail).all fun p => ltS p.1 p.2
def pair2 : D → Bool
  | .tup [_, _] => true
  | _ => false
def hdD : D → D
  | .tup (x :: _) => x
  | _ => .non
def arePairs : D → Bool
  | .tup l => l.all pair2 && (l.all (fun r => isName (hdD r)) && risesS (l.map rowKey))
  | _ => false
theorem plain_mem : ∀ {l : List D}, D.plains l = true → ∀ x ∈ l, x.plain = true
  | [], _, x, h => by cases h
  | y :: r, h, x, hx => by
    simp only [D.plains, Bool.and_eq_true] at h
    rcases List.mem_cons.mp hx with rfl | hx
    · exact h.1
    · exact plain_mem h.2 x hx
theorem plain_tup {l : List D} (h : (D.tup l).plain = true) : ∀ x ∈ l, x.plain = true := plain_mem (by simpa only [D.plain] using h)
theorem name_key {r : D} (h : isName (hdD r) = true) : hdD r = .str (rowKey r) := by
  unfold hdD at h ⊢
  split at h
  · rename_i x l
    cases x <;> simp [isName, rowKey] at h ⊢
  · simp [isName] at h
theorem pair2_eq {r : D} (h : pair2 r = true) : ∃ x y, r = .tup [x, y] := by
  unfold pair2 at h
  split at h
  · exact ⟨_, _, rfl⟩
  · cases h
def isOf (w : Str) (m : Nat) : D → Bool
  | .tup (x :: r) => decide (r.length + 1 = m) && strIs w x
  | _ => false
theorem D.eq_str {x : D} {s : Str} (h : x.plain = true) : D.eq x (.str s) = strIs s x := by
  have := eqD_s (neg := false) (st := []) (s := s) h
  unfold eqD at this
  split at this
  · simpa using this
  · cases this
theorem eqD_nil {neg : Bool} {l : List D} (h : D.plains l = true) : eqD neg st (.lst l) (.lst []) = some (.bl (neg ^^ l.isEmpty)) := by
  have ok : eqOk (.lst l) (.lst []) = true := by
    unfold eqOk
    simp only [D.plain, h, D.plains, Bool.true_and, D.py, D.pys]
    refine decide_eq_true (Nat.le_trans (Nat.min_le_right _ _) ?_)
    simp [PyData.depth, PyData.depthAll]
  unfold eqD
  rw [if_pos ok, ifn]
  congr 3
  cases l <;> simp [D.eq, D.py, D.pys, PyData.eqv, PyData.eqvAll]
/-- rows[i] with this name at its head, the first -/
def rowOf (l : List D) (w : Str) : D := ((l.filter fun r => strIs w (hdD r)).head?).getD .non
def row1 : D → Bool
  | .tup (_ :: _) => true
  | _ => false
theorem plains_of : ∀ {l : List D}, (∀ x ∈ l, x.plain = true) → D.plains l = true
  | [], _ => rfl
  | x :: r, h => by
    simp only [D.plains, Bool.and_eq_true]
    exact ⟨h x (by simp), plains_of fun y hy => h y (by simp [hy])⟩
/-- a row of m, its name ahead -/
def rowM (m : Nat) : D → Bool
  | .tup (x :: r) => decide (r.length + 1 = m) && isName x
  | _ => false
def areRows (lo hi m : Nat) : D → Bool
  | .tup l => (decide (lo ≤ l.length) && decide (l.length ≤ hi)) && (l.all (rowM m) && risesS (l.map rowKey))
  | _ => false
theorem rowM_eq {m : Nat} {r : D} (h : rowM m r = true) : ∃ x q, r = .tup (x :: q) ∧ q.length + 1 = m ∧ isName x = true := by
  unfold rowM at h
  split at h
  · simp at h
    exact ⟨_, _, rfl, h.1, h.2⟩
  · cases h
theorem name_str {x : D} (h : isName x = true) : ∃ s, x = .str s := by
  cases x <;> first | exact ⟨_, rfl⟩ | cases h
theorem any_strIs (a : Str) : ∀ ss : List Str, ((ss.map D.str).any fun z => strIs a z) = decide (a ∈ ss)
  | [] => rfl
  | s :: r => by
    rw [List.map_cons, List.any_cons, any_strIs a r]
    by_cases h : s = a
    · subst h; simp
    · have h' : ¬ a = s := fun e => h e.symm
      simp [h, h']
def oD : Option Nat → D
  | none => .non
  | some m => .int m
def sumO : List (Option Nat) → Nat
  | [] => 0
  | none :: r => sumO r
  | some m :: r => m + sumO r
def totalO (os : List (Option Nat)) : Option Nat := if none ∈ os then none else some (1 + sumO os)
theorem flat_oD (os : List (Option Nat)) : (os.map oD).all D.flat = true := by
  rw [List.all_map]
  exact List.all_eq_true.mpr fun o _ => by cases o <;> rfl
theorem any_oD : ∀ os : List (Option Nat), ((os.map oD).any fun z => eqF z .non) = decide (none ∈ os)
  | [] => rfl
  | o :: r => by
    rw [List.map_cons, List.any_cons, any_oD r]
    cases o with
    | none => simp [oD, eqF]
    | some m => simp [oD, eqF]
theorem inD_non {st : Store} {os : List (Option Nat)} : inD false st .non (.lst (os.map oD)) = some (.bl (decide (none ∈ os))) := by
  show (if D.non.flat && (os.map oD).all D.flat then some (D.bl (if false = true then !((os.map oD).any fun z => eqF z .non) else (os.map oD).any fun z => eqF z .non)) else none) = _
  rw [flat_oD, any_oD]
  rfl
theorem sum_oD {st : Store} : ∀ {os : List (Option Nat)}, none ∉ os → dInts (os.map oD) = some (os.map fun o => ((o.getD 0 : Nat) : Int)) ∧ (os.map fun o => ((o.getD 0 : Nat) : Int)).sum = (sumO os : Nat)
  | [], _ => ⟨rfl, rfl⟩
  | o :: r, h => by
    obtain ⟨h1, h2⟩ := sum_oD (st := st) (os := r) fun q => h (by simp [q])
    cases o with
    | none => simp at h
    | some m => exact ⟨by simp [oD, dInts, h1], by simp only [List.map_cons, List.sum_cons, h2, sumO]; simp⟩
theorem in_12 {c : Nat} : inD true st (.int c) (.tup [.int 1, .int 2]) = some (.bl (!(decide (c = 1) || decide (c = 2)))) := by
  have e1 : eqF (.int 1) (.int c) = decide (c = 1) := by
    simp only [eqF, beqd]
    exact decide_eq_decide.mpr ⟨fun h => by omega, fun h => by omega⟩
  have e2 : eqF (.int 2) (.int c) = decide (c = 2) := by
    simp only [eqF, beqd]
    exact decide_eq_decide.mpr ⟨fun h => by omega, fun h => by omega⟩
  show (if (D.int c).flat && [D.int 1, D.int 2].all D.flat then some (D.bl (if true = true then !([D.int 1, D.int 2].any fun z => eqF z (.int c)) else [D.int 1, D.int 2].any fun z => eqF z (.int c))) else none) = _
  simp only [List.any_cons, List.any_nil, e1, e2, Bool.or_false]
  rfl
def okWhole : D → D → Bool
  | .int i, .int j => (decide (-1000000000 ≤ i) && decide (i ≤ 1000000000)) && ((decide (-1000000000 ≤ j) && decide (j ≤ 1000000000)) && decide (i ≤ j))
  | _, _ => false
def okNames : D → Bool
  | .tup l => (decide (1 ≤ l.length) && decide (l.length ≤ 8)) && (l.all isName && risesS (l.map strD))
  | _ => false
where strD : D → Str
  | .str s => s
  | _ => Str.empty
theorem names_eq : ∀ {l : List D}, l.all isName = true → l = (l.map okNames.strD).map D.str
  | [], _ => rfl
  | x :: r, h => by
    simp only [List.all_cons, Bool.and_eq_true] at h
    obtain ⟨s, rfl⟩ := name_str h.1
    have := names_eq h.2
    simp only [List.map_cons, okNames.strD]
    rw [← this]
def ndD : D → D
  | .tup (_ :: x :: _) => x
  | _ => .non
def rdD : D → D
  | .tup (_ :: _ :: x :: _) => x
  | _ => .non
theorem fuel {a b : Nat} {F : Nat → R D} {r : R D} (h : F a = r) (e : b = a) : F b = r := by rw [e]; exact h
theorem plain_str (s : Str) : (D.str s).plain = true := rfl
end
end SH

namespace SH
open PySem
inductive S where
  | whole (lo hi : Int) | word (n : Int) | truth | one (ss : List Str)
  | list (s : S) (n : Int) | maybe (s : S)
  | record (rows : List (Str × S × Option D)) | either (rows : List (Str × S))
/-- a field: name, shape, none of must, some v of else -/
abbrev Fld := Str × S × Option D
theorem S.ind {P : S → Prop} (h1 : ∀ lo hi, P (.whole lo hi)) (h2 : ∀ n, P (.word n)) (h3 : P .truth) (h4 : ∀ ss, P (.one ss)) (h5 : ∀ s n, P s → P (.list s n)) (h6 : ∀ s, P s → P (.maybe s))
   (h7 : ∀ rows, (∀ r ∈ rows, P r.2.1) → P (.record rows)) (h8 : ∀ rows, (∀ r ∈ rows, P r.2) → P (.either rows)) (s : S) : P s := by
  refine S.rec (motive_1 := P) (motive_2 := fun l => ∀ r ∈ l, P r.2.1) (motive_3 := fun l => ∀ r ∈ l, P r.2) (motive_4 := fun r => P r.2.1) (motive_5 := fun r => P r.2) (motive_6 := fun r => P r.1) h1 h2 h3 h4 (fun s n h => h5 s n h) h6 h7 h8 ?_ ?_ ?_ ?_ ?_ ?_ ?_ s
  all_goals simp_all
  all_goals grind
def ndOf : Option D → D
  | none => .tup [.str "must"]
  | some v => .tup [.str "else", v]
mutual
def S.d : S → D
  | .whole lo hi => .tup [.str "whole", .int lo, .int hi]
  | .word n => .tup [.str "word", .int n]
  | .truth => .tup [.str "truth"]
  | .one ss => .tup [.str "one", .tup (ss.map D.str)]
  | .list s n => .tup [.str "list", S.d s, .int n]
  | .maybe s => .tup [.str "maybe", S.d s]
  | .record rows => .tup [.str "record", .tup (S.df rows)]
  | .either rows => .tup [.str "either", .tup (S.de rows)]
def S.df : List (Str × S × Option D) → List D
  | [] => []
  | (n, s, x) :: r => .tup [.str n, S.d s, ndOf x] :: S.df r
def S.de : List (Str × S) → List D
  | [] => []
  | (n, s) :: r => .tup [.str n, S.d s] :: S.de r
end
def fldD (r : Fld) : D := .tup [.str r.1, r.2.1.d, ndOf r.2.2]
def tagD (r : Str × S) : D := .tup [.str r.1, r.2.d]
/-- a pair of a value -/
def prD (p : Str × D) : D := .tup [.str p.1, p.2]
theorem S.df_eq : ∀ rows, S.df rows = rows.map fldD
  | [] => by simp [S.df]
  | (n, s, x) :: r => by simp [S.df, S.df_eq r, fldD]
theorem S.de_eq : ∀ rows, S.de rows = rows.map tagD
  | [] => by simp [S.de]
  | (n, s) :: r => by simp [S.de, S.de_eq r, tagD]
theorem S.d_whole {lo hi : Int} : (S.whole lo hi).d = .tup [.str "whole", .int lo, .int hi] := by simp [S.d]
theorem S.d_word {n : Int} : (S.word n).d = .tup [.str "word", .int n] := by simp [S.d]
theorem S.d_truth : S.truth.d = .tup [.str "truth"] := by simp [S.d]
theorem S.d_one {ss : List Str} : (S.one ss).d = .tup [.str "one", .tup (ss.map D.str)] := by simp [S.d]
theorem S.d_list {s : S} {n : Int} : (S.list s n).d = .tup [.str "list", s.d, .int n] := by simp [S.d]
theorem S.d_maybe {s : S} : (S.maybe s).d = .tup [.str "maybe", s.d] := by simp [S.d]
theorem S.d_record {rows : List Fld} : (S.record rows).d = .tup [.str "record", .tup (rows.map fldD)] := by simp [S.d, S.df_eq]
theorem S.d_either {rows : List (Str × S)} : (S.either rows).d = .tup [.str "either", .tup (rows.map tagD)] := by simp [S.d, S.de_eq]
/-- the first of a name -/
def lkp {α : Type} : List (Str × α) → Str → Option α
  | [], _ => none
  | (n, a) :: r, w => if n = w then some a else lkp r w
theorem lkp_cons {α : Type} {n : Str} {a : α} {r : List (Str × α)} {w : Str} : lkp ((n, a) :: r) w = if n = w then some a else lkp r w := rfl
theorem lkp_mem {α : Type} : ∀ {l : List (Str × α)} {w : Str} {a : α}, lkp l w = some a → (w, a) ∈ l
  | [], _, _, h => by cases h
  | (n, a) :: r, w, b, h => by
    unfold lkp at h
    split at h
    · rename_i e
      cases h
      subst e
      simp
    · exact List.mem_cons_of_mem _ (lkp_mem h)
theorem lkp_none {α : Type} : ∀ {l : List (Str × α)} {w : Str}, lkp l w = none ↔ w ∉ l.map (·.1)
  | [], _ => by simp [lkp]
  | (n, a) :: r, w => by
    unfold lkp
    split
    · rename_i e
      subst e
      simp
    · rename_i e
      rw [lkp_none]
      simp
      intro _ e'
      exact e e'.symm
theorem lkp_isSome {α : Type} {l : List (Str × α)} {w : Str} : (lkp l w).isSome = decide (w ∈ l.map (·.1)) := by
  cases h : lkp l w with
  | none => simpa using lkp_none.mp h
  | some a =>
    have := lkp_mem h
    simp
    exact ⟨_, this⟩
theorem lkp_of_mem {α : Type} : ∀ {l : List (Str × α)} {w : Str} {a : α}, (l.map (·.1)).Nodup → (w, a) ∈ l → lkp l w = some a
  | (n, b) :: r, w, a, hn, h => by
    simp only [List.map_cons, List.nodup_cons] at hn
    unfold lkp
    rcases List.mem_cons.mp h with e | h
    · cases e
      simp
    · have : ¬ n = w := fun e => hn.1 (by subst e; exact List.mem_map.mpr ⟨_, h, rfl⟩)
      rw [if_neg this]
      exact lkp_of_mem hn.2 h
def rowIs {α : Type} (f : Str × α → D) (w : Str) : Option α → D
  | some a => f (w, a)
  | none => .non
@[simp] theorem rowIs_some {α : Type} {f : Str × α → D} {w : Str} {a : α} : rowIs f w (some a) = f (w, a) := rfl
@[simp] theorem rowIs_none {α : Type} {f : Str × α → D} {w : Str} : rowIs f w none = .non := rfl
theorem rowOf_map {α : Type} (f : Str × α → D) (hf : ∀ r, hdD (f r) = .str r.1) : ∀ (l : List (Str × α)) (w : Str), rowOf (l.map f) w = rowIs f w (lkp l w)
  | [], w => by simp [rowOf, lkp]
  | (n, a) :: r, w => by
    have ih := rowOf_map f hf r w
    unfold rowOf at ih ⊢
    unfold lkp
    rw [List.map_cons]
    by_cases h : n = w
    · subst h
      rw [if_pos rfl, List.filter_cons_of_pos (by simp [hf])]
      simp
    · rw [if_neg h, List.filter_cons_of_neg (by simp [hf, h])]
      exact ih
theorem strIs_eq {s : Str} {x : D} (h : strIs s x = true) : x = .str s := by
  cases x <;> simp [strIs] at h
  rw [h]
def S.dep : Nat → S → Prop
  | 0, _ => False
  | k + 1, s => match s with
    | .list s _ => S.dep k s
    | .maybe s => S.dep k s
    | .record rows => ∀ r ∈ rows, S.dep k r.2.1
    | .either rows => ∀ r ∈ rows, S.dep k r.2
    | _ => True
theorem S.dep_succ : ∀ {k : Nat} {s : S}, s.dep k → s.dep (k + 1)
  | k + 1, s, h => by
    cases s <;> simp only [S.dep] at h ⊢
    case list => exact S.dep_succ h
    case maybe => exact S.dep_succ h
    case record => exact fun r hr => S.dep_succ (h r hr)
    case either => exact fun r hr => S.dep_succ (h r hr)
theorem S.dep_le {k : Nat} {s : S} (h : s.dep k) : ∀ {j : Nat}, k ≤ j → s.dep j := by
  intro j hj
  induction hj with
  | refl => exact h
  | step _ ih => exact S.dep_succ ih
mutual
def isVal : S → D → Bool
  | .whole lo hi, d => within lo hi d
  | .word n, d => (match d with
    | .str s => lettersS s && decide ((s.length : Int) ≤ n)
    | _ => false)
  | .truth, d => tyBl d
  | .one ss, d => (match d with
    | .str s => decide (s ∈ ss)
    | _ => false)
  | .list s n, d => (match d with
    | .tup [t, .tup l] => strIs "list" t && (decide ((l.length : Int) ≤ n) && l.all (isVal s))
    | _ => false)
  | .maybe s, d => d.isNon || isVal s d
  | .record rows, d => (match d with
    | .tup [t, .tup prs] => strIs "record" t && (arePairs (.tup prs) && (prs.all (fun q => valF rows (rowKey q) (ndD q)) && rows.all (fun r => r.2.2.isSome || decide (r.1 ∈ prs.map rowKey))))
    | _ => false)
  | .either rows, d => (match d with
    | .tup [t, .str g, x] => strIs "either" t && valE rows g x
    | _ => false)
def valF : List (Str × S × Option D) → Str → D → Bool
  | [], _, _ => false
  | (n, s, _) :: r, w, d => if n = w then isVal s d else valF r w d
def valE : List (Str × S) → Str → D → Bool
  | [], _, _ => false
  | (n, s) :: r, w, d => if n = w then isVal s d else valE r w d
end
theorem valF_lkp : ∀ (rows : List Fld) (w : Str) (d : D), valF rows w d = (lkp rows w).any fun a => isVal a.1 d
  | [], w, d => by simp [valF, lkp]
  | (n, s, x) :: r, w, d => by
    unfold lkp
    simp only [valF]
    split
    · rfl
    · exact valF_lkp r w d
theorem valE_lkp : ∀ (rows : List (Str × S)) (w : Str) (d : D), valE rows w d = (lkp rows w).any fun a => isVal a d
  | [], w, d => by simp [valE, lkp]
  | (n, s) :: r, w, d => by
    unfold lkp
    simp only [valE]
    split
    · rfl
    · exact valE_lkp r w d
theorem pairs_eq {prs : List D} (h : arePairs (.tup prs) = true) : ∃ ps : List (Str × D), prs = ps.map prD := by
  simp only [arePairs, Bool.and_eq_true] at h
  refine ⟨prs.map fun q => (rowKey q, ndD q), ?_⟩
  rw [List.map_map]
  refine (List.map_id _).symm.trans (List.map_congr_left fun q hq => ?_)
  have h1 := List.all_eq_true.mp h.1 q hq
  have h2 := List.all_eq_true.mp h.2.1 q hq
  obtain ⟨x, y, rfl⟩ := pair2_eq h1
  obtain ⟨w, hw⟩ := name_str h2
  simp only [hdD] at hw
  subst hw
  simp [prD, rowKey, ndD]
theorem arePairs_map (ps : List (Str × D)) : arePairs (.tup (ps.map prD)) = ((ps.map (·.1)).all nameS && risesS (ps.map (·.1))) := by
  simp only [arePairs]
  have e1 : (ps.map prD).all pair2 = true := by
    rw [List.all_map]
    exact List.all_eq_true.mpr fun _ _ => rfl
  have e2 : (ps.map prD).all (fun r => isName (hdD r)) = (ps.map (·.1)).all nameS := by
    rw [List.all_map, List.all_map]
    rfl
  have e3 : (ps.map prD).map rowKey = ps.map (·.1) := by
    rw [List.map_map]
    rfl
  rw [e1, e2, e3]
  rfl
theorem isVal_record (rows : List Fld) (ps : List (Str × D)) : isVal (.record rows) (.tup [.str "record", .tup (ps.map prD)]) =
    (((ps.map (·.1)).all nameS && risesS (ps.map (·.1))) && (ps.all (fun p => (lkp rows p.1).any fun a => isVal a.1 p.2) && rows.all fun r => r.2.2.isSome || decide (r.1 ∈ ps.map (·.1)))) := by
  simp only [isVal]
  rw [arePairs_map]
  have e3 : (ps.map prD).map rowKey = ps.map (·.1) := by
    rw [List.map_map]
    rfl
  have e4 : ((ps.map prD).all fun q => valF rows (rowKey q) (ndD q)) = ps.all fun p => (lkp rows p.1).any fun a => isVal a.1 p.2 := by
    rw [List.all_map]
    congr 1
    funext p
    exact valF_lkp rows p.1 p.2
  rw [e3, e4, strIs_str]
  simp
end SH

namespace SH
open PySem
def mapO {α β : Type} (f : α → Option β) : List α → Option (List β)
  | [] => some []
  | d :: r => (f d).bind fun a => (mapO f r).map (a :: ·)
theorem mapO_all {α β : Type} {f : α → Option β} : ∀ {l : List α} {m : List β}, mapO f l = some m → ∀ a ∈ l, ∃ b, f a = some b ∧ b ∈ m
  | [], _, _, a, h => by cases h
  | x :: r, m, h, a, ha => by
    unfold mapO at h
    cases hf : f x with
    | none => rw [hf] at h; cases h
    | some b =>
      rw [hf] at h
      cases hr : mapO f r with
      | none => rw [hr] at h; cases h
      | some l =>
        rw [hr] at h
        cases h
        rcases List.mem_cons.mp ha with rfl | ha
        · exact ⟨b, hf, by simp⟩
        · obtain ⟨c, h1, h2⟩ := mapO_all hr a ha
          exact ⟨c, h1, by simp [h2]⟩
theorem mapO_back {α β : Type} {f : α → Option β} : ∀ {l : List α} {m : List β}, mapO f l = some m → ∀ b ∈ m, ∃ a ∈ l, f a = some b
  | [], m, h, b, hb => by cases h; cases hb
  | x :: r, m, h, b, hb => by
    unfold mapO at h
    cases hf : f x with
    | none => rw [hf] at h; cases h
    | some c =>
      rw [hf] at h
      cases hr : mapO f r with
      | none => rw [hr] at h; cases h
      | some l =>
        rw [hr] at h
        cases h
        rcases List.mem_cons.mp hb with rfl | hb
        · exact ⟨x, by simp, hf⟩
        · obtain ⟨a, h1, h2⟩ := mapO_back hr b hb
          exact ⟨a, by simp [h1], h2⟩
theorem mapO_none {α β : Type} {f : α → Option β} : ∀ {l : List α}, mapO f l = none ↔ ∃ a ∈ l, f a = none
  | [] => by simp [mapO]
  | x :: r => by
    unfold mapO
    cases hf : f x with
    | none => simp [hf]
    | some b =>
      have := mapO_none (f := f) (l := r)
      cases hr : mapO f r with
      | none => rw [hr] at this; simp at this ⊢; exact .inr this
      | some l => rw [hr] at this; simp [hf] at this ⊢; exact this
/-- a list mapped on, each one by its own -/
theorem mapO_map {α β γ : Type} {f : α → Option β} {g : β → γ} {h : α → γ} : ∀ {l : List α} {m : List β}, mapO f l = some m → (∀ a ∈ l, ∀ b, f a = some b → g b = h a) → m.map g = l.map h
  | [], m, e, _ => by cases e; rfl
  | x :: r, m, e, w => by
    unfold mapO at e
    cases hf : f x with
    | none => rw [hf] at e; cases e
    | some b =>
      rw [hf] at e
      cases hr : mapO f r with
      | none => rw [hr] at e; cases e
      | some l =>
        rw [hr] at e
        cases e
        simp only [List.map_cons]
        rw [w x (by simp) b hf, mapO_map hr fun a ha b hb => w a (by simp [ha]) b hb]
theorem mapO_of {α β : Type} {f : α → Option β} {g : β → α} : ∀ {m : List β}, (∀ b ∈ m, f (g b) = some b) → mapO f (m.map g) = some m
  | [], _ => rfl
  | b :: r, h => by
    simp only [List.map_cons, mapO]
    rw [h b (by simp), mapO_of fun c hc => h c (by simp [hc])]
    rfl
/-- a need read for a shape -/
def rdNd (s : S) : D → Option (Option D)
  | .tup [x] => if strIs "must" x = true then some none else none
  | .tup [x, y] => if (strIs "else" x && isVal s y) = true then some (some y) else none
  | _ => none
theorem rdNd_eq {s : S} {x : D} {o : Option D} (h : rdNd s x = some o) : x = ndOf o ∧ ∀ v, o = some v → isVal s v = true := by
  unfold rdNd at h
  split at h
  · split at h
    · rename_i e
      cases h
      rw [strIs_eq e]
      exact ⟨rfl, fun v z => by cases z⟩
    · cases h
  · split at h
    · rename_i e
      cases h
      simp only [Bool.and_eq_true] at e
      rw [strIs_eq e.1]
      exact ⟨rfl, fun v z => by cases z; exact e.2⟩
    · cases h
  · cases h
theorem rdNd_of {s : S} {o : Option D} (h : ∀ v, o = some v → isVal s v = true) : rdNd s (ndOf o) = some o := by
  cases o with
  | none => simp [rdNd, ndOf, strIs]
  | some v => simp [rdNd, ndOf, strIs, h v rfl]
def intOf : D → Int
  | .int i => i
  | _ => 0
def strOf : D → Str
  | .str s => s
  | _ => Str.empty
def lstOf : D → List D
  | .tup l => l
  | _ => []
def S.isMaybe : S → Bool
  | .maybe _ => true
  | _ => false
/-- a shape read of a thing, at most k deep -/
def rdS : Nat → D → Option S
  | 0, _ => none
  | k + 1, d => match d with
    | .tup (.str w :: r) =>
      if w = "list" then (match r with
        | [x, c] => if within 0 8 c = true then (rdS k x).map fun s => .list s (intOf c) else none
        | _ => none)
      else if w = "maybe" then (match r with
        | [x] => if strIs "maybe" (hdD x) = true then none else (rdS k x).map .maybe
        | _ => none)
      else if w = "record" then (match r with
        | [x] => if areRows 0 8 3 x = true then (mapO (fun r => (rdS k (ndD r)).bind fun s => (rdNd s (rdD r)).map fun o => ((rowKey r, s, o) : Fld)) (lstOf x)).map .record else none
        | _ => none)
      else if w = "either" then (match r with
        | [x] => if areRows 1 6 2 x = true then (mapO (fun r => (rdS k (ndD r)).map fun s => (rowKey r, s)) (lstOf x)).map .either else none
        | _ => none)
      else if w = "whole" then (match r with
        | [a, b] => if okWhole a b = true then some (.whole (intOf a) (intOf b)) else none
        | _ => none)
      else if w = "word" then (match r with
        | [a] => if within 0 20 a = true then some (.word (intOf a)) else none
        | _ => none)
      else if w = "truth" then (match r with
        | [] => some .truth
        | _ => none)
      else if w = "one" then (match r with
        | [a] => if okNames a = true then some (.one ((lstOf a).map strOf)) else none
        | _ => none)
      else none
    | _ => none
mutual
def S.cnt : S → Nat
  | .whole _ _ => 1
  | .word _ => 1
  | .truth => 1
  | .one _ => 1
  | .list s _ => 1 + S.cnt s
  | .maybe s => 1 + S.cnt s
  | .record rows => 1 + S.cntF rows
  | .either rows => 1 + S.cntE rows
def S.cntF : List (Str × S × Option D) → Nat
  | [] => 0
  | (_, s, _) :: r => S.cnt s + S.cntF r
def S.cntE : List (Str × S) → Nat
  | [] => 0
  | (_, s) :: r => S.cnt s + S.cntE r
end
theorem S.cntF_eq : ∀ rows, S.cntF rows = (rows.map fun r => r.2.1.cnt).sum
  | [] => by simp [S.cntF]
  | (n, s, x) :: r => by simp [S.cntF, S.cntF_eq r]
theorem S.cntE_eq : ∀ rows, S.cntE rows = (rows.map fun r => r.2.cnt).sum
  | [] => by simp [S.cntE]
  | (n, s) :: r => by simp [S.cntE, S.cntE_eq r]
/-- a shape of at most k within one another, but for its count -/
def S.ok : Nat → S → Prop
  | 0, _ => False
  | k + 1, s => match s with
    | .whole lo hi => -1000000000 ≤ lo ∧ lo ≤ hi ∧ hi ≤ 1000000000
    | .word n => 0 ≤ n ∧ n ≤ 20
    | .truth => True
    | .one ss => 1 ≤ ss.length ∧ ss.length ≤ 8 ∧ ss.all nameS = true ∧ risesS ss = true
    | .list s n => 0 ≤ n ∧ n ≤ 8 ∧ S.ok k s
    | .maybe s => s.isMaybe = false ∧ S.ok k s
    | .record rows => rows.length ≤ 8 ∧ (rows.map (·.1)).all nameS = true ∧ risesS (rows.map (·.1)) = true ∧ ∀ r ∈ rows, S.ok k r.2.1 ∧ ∀ v, r.2.2 = some v → isVal r.2.1 v = true
    | .either rows => 1 ≤ rows.length ∧ rows.length ≤ 6 ∧ (rows.map (·.1)).all nameS = true ∧ risesS (rows.map (·.1)) = true ∧ ∀ r ∈ rows, S.ok k r.2
theorem S.ok_dep : ∀ {k : Nat} {s : S}, s.ok k → s.dep k
  | k + 1, s, h => by
    cases s <;> simp only [S.ok, S.dep] at h ⊢
    case list => exact S.ok_dep h.2.2
    case maybe => exact S.ok_dep h.2
    case record => exact fun r hr => S.ok_dep (h.2.2.2 r hr).1
    case either => exact fun r hr => S.ok_dep (h.2.2.2.2 r hr)
theorem S.ok_succ : ∀ {k : Nat} {s : S}, s.ok k → s.ok (k + 1)
  | k + 1, s, h => by
    cases s
    case list => simp only [S.ok] at h ⊢; exact ⟨h.1, h.2.1, S.ok_succ (k := k) h.2.2⟩
    case maybe => simp only [S.ok] at h ⊢; exact ⟨h.1, S.ok_succ (k := k) h.2⟩
    case record => simp only [S.ok] at h ⊢; exact ⟨h.1, h.2.1, h.2.2.1, fun r hr => ⟨S.ok_succ (k := k) (h.2.2.2 r hr).1, (h.2.2.2 r hr).2⟩⟩
    case either => simp only [S.ok] at h ⊢; exact ⟨h.1, h.2.1, h.2.2.1, h.2.2.2.1, fun r hr => S.ok_succ (k := k) (h.2.2.2.2 r hr)⟩
    all_goals first | exact h | (simp only [S.ok] at h ⊢; exact h)
theorem S.ok_le {k : Nat} {s : S} (h : s.ok k) : ∀ {j : Nat}, k ≤ j → s.ok j := by
  intro j hj
  induction hj with
  | refl => exact h
  | step _ ih => exact S.ok_succ ih
theorem S.hd (s : S) : ∃ w r, s.d = .tup (.str w :: r) := by
  cases s
  · exact ⟨_, _, S.d_whole⟩
  · exact ⟨_, _, S.d_word⟩
  · exact ⟨_, _, S.d_truth⟩
  · exact ⟨_, _, S.d_one⟩
  · exact ⟨_, _, S.d_list⟩
  · exact ⟨_, _, S.d_maybe⟩
  · exact ⟨_, _, S.d_record⟩
  · exact ⟨_, _, S.d_either⟩
theorem S.hd_maybe (s : S) : strIs "maybe" (hdD s.d) = s.isMaybe := by
  cases s <;> simp only [S.d_whole, S.d_word, S.d_truth, S.d_one, S.d_list, S.d_maybe, S.d_record, S.d_either, hdD, strIs, S.isMaybe] <;> decide +kernel
theorem within_eq {lo hi : Int} {c : D} (h : within lo hi c = true) : ∃ i, c = .int i ∧ lo ≤ i ∧ i ≤ hi := by
  cases c <;> simp [within] at h
  exact ⟨_, rfl, h.1, h.2⟩
theorem areRows_eq {lo hi m : Nat} {x : D} (h : areRows lo hi m x = true) : ∃ l, x = .tup l ∧ lo ≤ l.length ∧ l.length ≤ hi ∧ (∀ r ∈ l, rowM m r = true) ∧ risesS (l.map rowKey) = true := by
  cases x <;> simp [areRows] at h
  exact ⟨_, rfl, h.1.1, h.1.2, h.2.1, h.2.2⟩
theorem rowM_name {m : Nat} {r : D} (h : rowM m r = true) : nameS (rowKey r) = true := by
  obtain ⟨x, q, rfl, _, h⟩ := rowM_eq h
  obtain ⟨s, rfl⟩ := name_str h
  exact h
theorem rowM3 {r : D} (h : rowM 3 r = true) : r = .tup [.str (rowKey r), ndD r, rdD r] := by
  obtain ⟨x, q, rfl, hl, h⟩ := rowM_eq h
  obtain ⟨s, rfl⟩ := name_str h
  match q, hl with
  | [a, b], _ => rfl
theorem rowM2 {r : D} (h : rowM 2 r = true) : r = .tup [.str (rowKey r), ndD r] := by
  obtain ⟨x, q, rfl, hl, h⟩ := rowM_eq h
  obtain ⟨s, rfl⟩ := name_str h
  match q, hl with
  | [a], _ => rfl
theorem rdS_ok : ∀ (k : Nat) (d : D) (s : S), rdS k d = some s → d = s.d ∧ s.ok k
  | 0, d, s, h => by simp [rdS] at h
  | k + 1, d, s, h => by
    have ih := rdS_ok k
    simp only [rdS] at h
    split at h
    · rename_i w r
      split at h
      · rename_i hw
        subst hw
        split at h
        · rename_i x c
          split at h
          · rename_i hc
            obtain ⟨i, rfl, h0, h8⟩ := within_eq hc
            cases hs : rdS k x with
            | none => rw [hs] at h; cases h
            | some t =>
              rw [hs] at h
              cases h
              obtain ⟨rfl, ht⟩ := ih x t hs
              exact ⟨S.d_list.symm, h0, h8, ht⟩
          · cases h
        · cases h
      · split at h
        · rename_i hw
          subst hw
          split at h
          · rename_i x
            split at h
            · cases h
            · rename_i hm
              cases hs : rdS k x with
              | none => rw [hs] at h; cases h
              | some t =>
                rw [hs] at h
                cases h
                obtain ⟨rfl, ht⟩ := ih x t hs
                rw [S.hd_maybe] at hm
                exact ⟨S.d_maybe.symm, by simpa using hm, ht⟩
          · cases h
        · split at h
          · rename_i hw
            subst hw
            split at h
            · rename_i x
              split at h
              · rename_i ha
                obtain ⟨l, rfl, _, h8, hrow, hris⟩ := areRows_eq ha
                simp only [lstOf] at h
                cases hm : mapO (fun r => (rdS k (ndD r)).bind fun s => (rdNd s (rdD r)).map fun o => ((rowKey r, s, o) : Fld)) l with
                | none => rw [hm] at h; cases h
                | some rows =>
                  rw [hm] at h
                  cases h
                  have key : ∀ a ∈ l, ∀ b : Fld, ((rdS k (ndD a)).bind fun s => (rdNd s (rdD a)).map fun o => ((rowKey a, s, o) : Fld)) = some b → b.1 = rowKey a ∧ fldD b = a ∧ S.ok k b.2.1 ∧ ∀ v, b.2.2 = some v → isVal b.2.1 v = true := fun a ha b hb => by
                    cases hs : rdS k (ndD a) with
                    | none => rw [hs] at hb; cases hb
                    | some t =>
                      rw [hs] at hb
                      cases hn : rdNd t (rdD a) with
                      | none => simp [hn] at hb
                      | some o =>
                        simp [hn] at hb
                        subst hb
                        obtain ⟨e1, ht⟩ := ih _ t hs
                        obtain ⟨e2, hv⟩ := rdNd_eq hn
                        refine ⟨rfl, ?_, ht, hv⟩
                        rw [rowM3 (hrow a ha)]
                        simp [fldD, ← e1, ← e2, rowKey]
                  have e1 : rows.map (·.1) = l.map rowKey := mapO_map hm fun a ha b hb => (key a ha b hb).1
                  have e2 : rows.map fldD = l.map id := mapO_map hm fun a ha b hb => (key a ha b hb).2.1
                  rw [List.map_id] at e2
                  refine ⟨by rw [S.d_record, e2], ?_, ?_, ?_, fun r hr => ?_⟩
                  · have := congrArg List.length e2
                    simp only [List.length_map] at this
                    omega
                  · rw [e1, List.all_map]
                    exact List.all_eq_true.mpr fun a ha => rowM_name (hrow a ha)
                  · rw [e1]; exact hris
                  · obtain ⟨a, ha, hb⟩ := mapO_back hm r hr
                    exact (key a ha r hb).2.2
              · cases h
            · cases h
          · split at h
            · rename_i hw
              subst hw
              split at h
              · rename_i x
                split at h
                · rename_i ha
                  obtain ⟨l, rfl, h1, h6, hrow, hris⟩ := areRows_eq ha
                  simp only [lstOf] at h
                  cases hm : mapO (fun r => (rdS k (ndD r)).map fun s => (rowKey r, s)) l with
                  | none => rw [hm] at h; cases h
                  | some rows =>
                    rw [hm] at h
                    cases h
                    have key : ∀ a ∈ l, ∀ b : Str × S, ((rdS k (ndD a)).map fun s => (rowKey a, s)) = some b → b.1 = rowKey a ∧ tagD b = a ∧ S.ok k b.2 := fun a ha b hb => by
                      cases hs : rdS k (ndD a) with
                      | none => rw [hs] at hb; cases hb
                      | some t =>
                        rw [hs] at hb
                        cases hb
                        obtain ⟨e1, ht⟩ := ih _ t hs
                        refine ⟨rfl, ?_, ht⟩
                        rw [rowM2 (hrow a ha)]
                        simp [tagD, ← e1, rowKey]
                    have e1 : rows.map (·.1) = l.map rowKey := mapO_map hm fun a ha b hb => (key a ha b hb).1
                    have e2 : rows.map tagD = l.map id := mapO_map hm fun a ha b hb => (key a ha b hb).2.1
                    rw [List.map_id] at e2
                    have e3 := congrArg List.length e2
                    simp only [List.length_map] at e3
                    refine ⟨by rw [S.d_either, e2], by omega, by omega, ?_, ?_, fun r hr => ?_⟩
                    · rw [e1, List.all_map]
                      exact List.all_eq_true.mpr fun a ha => rowM_name (hrow a ha)
                    · rw [e1]; exact hris
                    · obtain ⟨a, ha, hb⟩ := mapO_back hm r hr
                      exact (key a ha r hb).2.2
                · cases h
              · cases h
            · split at h
              · rename_i hw
                subst hw
                split at h
                · rename_i a b
                  split at h
                  · rename_i hok
                    cases h
                    cases a <;> cases b <;> simp [okWhole] at hok
                    exact ⟨by simp [S.d_whole, intOf], hok.1.1, hok.2.2, hok.2.1.2⟩
                  · cases h
                · cases h
              · split at h
                · rename_i hw
                  subst hw
                  split at h
                  · rename_i a
                    split at h
                    · rename_i hc
                      cases h
                      obtain ⟨i, rfl, h0, h1⟩ := within_eq hc
                      exact ⟨by simp [S.d_word, intOf], h0, h1⟩
                    · cases h
                  · cases h
                · split at h
                  · rename_i hw
                    subst hw
                    split at h
                    · cases h
                      exact ⟨S.d_truth.symm, trivial⟩
                    · cases h
                  · split at h
                    · rename_i hw
                      subst hw
                      split at h
                      · rename_i a
                        split at h
                        · rename_i hok
                          cases h
                          cases a with
                          | tup l =>
                            simp only [okNames, Bool.and_eq_true, decide_eq_true_eq] at hok
                            have e := names_eq hok.2.1
                            have e4 : l.map strOf = l.map okNames.strD := List.map_congr_left fun x _ => by cases x <;> rfl
                            simp only [lstOf]
                            rw [e4]
                            refine ⟨by rw [S.d_one, ← e], by simpa using hok.1.1, by simpa using hok.1.2, ?_, hok.2.2⟩
                            have := hok.2.1
                            rw [e, List.all_map] at this
                            exact this
                          | _ => simp [okNames] at hok
                        · cases h
                      · cases h
                    · cases h
    · cases h
end SH

namespace SH
open PySem PyProof.Rows PySem.Spec
theorem ltS_C (a b : Str) : ltS a b = ltCps a.cps.toList b.cps.toList := lt_meets a b
theorem ltS_le (a b : Str) : leS a b = !ltS b a := by rw [ltS_C]; rfl
theorem ltS_irrefl (a : Str) : ltS a a = false := by rw [ltS_C]; exact ltC_irrefl _
theorem ltS_ne {a b : Str} (h : ltS a b = true) : a ≠ b := fun e => by
  subst e
  rw [ltS_irrefl] at h
  cases h
theorem ltS_asymm {a b : Str} (h : ltS a b = true) : ltS b a = false := by
  rw [ltS_C] at h ⊢
  exact ltC_asymm _ _ h
theorem ltS_of {a b : Str} (h : leS a b = true) (n : a ≠ b) : ltS a b = true := by
  cases g : ltS a b with
  | true => rfl
  | false =>
    have g2 : leS b a = true := by rw [ltS_le, g]; rfl
    exact absurd (leS_anti h g2) n
theorem leS_of {a b : Str} (h : ltS a b = true) : leS a b = true := by rw [ltS_le, ltS_asymm h]; rfl
theorem ltS_trans {a b c : Str} (h : ltS a b = true) (g : ltS b c = true) : ltS a c = true := by
  refine ltS_of (leS_trans (leS_of h) (leS_of g)) fun e => ?_
  subst e
  rw [ltS_asymm h] at g
  cases g
abbrev Ris (l : List Str) : Prop := l.Pairwise fun a b => ltS a b = true
theorem rises_iff : ∀ {ss : List Str}, risesS ss = true ↔ Ris ss
  | [] => by simp [risesS, Ris]
  | [a] => by simp [risesS, Ris]
  | a :: b :: r => by
    have ih := rises_iff (ss := b :: r)
    have e : risesS (a :: b :: r) = (ltS a b && risesS (b :: r)) := by simp [risesS]
    rw [e, Bool.and_eq_true, ih, show Ris (a :: b :: r) ↔ _ from List.pairwise_cons]
    constructor
    · rintro ⟨h1, h2⟩
      refine ⟨fun z hz => ?_, h2⟩
      rcases List.mem_cons.mp hz with rfl | hz
      · exact h1
      · exact ltS_trans h1 ((List.pairwise_cons.mp h2).1 z hz)
    · rintro ⟨h1, h2⟩
      exact ⟨h1 b (by simp), h2⟩
theorem Ris.nodup {l : List Str} (h : Ris l) : l.Nodup := h.imp fun h => ltS_ne h
theorem Ris.le {l : List Str} (h : Ris l) : l.Pairwise fun a b => leS a b = true := h.imp fun h => leS_of h
theorem Ris.sub {l m : List Str} (h : Ris l) (s : m.Sublist l) : Ris m := h.sublist s
theorem ris_sort {l : List Str} (h : l.Nodup) : Ris (sortS l) := by
  have h1 := sortS_sorted l
  have h2 : (sortS l).Nodup := (sortS_perm l).nodup_iff.mpr h
  exact h1.imp₂ (fun _ _ a b => ltS_of a b) h2
theorem Ris.uniq {l m : List Str} (h : Ris l) (g : Ris m) (p : l.Perm m) : l = m := sorted_uniq p h.le g.le
theorem addS_nodup {l : List Str} {k : Str} (h : l.Nodup) : (addS l k).Nodup := by
  unfold addS
  split
  · exact h
  · rename_i hk
    exact List.nodup_cons.mpr ⟨hk, h⟩
theorem addS_mem {l : List Str} {k z : Str} : z ∈ addS l k ↔ z = k ∨ z ∈ l := by
  unfold addS
  split
  · rename_i hk
    exact ⟨.inr, fun h => h.elim (fun e => by subst e; exact hk) id⟩
  · simp
theorem fold_nodup : ∀ (xs : List Str) {l : List Str}, l.Nodup → (xs.foldl addS l).Nodup
  | [], _, h => h
  | x :: r, _, h => fold_nodup r (addS_nodup h)
theorem fold_mem : ∀ (xs : List Str) {l : List Str} {z : Str}, z ∈ xs.foldl addS l ↔ z ∈ xs ∨ z ∈ l
  | [], l, z => by simp
  | x :: r, l, z => by
    rw [List.foldl_cons, fold_mem r, addS_mem]
    simp only [List.mem_cons]
    grind
theorem set_nodup (ss : List Str) : (putS ss ss.length).Nodup := fold_nodup _ .nil
theorem set_mem {ss : List Str} {z : Str} : z ∈ putS ss ss.length ↔ z ∈ ss := by
  unfold putS
  rw [List.take_length, fold_mem]
  simp
/-- the set in order -/
def setS (ss : List Str) : List Str := sortS (putS ss ss.length)
theorem setS_ris (ss : List Str) : Ris (setS ss) := ris_sort (set_nodup ss)
theorem setS_mem {ss : List Str} {z : Str} : z ∈ setS ss ↔ z ∈ ss := by
  unfold setS
  rw [(sortS_perm _).mem_iff, set_mem]
theorem ris_ext {l m : List Str} (h : Ris l) (g : Ris m) (e : ∀ z, z ∈ l ↔ z ∈ m) : l = m :=
  h.uniq g ((List.perm_ext_iff_of_nodup h.nodup g.nodup).mpr e)
theorem setS_eq {ss : List Str} : setS ss = ss ↔ risesS ss = true := by
  rw [rises_iff]
  constructor
  · intro h
    rw [← h]
    exact setS_ris ss
  · intro h
    exact ris_ext (setS_ris ss) h fun z => setS_mem
theorem sortSet_lst {st : Store} {ss : List Str} (h : ss.length < 64) : sortSetD st (.lst (ss.map D.str)) = some (.lst ((setS ss).map D.str)) := by
  have := dStrsF id ss
  simp only [id] at this
  simp only [sortSetD]
  rw [show (ss.map fun x => D.str x) = ss.map D.str from rfl] at this
  rw [this]
  simp [h, setS]
theorem sortSet_tup {st : Store} {ss : List Str} (h : ss.length < 64) : sortSetD st (.tup (ss.map D.str)) = some (.lst ((setS ss).map D.str)) := by
  have := dStrsF id ss
  simp only [id] at this
  simp only [sortSetD]
  rw [show (ss.map fun x => D.str x) = ss.map D.str from rfl] at this
  rw [this]
  simp [h, setS]
theorem eqv_strs : ∀ (a b : List Str), PyData.eqvAll (D.pys (a.map D.str)) (D.pys (b.map D.str)) = decide (a = b)
  | [], [] => rfl
  | [], b :: r => by simp [D.pys, PyData.eqvAll]
  | a :: r, [] => by simp [D.pys, PyData.eqvAll]
  | a :: r, b :: t => by
    simp only [List.map_cons, D.pys, PyData.eqvAll, D.py, PyData.eqv, eqv_strs r t, beqd]
    by_cases h : a = b <;> simp [h]
theorem depth_strs : ∀ (a : List Str), PyData.depthAll (D.pys (a.map D.str)) ≤ 1
  | [] => by simp [D.pys, PyData.depthAll]
  | a :: r => by
    have := depth_strs r
    simp only [List.map_cons, D.pys, PyData.depthAll, D.py, PyData.depth]
    omega
theorem plains_strs (a : List Str) : D.plains (a.map D.str) = true := plains_of fun x hx => by
  obtain ⟨s, _, rfl⟩ := List.mem_map.mp hx
  rfl
theorem eqD_strs {st : Store} {neg : Bool} {a b : List Str} : eqD neg st (.lst (a.map D.str)) (.lst (b.map D.str)) = some (.bl (neg ^^ decide (a = b))) := by
  have ok : eqOk (.lst (a.map D.str)) (.lst (b.map D.str)) = true := by
    unfold eqOk
    simp only [D.plain, plains_strs, Bool.true_and, D.py]
    refine decide_eq_true (Nat.le_trans (Nat.min_le_left _ _) ?_)
    have := depth_strs a
    simp only [PyData.depth]
    omega
  unfold eqD
  rw [if_pos ok, ifn]
  congr 3
  simp only [D.eq, D.py, PyData.eqv]
  exact eqv_strs a b
end SH

namespace SH
open PySem L2
theorem hasK_iff {k : Key} {ks : List Key} : hasK k ks = true ↔ k ∈ ks := by
  unfold hasK
  rw [List.any_eq_true]
  constructor
  · rintro ⟨x, hx, e⟩
    have := of_decide_eq_true e
    subst this
    exact hx
  · exact fun h => ⟨k, h, by simp⟩
theorem putP_new {ks : List Key} {vs : List D} {k : Key} {d : D} (h : k ∉ ks) : putP (ks, vs) k d = (ks ++ [k], vs ++ [d]) := by
  unfold putP dicPut
  have : ¬ hasK k ks = true := fun e => h (hasK_iff.mp e)
  simp [this]
theorem merge_go : ∀ (l : List (Key × D)) (ks : List Key) (vs : List D), (ks ++ l.map (·.1)).Nodup → l.foldl (fun p kv => putP p kv.1 kv.2) (ks, vs) = (ks ++ l.map (·.1), vs ++ l.map (·.2))
  | [], ks, vs, _ => by simp
  | (k, d) :: r, ks, vs, h => by
    have hk : k ∉ ks := fun hk => by
      have := (List.nodup_append.mp h).2.2 k hk k (by simp)
      exact this rfl
    rw [List.foldl_cons]
    simp only
    rw [putP_new hk, merge_go r _ _ (by simpa using h)]
    simp
theorem merge_nodup {l : List (Key × D)} (h : (l.map (·.1)).Nodup) : mergeP l = (l.map (·.1), l.map (·.2)) := by
  unfold mergeP
  rw [merge_go l [] [] (by simpa using h)]
  simp
theorem getK_rows {α : Type} (f : α → D) (w : Str) : ∀ l : List (Str × α), getK (.inr w) (l.map fun r => (.inr r.1 : Key)) (l.map fun r => f r.2) = (lkp l w).map f
  | [] => rfl
  | (n, a) :: r => by
    simp only [List.map_cons, getK, lkp_cons]
    by_cases h : n = w
    · subst h
      simp
    · have : ¬ (Sum.inr n : Key) = .inr w := fun e => h (Sum.inr.inj e)
      simp [h, this, getK_rows f w r]
theorem hasK_rows {α : Type} {w : Str} {l : List (Str × α)} : hasK (.inr w) (l.map fun r => (.inr r.1 : Key)) = decide (w ∈ l.map (·.1)) := by
  rw [Bool.eq_iff_iff, hasK_iff, decide_eq_true_eq]
  simp
theorem pairsD_rows {α : Type} (f : α → D) : ∀ l : List (Str × α), pairsD (l.map fun r => .tup [.str r.1, f r.2]) = some (l.map fun r => ((.inr r.1 : Key), f r.2))
  | [] => rfl
  | (n, a) :: r => by
    simp only [List.map_cons, pairsD, pairD, keyD, pairsD_rows f r]
    rfl
theorem dictD_rows {α : Type} {st : Store} (f : α → D) {l : List (Str × α)} (h : (l.map (·.1)).Nodup) : dictD st (.lst (l.map fun r => .tup [.str r.1, f r.2])) = some (.dic (l.map fun r => (.inr r.1 : Key)) (l.map fun r => f r.2)) := by
  have h2 : ((l.map fun r => ((.inr r.1 : Key), f r.2)).map (·.1)).Nodup := by
    rw [List.map_map]
    have : ((fun x : Key × D => x.1) ∘ fun r : Str × α => ((.inr r.1 : Key), f r.2)) = fun r => Sum.inr r.1 := rfl
    rw [this]
    rw [show (l.map fun r => (Sum.inr r.1 : Key)) = (l.map (·.1)).map Sum.inr by rw [List.map_map]; rfl]
    exact List.Pairwise.map _ (fun a b n e => n (Sum.inr.inj e)) h
  simp only [dictD, pairsD_rows, Option.map_some, merge_nodup h2, List.map_map]
  rfl
mutual
def D.nar : D → Bool
  | .non | .bl _ | .int _ | .str _ => true
  | .tup l => decide (l.length < 64) && D.nars l
  | .lst l => decide (l.length < 64) && D.nars l
  | _ => false
def D.nars : List D → Bool
  | [] => true
  | d :: ds => D.nar d && D.nars ds
end
theorem nars_all : ∀ l : List D, D.nars l = l.all D.nar
  | [] => rfl
  | d :: r => by simp [D.nars, nars_all r]
mutual
theorem D.nar_plain : ∀ {d : D}, d.nar = true → d.plain = true
  | .non, _ => rfl
  | .bl _, _ => rfl
  | .int _, _ => rfl
  | .str _, _ => rfl
  | .tup l, h => by
    simp only [D.nar, Bool.and_eq_true] at h
    exact D.nars_plain h.2
  | .lst l, h => by
    simp only [D.nar, Bool.and_eq_true] at h
    exact D.nars_plain h.2
  | .dic _ _, h => by simp [D.nar] at h
  | .ref _, h => by simp [D.nar] at h
  | .scr _, h => by simp [D.nar] at h
theorem D.nars_plain : ∀ {l : List D}, D.nars l = true → D.plains l = true
  | [], _ => rfl
  | d :: r, h => by
    simp only [D.nars, Bool.and_eq_true] at h
    simp only [D.plains, Bool.and_eq_true]
    exact ⟨D.nar_plain h.1, D.nars_plain h.2⟩
end
theorem nar_tup {l : List D} : (D.tup l).nar = true ↔ l.length < 64 ∧ ∀ x ∈ l, x.nar = true := by
  simp only [D.nar, Bool.and_eq_true, decide_eq_true_eq, nars_all, List.all_eq_true]
theorem nar_lst {l : List D} : (D.lst l).nar = true ↔ l.length < 64 ∧ ∀ x ∈ l, x.nar = true := by
  simp only [D.nar, Bool.and_eq_true, decide_eq_true_eq, nars_all, List.all_eq_true]
theorem nar_mem {l : List D} (h : (D.tup l).nar = true) {x : D} (hx : x ∈ l) : x.nar = true := (nar_tup.mp h).2 x hx
mutual
/-- plain, and no row longer than m -/
def D.wid (m : Nat) : D → Bool
  | .non | .bl _ | .int _ | .str _ => true
  | .tup l => decide (l.length ≤ m) && D.wids m l
  | .lst l => decide (l.length ≤ m) && D.wids m l
  | _ => false
def D.wids (m : Nat) : List D → Bool
  | [] => true
  | d :: ds => D.wid m d && D.wids m ds
end
theorem wids_all {m : Nat} : ∀ l : List D, D.wids m l = l.all (D.wid m)
  | [] => rfl
  | d :: r => by simp [D.wids, wids_all r]
theorem wid_tup {m : Nat} {l : List D} : (D.tup l).wid m = true ↔ l.length ≤ m ∧ ∀ x ∈ l, x.wid m = true := by
  simp only [D.wid, Bool.and_eq_true, decide_eq_true_eq, wids_all, List.all_eq_true]
theorem wid_lst {m : Nat} {l : List D} : (D.lst l).wid m = true ↔ l.length ≤ m ∧ ∀ x ∈ l, x.wid m = true := by
  simp only [D.wid, Bool.and_eq_true, decide_eq_true_eq, wids_all, List.all_eq_true]
theorem wid_mem {m : Nat} {l : List D} (h : (D.tup l).wid m = true) {x : D} (hx : x ∈ l) : x.wid m = true := (wid_tup.mp h).2 x hx
mutual
theorem D.wid_mono {m j : Nat} (hm : m ≤ j) : ∀ {d : D}, d.wid m = true → d.wid j = true
  | .non, _ => rfl
  | .bl _, _ => rfl
  | .int _, _ => rfl
  | .str _, _ => rfl
  | .tup l, h => by
    simp only [D.wid, Bool.and_eq_true, decide_eq_true_eq] at h ⊢
    exact ⟨by omega, D.wids_mono hm h.2⟩
  | .lst l, h => by
    simp only [D.wid, Bool.and_eq_true, decide_eq_true_eq] at h ⊢
    exact ⟨by omega, D.wids_mono hm h.2⟩
  | .dic _ _, h => by simp [D.wid] at h
  | .ref _, h => by simp [D.wid] at h
  | .scr _, h => by simp [D.wid] at h
theorem D.wids_mono {m j : Nat} (hm : m ≤ j) : ∀ {l : List D}, D.wids m l = true → D.wids j l = true
  | [], _ => rfl
  | d :: r, h => by
    simp only [D.wids, Bool.and_eq_true] at h ⊢
    exact ⟨D.wid_mono hm h.1, D.wids_mono hm h.2⟩
end
mutual
theorem D.wid_nar {m : Nat} (hm : m < 64) : ∀ {d : D}, d.wid m = true → d.nar = true
  | .non, _ => rfl
  | .bl _, _ => rfl
  | .int _, _ => rfl
  | .str _, _ => rfl
  | .tup l, h => by
    simp only [D.wid, D.nar, Bool.and_eq_true, decide_eq_true_eq] at h ⊢
    exact ⟨by omega, D.wids_nar hm h.2⟩
  | .lst l, h => by
    simp only [D.wid, D.nar, Bool.and_eq_true, decide_eq_true_eq] at h ⊢
    exact ⟨by omega, D.wids_nar hm h.2⟩
  | .dic _ _, h => by simp [D.wid] at h
  | .ref _, h => by simp [D.wid] at h
  | .scr _, h => by simp [D.wid] at h
theorem D.wids_nar {m : Nat} (hm : m < 64) : ∀ {l : List D}, D.wids m l = true → D.nars l = true
  | [], _ => rfl
  | d :: r, h => by
    simp only [D.wids, D.nars, Bool.and_eq_true] at h ⊢
    exact ⟨D.wid_nar hm h.1, D.wids_nar hm h.2⟩
end
theorem wid9 {d : D} (h : d.wid 9 = true) : d.nar = true := D.wid_nar (by decide) h
theorem areRows_pairs {d : D} (h : d.nar = true) : areRows 0 300 2 d = arePairs d := by
  cases d with
  | tup l =>
    have hl := (nar_tup.mp h).1
    simp only [areRows, arePairs]
    have e1 : decide (0 ≤ l.length) = true := by simp
    have e2 : decide (l.length ≤ 300) = true := by simp; omega
    rw [e1, e2]
    have e3 : l.all (rowM 2) = (l.all pair2 && l.all fun r => isName (hdD r)) := by
      rw [show (l.all pair2 && l.all fun r => isName (hdD r)) = l.all fun r => pair2 r && isName (hdD r) by
        rw [Bool.eq_iff_iff]
        simp only [Bool.and_eq_true, List.all_eq_true]
        exact ⟨fun h x hx => ⟨h.1 x hx, h.2 x hx⟩, fun h => ⟨fun x hx => (h x hx).1, fun x hx => (h x hx).2⟩⟩]
      congr 1
      funext r
      cases r with
      | tup m =>
        match m with
        | [] => rfl
        | [a] => simp [rowM, pair2]
        | [a, b] => simp [rowM, pair2, hdD]
        | a :: b :: c :: m => simp [rowM, pair2]
      | _ => rfl
    rw [e3]
    cases l.all pair2 <;> simp
  | _ => rfl
theorem inD_strsl {neg : Bool} {st : Store} {a : Str} {ss : List Str} : inD neg st (.str a) (.lst (ss.map D.str)) = some (.bl (neg ^^ decide (a ∈ ss))) := by
  show (if (D.str a).flat && (ss.map D.str).all D.flat then some (D.bl (if neg then !((ss.map D.str).any fun z => eqF z (.str a)) else (ss.map D.str).any fun z => eqF z (.str a))) else none) = _
  rw [flat_strs, any_eqF, ifn]
  rfl
end SH

namespace SH
open PySem L2
theorem sub_len {α : Type} [DecidableEq α] : ∀ {l m : List α}, l.Nodup → (∀ x ∈ l, x ∈ m) → l.length ≤ m.length
  | [], m, _, _ => by simp
  | x :: r, m, hn, hs => by
    have hx : x ∈ m := hs x (by simp)
    have hr := List.nodup_cons.mp hn
    have ih := sub_len (l := r) (m := m.erase x) hr.2 fun y hy => (List.mem_erase_of_ne (fun (e : y = x) => hr.1 (by rw [← e]; exact hy))).mpr (hs y (by simp [hy]))
    rw [List.length_erase_of_mem hx] at ih
    have : 0 < m.length := List.length_pos_of_mem hx
    simp only [List.length_cons]
    omega
def N1 : List Str := ["a", "b", "cc", "no", "yes", "zzzzzzzz", "new"]
def N2 : List Str := ["a", "b", "cc", "dd", "e"]
def N3 : List Str := ["a", "b", "cc", "dd", "q"]
theorem N1_ok : ∀ s ∈ N1, nameS s = true := by decide +kernel
theorem N2_ok : ∀ s ∈ N2, nameS s = true := by decide +kernel
theorem N3_ok : ∀ s ∈ N3, nameS s = true := by decide +kernel
/-- a shape that is drawn, at most k within one another, lists of at most M -/
def S.nice (M : Int) : Nat → S → Prop
  | 0, _ => False
  | k + 1, s => match s with
    | .whole lo hi => -1000000000 ≤ lo ∧ lo ≤ hi ∧ hi ≤ 1000000000
    | .word n => 0 ≤ n ∧ n ≤ 20
    | .truth => True
    | .one ss => ss ≠ [] ∧ Ris ss ∧ ∀ z ∈ ss, z ∈ N1
    | .list s n => 0 ≤ n ∧ n ≤ M ∧ S.nice M k s
    | .maybe s => s.isMaybe = false ∧ S.nice M k s
    | .record rows => Ris (rows.map (·.1)) ∧ (∀ z ∈ rows.map (·.1), z ∈ N2) ∧ ∀ r ∈ rows, S.nice M k r.2.1 ∧ ∀ v, r.2.2 = some v → isVal r.2.1 v = true
    | .either rows => rows ≠ [] ∧ Ris (rows.map (·.1)) ∧ (∀ z ∈ rows.map (·.1), z ∈ N3) ∧ ∀ r ∈ rows, S.nice M k r.2
theorem S.nice_ok {M : Int} (hM : M ≤ 8) : ∀ {k : Nat} {s : S}, s.nice M k → s.ok k
  | k + 1, s, h => by
    cases s
    case list => simp only [S.nice, S.ok] at h ⊢; exact ⟨h.1, by omega, S.nice_ok hM h.2.2⟩
    case maybe => simp only [S.nice, S.ok] at h ⊢; exact ⟨h.1, S.nice_ok hM h.2⟩
    case one ss =>
      simp only [S.nice, S.ok] at h ⊢
      have hl := sub_len h.2.1.nodup h.2.2
      have e7 : N1.length = 7 := rfl
      refine ⟨?_, by omega, List.all_eq_true.mpr fun s hs => N1_ok s (h.2.2 s hs), rises_iff.mpr h.2.1⟩
      cases ss with
      | nil => exact absurd rfl h.1
      | cons _ _ => simp
    case record rows =>
      simp only [S.nice, S.ok] at h ⊢
      have hl := sub_len h.1.nodup h.2.1
      have e7 : N2.length = 5 := rfl
      simp only [List.length_map] at hl
      exact ⟨by omega, List.all_eq_true.mpr fun s hs => N2_ok s (h.2.1 s hs), rises_iff.mpr h.1, fun r hr => ⟨S.nice_ok hM (h.2.2 r hr).1, (h.2.2 r hr).2⟩⟩
    case either rows =>
      simp only [S.nice, S.ok] at h ⊢
      have hl := sub_len h.2.1.nodup h.2.2.1
      have e7 : N3.length = 5 := rfl
      simp only [List.length_map] at hl
      refine ⟨?_, by omega, List.all_eq_true.mpr fun s hs => N3_ok s (h.2.2.1 s hs), rises_iff.mpr h.2.1, fun r hr => S.nice_ok hM (h.2.2.2 r hr)⟩
      cases rows with
      | nil => exact absurd rfl h.1
      | cons _ _ => simp
    all_goals exact h
theorem S.nice_succ {M : Int} : ∀ {k : Nat} {s : S}, s.nice M k → s.nice M (k + 1)
  | k + 1, s, h => by
    cases s
    case list => simp only [S.nice] at h ⊢; exact ⟨h.1, h.2.1, S.nice_succ (k := k) h.2.2⟩
    case maybe => simp only [S.nice] at h ⊢; exact ⟨h.1, S.nice_succ (k := k) h.2⟩
    case record => simp only [S.nice] at h ⊢; exact ⟨h.1, h.2.1, fun r hr => ⟨S.nice_succ (k := k) (h.2.2 r hr).1, (h.2.2 r hr).2⟩⟩
    case either => simp only [S.nice] at h ⊢; exact ⟨h.1, h.2.1, h.2.2.1, fun r hr => S.nice_succ (k := k) (h.2.2.2 r hr)⟩
    all_goals exact h
theorem S.nice_le {M : Int} {k : Nat} {s : S} (h : s.nice M k) : ∀ {j : Nat}, k ≤ j → s.nice M j := by
  intro j hj
  induction hj with
  | refl => exact h
  | step _ ih => exact S.nice_succ ih
theorem S.nice_up {M N : Int} (hM : M ≤ N) : ∀ {k : Nat} {s : S}, s.nice M k → s.nice N k
  | k + 1, s, h => by
    cases s
    case list => simp only [S.nice] at h ⊢; exact ⟨h.1, by omega, S.nice_up hM h.2.2⟩
    case maybe => simp only [S.nice] at h ⊢; exact ⟨h.1, S.nice_up hM h.2⟩
    case record => simp only [S.nice] at h ⊢; exact ⟨h.1, h.2.1, fun r hr => ⟨S.nice_up hM (h.2.2 r hr).1, (h.2.2 r hr).2⟩⟩
    case either => simp only [S.nice] at h ⊢; exact ⟨h.1, h.2.1, h.2.2.1, fun r hr => S.nice_up hM (h.2.2.2 r hr)⟩
    all_goals exact h
theorem val_pairs {rows : List Fld} {v : D} (h : isVal (.record rows) v = true) : ∃ ps : List (Str × D), v = .tup [.str "record", .tup (ps.map prD)] ∧ (ps.map (·.1)).all nameS = true ∧ Ris (ps.map (·.1)) ∧ (∀ p ∈ ps, ∃ a, (p.1, a) ∈ rows ∧ lkp rows p.1 = some a ∧ isVal a.1 p.2 = true) ∧ ∀ r ∈ rows, r.2.2 = none → r.1 ∈ ps.map (·.1) := by
  have h0 := h
  simp only [isVal] at h
  split at h
  · rename_i t prs
    simp only [Bool.and_eq_true] at h
    have ht := strIs_eq h.1
    subst ht
    obtain ⟨ps, rfl⟩ := pairs_eq h.2.1
    rw [isVal_record] at h0
    simp only [Bool.and_eq_true] at h0
    refine ⟨ps, rfl, h0.1.1, rises_iff.mp h0.1.2, fun p hp => ?_, fun r hr hn => ?_⟩
    · have := List.all_eq_true.mp h0.2.1 p hp
      cases hl : lkp rows p.1 with
      | none => rw [hl] at this; cases this
      | some a =>
        rw [hl] at this
        exact ⟨a, lkp_mem hl, rfl, this⟩
    · have := List.all_eq_true.mp h0.2.2 r hr
      rw [hn] at this
      simpa using this
  · cases h
theorem val_list {x : S} {n : Int} {v : D} (h : isVal (.list x n) v = true) : ∃ l, v = .tup [.str "list", .tup l] ∧ (l.length : Int) ≤ n ∧ ∀ y ∈ l, isVal x y = true := by
  simp only [isVal] at h
  split at h
  · rename_i t l
    simp only [Bool.and_eq_true, decide_eq_true_eq] at h
    rw [strIs_eq h.1]
    exact ⟨l, rfl, h.2.1, List.all_eq_true.mp h.2.2⟩
  · cases h
theorem val_either {rows : List (Str × S)} {v : D} (h : isVal (.either rows) v = true) : ∃ g a x, v = .tup [.str "either", .str g, x] ∧ (g, a) ∈ rows ∧ lkp rows g = some a ∧ isVal a x = true := by
  simp only [isVal] at h
  split at h
  · rename_i t g x
    simp only [Bool.and_eq_true] at h
    rw [strIs_eq h.1]
    rw [valE_lkp] at h
    cases hl : lkp rows g with
    | none => rw [hl] at h; cases h.2
    | some a =>
      rw [hl] at h
      exact ⟨g, a, x, rfl, lkp_mem hl, hl, h.2⟩
  · cases h
theorem val_wid {m : Nat} (hm : 8 ≤ m) : ∀ (k : Nat) (s : S) (v : D), s.ok k → isVal s v = true → v.wid m = true
  | 0, s, v, hs, _ => by simp [S.ok] at hs
  | k + 1, s, v, hs, h => by
    have ih := val_wid hm k
    cases s with
    | whole lo hi => obtain ⟨i, rfl, _, _⟩ := within_eq (by simpa only [isVal] using h); rfl
    | word n => cases v <;> first | rfl | (simp [isVal] at h)
    | truth => cases v <;> first | rfl | (simp [isVal, tyBl] at h)
    | one ss => cases v <;> first | rfl | (simp [isVal] at h)
    | list x n =>
      simp only [S.ok] at hs
      obtain ⟨l, rfl, hl, hv⟩ := val_list h
      refine wid_tup.mpr ⟨by simp; omega, fun y hy => ?_⟩
      simp at hy
      rcases hy with rfl | rfl
      · rfl
      · exact wid_tup.mpr ⟨by omega, fun y hy => ih x y hs.2.2 (hv y hy)⟩
    | maybe x =>
      simp only [S.ok] at hs
      simp only [isVal, Bool.or_eq_true] at h
      rcases h with h | h
      · cases v <;> first | rfl | (simp [D.isNon] at h)
      · exact ih x v hs.2 h
    | record rows =>
      simp only [S.ok] at hs
      obtain ⟨ps, rfl, _, hris, hv, _⟩ := val_pairs h
      refine wid_tup.mpr ⟨by simp; omega, fun y hy => ?_⟩
      simp at hy
      rcases hy with rfl | rfl
      · rfl
      · have hl : (ps.map (·.1)).length ≤ (rows.map (·.1)).length := sub_len hris.nodup fun z hz => by
          obtain ⟨p, hp, rfl⟩ := List.mem_map.mp hz
          obtain ⟨a, ha, _⟩ := hv p hp
          exact List.mem_map.mpr ⟨_, ha, rfl⟩
        simp only [List.length_map] at hl
        refine wid_tup.mpr ⟨by simp; omega, fun y hy => ?_⟩
        obtain ⟨p, hp, rfl⟩ := List.mem_map.mp hy
        obtain ⟨a, ha, _, hva⟩ := hv p hp
        refine wid_tup.mpr ⟨by simp; omega, fun y hy => ?_⟩
        simp at hy
        rcases hy with rfl | rfl
        · rfl
        · exact ih a.1 p.2 (hs.2.2.2 _ ha).1 hva
    | either rows =>
      simp only [S.ok] at hs
      obtain ⟨g, a, x, rfl, ha, _, hv⟩ := val_either h
      refine wid_tup.mpr ⟨by simp; omega, fun y hy => ?_⟩
      simp at hy
      rcases hy with rfl | rfl | rfl
      · rfl
      · rfl
      · exact ih a y (hs.2.2.2.2 _ ha) hv
theorem S.wid {m : Nat} (hm : 8 ≤ m) : ∀ (k : Nat) (s : S), s.ok k → s.d.wid m = true
  | 0, s, hs => by simp [S.ok] at hs
  | k + 1, s, hs => by
    have ih := S.wid hm k
    cases s with
    | whole lo hi => rw [S.d_whole]; exact wid_tup.mpr ⟨by simp; omega, fun y hy => by simp at hy; rcases hy with rfl | rfl | rfl <;> rfl⟩
    | word n => rw [S.d_word]; exact wid_tup.mpr ⟨by simp; omega, fun y hy => by simp at hy; rcases hy with rfl | rfl <;> rfl⟩
    | truth => rw [S.d_truth]; exact wid_tup.mpr ⟨by simp; omega, fun y hy => by simp at hy; subst hy; rfl⟩
    | one ss =>
      simp only [S.ok] at hs
      rw [S.d_one]
      refine wid_tup.mpr ⟨by simp; omega, fun y hy => ?_⟩
      simp at hy
      rcases hy with rfl | rfl
      · rfl
      · refine wid_tup.mpr ⟨by simp; omega, fun y hy => ?_⟩
        obtain ⟨z, _, rfl⟩ := List.mem_map.mp hy
        rfl
    | list x n =>
      simp only [S.ok] at hs
      rw [S.d_list]
      refine wid_tup.mpr ⟨by simp; omega, fun y hy => ?_⟩
      simp at hy
      rcases hy with rfl | rfl | rfl
      · rfl
      · exact ih x hs.2.2
      · rfl
    | maybe x =>
      simp only [S.ok] at hs
      rw [S.d_maybe]
      refine wid_tup.mpr ⟨by simp; omega, fun y hy => ?_⟩
      simp at hy
      rcases hy with rfl | rfl
      · rfl
      · exact ih x hs.2
    | record rows =>
      simp only [S.ok] at hs
      rw [S.d_record]
      refine wid_tup.mpr ⟨by simp; omega, fun y hy => ?_⟩
      simp at hy
      rcases hy with rfl | rfl
      · rfl
      · refine wid_tup.mpr ⟨by simp; omega, fun y hy => ?_⟩
        obtain ⟨r, hr, rfl⟩ := List.mem_map.mp hy
        have h2 := hs.2.2.2 r hr
        refine wid_tup.mpr ⟨by simp; omega, fun y hy => ?_⟩
        simp at hy
        rcases hy with rfl | rfl | rfl
        · rfl
        · exact ih _ h2.1
        · cases hn : r.2.2 with
          | none => exact wid_tup.mpr ⟨by simp; omega, fun y hy => by simp at hy; subst hy; rfl⟩
          | some v =>
            refine wid_tup.mpr ⟨by simp; omega, fun y hy => ?_⟩
            simp at hy
            rcases hy with rfl | rfl
            · rfl
            · exact val_wid hm k _ _ h2.1 (h2.2 _ hn)
    | either rows =>
      simp only [S.ok] at hs
      rw [S.d_either]
      refine wid_tup.mpr ⟨by simp; omega, fun y hy => ?_⟩
      simp at hy
      rcases hy with rfl | rfl
      · rfl
      · refine wid_tup.mpr ⟨by simp; omega, fun y hy => ?_⟩
        obtain ⟨r, hr, rfl⟩ := List.mem_map.mp hy
        refine wid_tup.mpr ⟨by simp; omega, fun y hy => ?_⟩
        simp at hy
        rcases hy with rfl | rfl
        · rfl
        · exact ih _ (hs.2.2.2.2 r hr)
theorem nval_wid : ∀ (k : Nat) (s : S) (v : D), s.nice 3 k → isVal s v = true → v.wid 7 = true
  | 0, s, v, hs, _ => by simp [S.nice] at hs
  | k + 1, s, v, hs, h => by
    have ih := nval_wid k
    cases s with
    | whole lo hi => obtain ⟨i, rfl, _, _⟩ := within_eq (by simpa only [isVal] using h); rfl
    | word n => cases v <;> first | rfl | (simp [isVal] at h)
    | truth => cases v <;> first | rfl | (simp [isVal, tyBl] at h)
    | one ss => cases v <;> first | rfl | (simp [isVal] at h)
    | list x n =>
      simp only [S.nice] at hs
      obtain ⟨l, rfl, hl, hv⟩ := val_list h
      refine wid_tup.mpr ⟨by simp, fun y hy => ?_⟩
      simp at hy
      rcases hy with rfl | rfl
      · rfl
      · exact wid_tup.mpr ⟨by omega, fun y hy => ih x y hs.2.2 (hv y hy)⟩
    | maybe x =>
      simp only [S.nice] at hs
      simp only [isVal, Bool.or_eq_true] at h
      rcases h with h | h
      · cases v <;> first | rfl | (simp [D.isNon] at h)
      · exact ih x v hs.2 h
    | record rows =>
      simp only [S.nice] at hs
      obtain ⟨ps, rfl, _, hris, hv, _⟩ := val_pairs h
      refine wid_tup.mpr ⟨by simp, fun y hy => ?_⟩
      simp at hy
      rcases hy with rfl | rfl
      · rfl
      · have hl : (ps.map (·.1)).length ≤ N2.length := sub_len hris.nodup fun z hz => by
          obtain ⟨p, hp, rfl⟩ := List.mem_map.mp hz
          obtain ⟨a, ha, _⟩ := hv p hp
          exact hs.2.1 _ (List.mem_map.mpr ⟨_, ha, rfl⟩)
        have e7 : N2.length = 5 := rfl
        simp only [List.length_map] at hl
        refine wid_tup.mpr ⟨by simp; omega, fun y hy => ?_⟩
        obtain ⟨p, hp, rfl⟩ := List.mem_map.mp hy
        obtain ⟨a, ha, _, hva⟩ := hv p hp
        refine wid_tup.mpr ⟨by simp, fun y hy => ?_⟩
        simp at hy
        rcases hy with rfl | rfl
        · rfl
        · exact ih a.1 p.2 (hs.2.2 _ ha).1 hva
    | either rows =>
      simp only [S.nice] at hs
      obtain ⟨g, a, x, rfl, ha, _, hv⟩ := val_either h
      refine wid_tup.mpr ⟨by simp, fun y hy => ?_⟩
      simp at hy
      rcases hy with rfl | rfl | rfl
      · rfl
      · rfl
      · exact ih a y (hs.2.2.2 _ ha) hv
theorem S.nwid : ∀ (k : Nat) (s : S), s.nice 3 k → s.d.wid 7 = true
  | 0, s, hs => by simp [S.nice] at hs
  | k + 1, s, hs => by
    have ih := S.nwid k
    cases s with
    | whole lo hi => rw [S.d_whole]; exact wid_tup.mpr ⟨by simp, fun y hy => by simp at hy; rcases hy with rfl | rfl | rfl <;> rfl⟩
    | word n => rw [S.d_word]; exact wid_tup.mpr ⟨by simp, fun y hy => by simp at hy; rcases hy with rfl | rfl <;> rfl⟩
    | truth => rw [S.d_truth]; exact wid_tup.mpr ⟨by simp, fun y hy => by simp at hy; subst hy; rfl⟩
    | one ss =>
      simp only [S.nice] at hs
      rw [S.d_one]
      have hl := sub_len hs.2.1.nodup hs.2.2
      have e7 : N1.length = 7 := rfl
      refine wid_tup.mpr ⟨by simp, fun y hy => ?_⟩
      simp at hy
      rcases hy with rfl | rfl
      · rfl
      · refine wid_tup.mpr ⟨by simp; omega, fun y hy => ?_⟩
        obtain ⟨z, _, rfl⟩ := List.mem_map.mp hy
        rfl
    | list x n =>
      simp only [S.nice] at hs
      rw [S.d_list]
      refine wid_tup.mpr ⟨by simp, fun y hy => ?_⟩
      simp at hy
      rcases hy with rfl | rfl | rfl
      · rfl
      · exact ih x hs.2.2
      · rfl
    | maybe x =>
      simp only [S.nice] at hs
      rw [S.d_maybe]
      refine wid_tup.mpr ⟨by simp, fun y hy => ?_⟩
      simp at hy
      rcases hy with rfl | rfl
      · rfl
      · exact ih x hs.2
    | record rows =>
      simp only [S.nice] at hs
      rw [S.d_record]
      have hl := sub_len hs.1.nodup hs.2.1
      have e7 : N2.length = 5 := rfl
      simp only [List.length_map] at hl
      refine wid_tup.mpr ⟨by simp, fun y hy => ?_⟩
      simp at hy
      rcases hy with rfl | rfl
      · rfl
      · refine wid_tup.mpr ⟨by simp; omega, fun y hy => ?_⟩
        obtain ⟨r, hr, rfl⟩ := List.mem_map.mp hy
        have h2 := hs.2.2 r hr
        refine wid_tup.mpr ⟨by simp, fun y hy => ?_⟩
        simp at hy
        rcases hy with rfl | rfl | rfl
        · rfl
        · exact ih _ h2.1
        · cases hn : r.2.2 with
          | none => exact wid_tup.mpr ⟨by simp, fun y hy => by simp at hy; subst hy; rfl⟩
          | some v =>
            refine wid_tup.mpr ⟨by simp, fun y hy => ?_⟩
            simp at hy
            rcases hy with rfl | rfl
            · rfl
            · exact nval_wid k _ _ h2.1 (h2.2 _ hn)
    | either rows =>
      simp only [S.nice] at hs
      rw [S.d_either]
      have hl := sub_len hs.2.1.nodup hs.2.2.1
      have e7 : N3.length = 5 := rfl
      simp only [List.length_map] at hl
      refine wid_tup.mpr ⟨by simp, fun y hy => ?_⟩
      simp at hy
      rcases hy with rfl | rfl
      · rfl
      · refine wid_tup.mpr ⟨by simp; omega, fun y hy => ?_⟩
        obtain ⟨r, hr, rfl⟩ := List.mem_map.mp hy
        refine wid_tup.mpr ⟨by simp, fun y hy => ?_⟩
        simp at hy
        rcases hy with rfl | rfl
        · rfl
        · exact ih _ (hs.2.2.2 r hr)
theorem S.ok_plain {k : Nat} {s : S} (h : s.ok k) : s.d.plain = true := D.nar_plain (D.wid_nar (m := 8) (by decide) (S.wid (by decide) k s h))
theorem val_plain {k : Nat} {s : S} {v : D} (hs : s.ok k) (h : isVal s v = true) : v.plain = true := D.nar_plain (D.wid_nar (m := 8) (by decide) (val_wid (by decide) k s v hs h))
theorem cps_app (a b : Str) : (a ++ b).cps.toList = a.cps.toList ++ b.cps.toList := by
  show ((a.cps ++ b.cps)).toList = _
  simp
theorem join_chars : ∀ ys : List Str, (Txt.join "" ys).cps.toList = (ys.map fun y => y.cps.toList).flatten := by
  intro ys
  rw [TL.join_eq]
  induction ys with
  | nil => rfl
  | cons x r ih =>
    cases r with
    | nil => simp [Str.join]
    | cons y r =>
      have e : Str.join "" (x :: y :: r) = x ++ "" ++ Str.join "" (y :: r) := rfl
      rw [e, cps_app, cps_app, ih]
      rw [show ((Str.ofString "").cps.toList) = [] from rfl]
      simp
def abyz : List Nat := ("abyz" : Str).cps.toList
theorem abyz_ok : ∀ c ∈ abyz, c ∈ ("abcdefghijklmnopqrstuvwxyz" : Str).cps.toList ∧ c < 128 := by decide +kernel
/-- a word joined of signs -/
theorem join_word {cs : List Nat} (h : ∀ c ∈ cs, c ∈ abyz) (hl : cs.length ≤ 1000) : ∃ s : Str, joinS "" (cs.map fun c => ⟨#[c]⟩) = some (.str s) ∧ s.cps.toList = cs := by
  have e : (Txt.join "" (cs.map fun c => (⟨#[c]⟩ : Str))).cps.toList = cs := by
    rw [join_chars, List.map_map]
    have : ((fun y : Str => y.cps.toList) ∘ fun c => (⟨#[c]⟩ : Str)) = fun c => [c] := by funext c; rfl
    rw [this]
    clear h hl this
    induction cs with
    | nil => rfl
    | cons a r ih => simp [ih]
  refine ⟨Txt.join "" (cs.map fun c => ⟨#[c]⟩), ?_, e⟩
  unfold joinS
  have hlen : (Txt.join "" (cs.map fun c => (⟨#[c]⟩ : Str))).length = cs.length := by
    unfold Str.length
    rw [← Array.length_toList, e]
  have hok : StrOk (Txt.join "" (cs.map fun c => (⟨#[c]⟩ : Str))) := by
    refine ⟨?_, by rw [hlen]; show cs.length ≤ 16777216; omega⟩
    unfold PyData.strOk
    rw [← Array.all_toList, e]
    refine List.all_eq_true.mpr fun c hc => ?_
    have := (abyz_ok c (h c hc)).2
    simp
    omega
  have hsum : ((cs.map fun c => (⟨#[c]⟩ : Str)).map (·.length)).sum = cs.length := by
    rw [List.map_map]
    clear h hl e hlen hok
    induction cs with
    | nil => rfl
    | cons a r ih =>
      simp only [List.map_cons, List.sum_cons, List.length_cons, ih]
      show 1 + r.length = _
      omega
  rw [if_pos ⟨by rw [hsum]; show cs.length + _ * 0 ≤ 16777216; omega, hok⟩]
end SH

namespace SH
open PySem
section
variable {pa : Nat → Addr} {n : Nat} {st : Store} {d e : D}
theorem r_row_of {l : List D} {w : Str} (h : ∀ r ∈ l, r.plain = true ∧ row1 r = true) : callT (T pa) (n + 1) ix_row_of [.tup l, .str w] st = .ok (rowOf l w) st := by
  apply okR.eq
  refine okR_run (fn := ⟨2, 4, false, b_row_of⟩) rfl rfl ?_
  simp [b_row_of, startE]
  refine w_compIf (xs := l) (fun x => x) (fun x => x) (fun r => strIs w (hdD r)) (by simp [elems]) (fun x hx => ⟨_, set_nm, ?_, fun _ => by simp [wipeE]⟩) ?_
  · obtain ⟨h1, h2⟩ := h x hx
    cases x with
    | tup m =>
      cases m with
      | nil => cases h2
      | cons a r =>
        have ha : a.plain = true := plain_tup h1 a (by simp)
        simp [wipeE, hdD, eqD_s ha]
    | _ => cases h2
  · have hp : D.plains (l.filter fun r => strIs w (hdD r)) = true := plains_of fun x hx => (h x (List.mem_filter.mp hx).1).1
    rw [List.map_id']
    unfold rowOf
    generalize (l.filter fun r => strIs w (hdD r)) = m at hp ⊢
    simp [eqD_nil hp]
    cases m <;> simp
end
end SH

namespace SH
open PySem
section
variable {pa : Nat → Addr} {n : Nat} {st : Store} {d e : D}
/-- a shape without shapes within -/
def S.isLeaf : S → Bool
  | .whole _ _ | .word _ | .truth | .one _ => true
  | _ => false
theorem hd_tagD (r : Str × S) : hdD (tagD r) = .str r.1 := rfl
theorem hd_fldD (r : Fld) : hdD (fldD r) = .str r.1 := rfl
theorem hd_prD (r : Str × D) : hdD (prD r) = .str r.1 := rfl
theorem row_tag {rows : List (Str × S)} {w : Str} (hp : ∀ r ∈ rows, (tagD r).plain = true) : callT (T pa) (n + 1) ix_row_of [.tup (rows.map tagD), .str w] st = .ok (rowIs tagD w (lkp rows w)) st := by
  rw [← rowOf_map tagD hd_tagD]
  refine r_row_of fun r hr => ?_
  obtain ⟨q, hq, rfl⟩ := List.mem_map.mp hr
  exact ⟨hp q hq, rfl⟩
theorem row_fld {rows : List Fld} {w : Str} (hp : ∀ r ∈ rows, (fldD r).plain = true) : callT (T pa) (n + 1) ix_row_of [.tup (rows.map fldD), .str w] st = .ok (rowIs fldD w (lkp rows w)) st := by
  rw [← rowOf_map fldD hd_fldD]
  refine r_row_of fun r hr => ?_
  obtain ⟨q, hq, rfl⟩ := List.mem_map.mp hr
  exact ⟨hp q hq, rfl⟩
theorem row_pr {rows : List (Str × D)} {w : Str} (hp : ∀ r ∈ rows, (prD r).plain = true) : callT (T pa) (n + 1) ix_row_of [.tup (rows.map prD), .str w] st = .ok (rowIs prD w (lkp rows w)) st := by
  rw [← rowOf_map prD hd_prD]
  refine r_row_of fun r hr => ?_
  obtain ⟨q, hq, rfl⟩ := List.mem_map.mp hr
  exact ⟨hp q hq, rfl⟩
theorem plain_tags {rows : List (Str × S)} (h : (S.either rows).d.plain = true) : ∀ r ∈ rows, (tagD r).plain = true ∧ r.2.d.plain = true := fun r hr => by
  rw [S.d_either] at h
  have h1 := plain_tup (plain_tup h (.tup (rows.map tagD)) (by simp)) (tagD r) (List.mem_map_of_mem hr)
  exact ⟨h1, plain_tup h1 r.2.d (by simp)⟩
theorem plain_flds {rows : List Fld} (h : (S.record rows).d.plain = true) : ∀ r ∈ rows, (fldD r).plain = true ∧ r.2.1.d.plain = true ∧ (ndOf r.2.2).plain = true := fun r hr => by
  rw [S.d_record] at h
  have h1 := plain_tup (plain_tup h (.tup (rows.map fldD)) (by simp)) (fldD r) (List.mem_map_of_mem hr)
  exact ⟨h1, plain_tup h1 r.2.1.d (by simp), plain_tup h1 (ndOf r.2.2) (by simp)⟩
theorem isMust_nd {nd : Option D} (h : (ndOf nd).plain = true) : eqD false st (ndOf nd) (.tup [.str "must"]) = some (.bl nd.isNone) := by
  have ok : eqOk (ndOf nd) (.tup [.str "must"]) = true := by
    unfold eqOk
    rw [h]
    refine decide_eq_true (Nat.le_trans (Nat.min_le_right _ _) ?_)
    simp [D.py, D.pys, PyData.depth, PyData.depthAll]
  unfold eqD
  rw [if_pos ok]
  cases nd with
  | none => rfl
  | some v => rfl
end
end SH

namespace SH
open PySem L2
section
variable {pa : Nat → Addr} {n : Nat} {st : Store} {d e : D}
theorem l_from {lo hi : Int} (h : d.plain = true) : callT (T pa) (n + 1) ix__law_from [d, .int lo, .int hi] st = .ok (.bl (within lo hi d)) st := by
  apply okR.eq
  refine okR_run (fn := ⟨3, 3, false, b__law_from⟩) rfl rfl ?_
  cases d <;> simp [b__law_from, startE, isiD, D.ty, Ty.sub, within, D.plain] at h ⊢
  rename_i i
  by_cases h1 : lo ≤ i <;> simp [h1]
  omega
theorem l_is_name (h : d.plain = true) : callT (T pa) (n + 1) ix__law_is_name [d] st = .ok (.bl (isName d)) st := by
  apply okR.eq
  refine okR_run (fn := ⟨1, 2, false, b__law_is_name⟩) rfl rfl ?_
  simp [b__law_is_name, startE, isi_str h]
  cases d with
  | str s =>
    by_cases h1 : s.length < 1
    · have : ¬ 1 ≤ s.length := by omega
      simp [tyStr, isName, nameS, h1, this]
      omega
    · by_cases h2 : 8 < s.length
      · have : ¬ s.length ≤ 8 := by omega
        simp [tyStr, isName, nameS, h1, h2, this]
        omega
      · have g1 : ¬ ((s.length : Int) < 1) := by omega
        have g2 : ¬ ((8 : Int) < s.length) := by omega
        have g3 : 1 ≤ s.length := by omega
        have g4 : s.length ≤ 8 := by omega
        simp [tyStr, isName, nameS, g1, g2, g3, g4]
        refine w_comp (xs := s.cps.toList) (fun c => .str ⟨#[c]⟩) (fun c => .bl (decide (c ∈ ("abcdefghijklmnopqrstuvwxyz" : Str).cps.toList))) (by simp [elems]) (fun c _ => ⟨_, set_nm, by simp [wipeE, inD]⟩) ?_
        simp only [allD_map]
        simp [lettersS]
  | _ => simp [tyStr, isName]
theorem l_letters {s : Str} : callT (T pa) (n + 1) ix__law_letters [.str s] st = .ok (.int (if lettersS s = true then (s.length : Int) else 999)) st := by
  apply okR.eq
  refine okR_run (fn := ⟨1, 2, false, b__law_letters⟩) rfl rfl ?_
  simp [b__law_letters, startE]
  refine w_comp (xs := s.cps.toList) (fun c => .str ⟨#[c]⟩) (fun c => .bl (decide (c ∈ ("abcdefghijklmnopqrstuvwxyz" : Str).cps.toList))) (by simp [elems]) (fun c _ => ⟨_, set_nm, by simp [wipeE, inD]⟩) ?_
  simp only [allD_map]
  rw [show (s.cps.toList.all fun c => decide (c ∈ ("abcdefghijklmnopqrstuvwxyz" : Str).cps.toList)) = lettersS s from rfl]
  cases lettersS s <;> simp
theorem l_rows_right {lo hi m : Nat} (h : d.nar = true) (hm : 1 ≤ m) : callT (T pa) (n + 2) ix__law_rows_right [d, .int lo, .int hi, .int m] st = .ok (.bl (areRows lo hi m d)) st := by
  apply okR.eq
  have hp := D.nar_plain h
  refine okR_run (fn := ⟨4, 6, false, b__law_rows_right⟩) rfl rfl ?_
  simp [b__law_rows_right, startE, isi_tup hp]
  cases d with
  | tup l =>
    have hpl := plain_tup hp
    have hw := (nar_tup.mp h).1
    by_cases h1 : l.length < lo
    · have : ¬ lo ≤ l.length := by omega
      simp [areRows, h1, this]
    · by_cases h2 : hi < l.length
      · have : ¬ l.length ≤ hi := by omega
        simp [areRows, h1, h2, this]
      · have g3 : lo ≤ l.length := by omega
        have g4 : l.length ≤ hi := by omega
        simp [h1, h2]
        refine w_for (xs := l) (fun ρ => ∃ a b, ρ = [some (.tup l), some (.int lo), some (.int hi), some (.int m), a, b]) (fun x => x) (rowM m) (.bl false) (by simp [elems]) ⟨_, _, rfl⟩ ?_ ?_ ?_
        · rintro x hx ρ ⟨a, b, rfl⟩
          refine ⟨_, set_nm, ?_⟩
          have hx' := hpl x hx
          simp [isi_tup hx']
          cases x with
          | tup q =>
            cases q with
            | nil =>
              have : ¬ ((0 : Int) = m) := by omega
              simp [rowM, this]
            | cons a r =>
              have ha : a.plain = true := plain_tup hx' a (by simp)
              by_cases hl : r.length + 1 = m
              · subst hl
                simp [rowM, l_is_name ha]
              · have : ¬ ((r.length : Int) + 1 = m) := by omega
                simp [rowM, hl, this]
          | _ => simp [tyTup, rowM]
        · rintro hall ρ' ⟨a, b, rfl⟩
          simp
          refine w_comp (xs := l) (fun x => x) (fun x => .str (rowKey x)) (by simp [elems]) (fun x hx => ⟨_, set_nm, ?_⟩) ?_
          · obtain ⟨a, q, rfl, _, hn⟩ := rowM_eq (List.all_eq_true.mp hall x hx)
            obtain ⟨s, rfl⟩ := name_str hn
            simp [wipeE, rowKey]
          · have e : l.map (fun x => D.str (rowKey x)) = (l.map rowKey).map D.str := by rw [List.map_map]; rfl
            have hl : (l.map rowKey).length < 64 := by simpa using hw
            have ea : areRows lo hi m (.tup l) = risesS (l.map rowKey) := by simp [areRows, g3, g4, hall]
            rw [e, ea]
            generalize l.map rowKey = ss at hl
            simp [sortSet_lst hl, eqD_strs]
            rw [Bool.eq_iff_iff, decide_eq_true_eq, ← setS_eq]
            exact eq_comm
        · intro hall ρ'
          simp [areRows, g3, g4, hall]
  | _ => simp [tyTup, areRows]
theorem cut_one (s : Str) : cutS s none (some 1) = ⟨(s.cps.toList.take 1).toArray⟩ := by
  unfold cutS
  rw [HT.sIx_none, show (1 : Int) = ((1 : Nat) : Int) from rfl, HT.sIx_nat]
  congr 2
  have e : s.cps.toList.length = s.length := by simp [Str.length]
  have h1 : min 1 s.length - min 0 s.length = min 1 s.cps.toList.length := by omega
  first
  | (rw [List.drop_zero]; rw [show min 1 s.length - 0 = min 1 s.cps.toList.length by omega]; exact List.take_min_length ..)
  | (cases hs : s.cps.toList with
    | nil => simp
    | cons c r =>
      rw [hs] at e
      simp at e
      have : min 1 s.length = 1 := by omega
      simp [this])
theorem str_nil {s : Str} : s = "" ↔ s.cps.toList = [] := by
  constructor
  · intro h; subst h; rfl
  · intro h
    refine Str.ext' (Array.toList_inj.mp ?_)
    rw [h]
    rfl
theorem str_len (s : Str) : s.length = s.cps.toList.length := by simp [Str.length]
theorem name_one (s : Str) : nameS (cutS s none (some 1)) = match s.cps.toList with
    | [] => false
    | c :: _ => decide (c ∈ ("abcdefghijklmnopqrstuvwxyz" : Str).cps.toList) := by
  rw [cut_one]
  unfold nameS lettersS
  rw [str_len]
  cases s.cps.toList with
  | nil => simp
  | cons c r => simp
/-- the law's word -/
theorem word_eq {s : Str} {m : Int} (h0 : 0 ≤ m) (h1 : m ≤ 20) : (decide (s = "") || (nameS (cutS s none (some 1)) && decide ((if lettersS s = true then (s.length : Int) else 999) ≤ m))) = (lettersS s && decide ((s.length : Int) ≤ m)) := by
  rw [name_one]
  cases hs : s.cps.toList with
  | nil =>
    have e := str_nil.mpr hs
    have hl : s.length = 0 := by rw [str_len, hs]; rfl
    subst e
    have e2 : lettersS "" = true := rfl
    have e3 : ((("" : Str).length : Nat) : Int) = 0 := rfl
    rw [e2, e3]
    simp [h0]
  | cons c r =>
    have e : s ≠ "" := fun e => by rw [str_nil.mp e] at hs; cases hs
    cases hl : lettersS s with
    | true =>
      have : decide (c ∈ ("abcdefghijklmnopqrstuvwxyz" : Str).cps.toList) = true := by
        unfold lettersS at hl
        rw [hs] at hl
        exact List.all_eq_true.mp hl c (by simp)
      dsimp only
      rw [this]
      simp [e]
    | false =>
      have : ¬ ((999 : Int) ≤ m) := by omega
      simp [e, this]
end
end SH

namespace SH
open PySem
@[simp] theorem ne_whole_word : (("whole" : Str) = "word") = False := eq_false (by decide +kernel)
@[simp] theorem ne_whole_truth : (("whole" : Str) = "truth") = False := eq_false (by decide +kernel)
@[simp] theorem ne_whole_one : (("whole" : Str) = "one") = False := eq_false (by decide +kernel)
@[simp] theorem ne_whole_list : (("whole" : Str) = "list") = False := eq_false (by decide +kernel)
@[simp] theorem ne_whole_maybe : (("whole" : Str) = "maybe") = False := eq_false (by decide +kernel)
@[simp] theorem ne_whole_record : (("whole" : Str) = "record") = False := eq_false (by decide +kernel)
@[simp] theorem ne_whole_either : (("whole" : Str) = "either") = False := eq_false (by decide +kernel)
@[simp] theorem ne_whole_must : (("whole" : Str) = "must") = False := eq_false (by decide +kernel)
@[simp] theorem ne_whole_else : (("whole" : Str) = "else") = False := eq_false (by decide +kernel)
@[simp] theorem ne_whole_q : (("whole" : Str) = "q") = False := eq_false (by decide +kernel)
@[simp] theorem ne_whole_e : (("whole" : Str) = "e") = False := eq_false (by decide +kernel)
@[simp] theorem ne_word_whole : (("word" : Str) = "whole") = False := eq_false (by decide +kernel)
@[simp] theorem ne_word_truth : (("word" : Str) = "truth") = False := eq_false (by decide +kernel)
@[simp] theorem ne_word_one : (("word" : Str) = "one") = False := eq_false (by decide +kernel)
@[simp] theorem ne_word_list : (("word" : Str) = "list") = False := eq_false (by decide +kernel)
@[simp] theorem ne_word_maybe : (("word" : Str) = "maybe") = False := eq_false (by decide +kernel)
@[simp] theorem ne_word_record : (("word" : Str) = "record") = False := eq_false (by decide +kernel)
@[simp] theorem ne_word_either : (("word" : Str) = "either") = False := eq_false (by decide +kernel)
@[simp] theorem ne_word_must : (("word" : Str) = "must") = False := eq_false (by decide +kernel)
@[simp] theorem ne_word_else : (("word" : Str) = "else") = False := eq_false (by decide +kernel)
@[simp] theorem ne_word_q : (("word" : Str) = "q") = False := eq_false (by decide +kernel)
@[simp] theorem ne_word_e : (("word" : Str) = "e") = False := eq_false (by decide +kernel)
@[simp] theorem ne_truth_whole : (("truth" : Str) = "whole") = False := eq_false (by decide +kernel)
@[simp] theorem ne_truth_word : (("truth" : Str) = "word") = False := eq_false (by decide +kernel)
@[simp] theorem ne_truth_one : (("truth" : Str) = "one") = False := eq_false (by decide +kernel)
@[simp] theorem ne_truth_list : (("truth" : Str) = "list") = False := eq_false (by decide +kernel)
@[simp] theorem ne_truth_maybe : (("truth" : Str) = "maybe") = False := eq_false (by decide +kernel)
@[simp] theorem ne_truth_record : (("truth" : Str) = "record") = False := eq_false (by decide +kernel)
@[simp] theorem ne_truth_either : (("truth" : Str) = "either") = False := eq_false (by decide +kernel)
@[simp] theorem ne_truth_must : (("truth" : Str) = "must") = False := eq_false (by decide +kernel)
@[simp] theorem ne_truth_else : (("truth" : Str) = "else") = False := eq_false (by decide +kernel)
@[simp] theorem ne_truth_q : (("truth" : Str) = "q") = False := eq_false (by decide +kernel)
@[simp] theorem ne_truth_e : (("truth" : Str) = "e") = False := eq_false (by decide +kernel)
@[simp] theorem ne_one_whole : (("one" : Str) = "whole") = False := eq_false (by decide +kernel)
@[simp] theorem ne_one_word : (("one" : Str) = "word") = False := eq_false (by decide +kernel)
@[simp] theorem ne_one_truth : (("one" : Str) = "truth") = False := eq_false (by decide +kernel)
@[simp] theorem ne_one_list : (("one" : Str) = "list") = False := eq_false (by decide +kernel)
@[simp] theorem ne_one_maybe : (("one" : Str) = "maybe") = False := eq_false (by decide +kernel)
@[simp] theorem ne_one_record : (("one" : Str) = "record") = False := eq_false (by decide +kernel)
@[simp] theorem ne_one_either : (("one" : Str) = "either") = False := eq_false (by decide +kernel)
@[simp] theorem ne_one_must : (("one" : Str) = "must") = False := eq_false (by decide +kernel)
@[simp] theorem ne_one_else : (("one" : Str) = "else") = False := eq_false (by decide +kernel)
@[simp] theorem ne_one_q : (("one" : Str) = "q") = False := eq_false (by decide +kernel)
@[simp] theorem ne_one_e : (("one" : Str) = "e") = False := eq_false (by decide +kernel)
@[simp] theorem ne_list_whole : (("list" : Str) = "whole") = False := eq_false (by decide +kernel)
@[simp] theorem ne_list_word : (("list" : Str) = "word") = False := eq_false (by decide +kernel)
@[simp] theorem ne_list_truth : (("list" : Str) = "truth") = False := eq_false (by decide +kernel)
@[simp] theorem ne_list_one : (("list" : Str) = "one") = False := eq_false (by decide +kernel)
@[simp] theorem ne_list_maybe : (("list" : Str) = "maybe") = False := eq_false (by decide +kernel)
@[simp] theorem ne_list_record : (("list" : Str) = "record") = False := eq_false (by decide +kernel)
@[simp] theorem ne_list_either : (("list" : Str) = "either") = False := eq_false (by decide +kernel)
@[simp] theorem ne_list_must : (("list" : Str) = "must") = False := eq_false (by decide +kernel)
@[simp] theorem ne_list_else : (("list" : Str) = "else") = False := eq_false (by decide +kernel)
@[simp] theorem ne_list_q : (("list" : Str) = "q") = False := eq_false (by decide +kernel)
@[simp] theorem ne_list_e : (("list" : Str) = "e") = False := eq_false (by decide +kernel)
@[simp] theorem ne_maybe_whole : (("maybe" : Str) = "whole") = False := eq_false (by decide +kernel)
@[simp] theorem ne_maybe_word : (("maybe" : Str) = "word") = False := eq_false (by decide +kernel)
@[simp] theorem ne_maybe_truth : (("maybe" : Str) = "truth") = False := eq_false (by decide +kernel)
@[simp] theorem ne_maybe_one : (("maybe" : Str) = "one") = False := eq_false (by decide +kernel)
@[simp] theorem ne_maybe_list : (("maybe" : Str) = "list") = False := eq_false (by decide +kernel)
@[simp] theorem ne_maybe_record : (("maybe" : Str) = "record") = False := eq_false (by decide +kernel)
@[simp] theorem ne_maybe_either : (("maybe" : Str) = "either") = False := eq_false (by decide +kernel)
@[simp] theorem ne_maybe_must : (("maybe" : Str) = "must") = False := eq_false (by decide +kernel)
@[simp] theorem ne_maybe_else : (("maybe" : Str) = "else") = False := eq_false (by decide +kernel)
@[simp] theorem ne_maybe_q : (("maybe" : Str) = "q") = False := eq_false (by decide +kernel)
@[simp] theorem ne_maybe_e : (("maybe" : Str) = "e") = False := eq_false (by decide +kernel)
@[simp] theorem ne_record_whole : (("record" : Str) = "whole") = False := eq_false (by decide +kernel)
@[simp] theorem ne_record_word : (("record" : Str) = "word") = False := eq_false (by decide +kernel)
@[simp] theorem ne_record_truth : (("record" : Str) = "truth") = False := eq_false (by decide +kernel)
@[simp] theorem ne_record_one : (("record" : Str) = "one") = False := eq_false (by decide +kernel)
@[simp] theorem ne_record_list : (("record" : Str) = "list") = False := eq_false (by decide +kernel)
@[simp] theorem ne_record_maybe : (("record" : Str) = "maybe") = False := eq_false (by decide +kernel)
@[simp] theorem ne_record_either : (("record" : Str) = "either") = False := eq_false (by decide +kernel)
@[simp] theorem ne_record_must : (("record" : Str) = "must") = False := eq_false (by decide +kernel)
@[simp] theorem ne_record_else : (("record" : Str) = "else") = False := eq_false (by decide +kernel)
@[simp] theorem ne_record_q : (("record" : Str) = "q") = False := eq_false (by decide +kernel)
@[simp] theorem ne_record_e : (("record" : Str) = "e") = False := eq_false (by decide +kernel)
@[simp] theorem ne_either_whole : (("either" : Str) = "whole") = False := eq_false (by decide +kernel)
@[simp] theorem ne_either_word : (("either" : Str) = "word") = False := eq_false (by decide +kernel)
@[simp] theorem ne_either_truth : (("either" : Str) = "truth") = False := eq_false (by decide +kernel)
@[simp] theorem ne_either_one : (("either" : Str) = "one") = False := eq_false (by decide +kernel)
@[simp] theorem ne_either_list : (("either" : Str) = "list") = False := eq_false (by decide +kernel)
@[simp] theorem ne_either_maybe : (("either" : Str) = "maybe") = False := eq_false (by decide +kernel)
@[simp] theorem ne_either_record : (("either" : Str) = "record") = False := eq_false (by decide +kernel)
@[simp] theorem ne_either_must : (("either" : Str) = "must") = False := eq_false (by decide +kernel)
@[simp] theorem ne_either_else : (("either" : Str) = "else") = False := eq_false (by decide +kernel)
@[simp] theorem ne_either_q : (("either" : Str) = "q") = False := eq_false (by decide +kernel)
@[simp] theorem ne_either_e : (("either" : Str) = "e") = False := eq_false (by decide +kernel)
@[simp] theorem ne_must_whole : (("must" : Str) = "whole") = False := eq_false (by decide +kernel)
@[simp] theorem ne_must_word : (("must" : Str) = "word") = False := eq_false (by decide +kernel)
@[simp] theorem ne_must_truth : (("must" : Str) = "truth") = False := eq_false (by decide +kernel)
@[simp] theorem ne_must_one : (("must" : Str) = "one") = False := eq_false (by decide +kernel)
@[simp] theorem ne_must_list : (("must" : Str) = "list") = False := eq_false (by decide +kernel)
@[simp] theorem ne_must_maybe : (("must" : Str) = "maybe") = False := eq_false (by decide +kernel)
@[simp] theorem ne_must_record : (("must" : Str) = "record") = False := eq_false (by decide +kernel)
@[simp] theorem ne_must_either : (("must" : Str) = "either") = False := eq_false (by decide +kernel)
@[simp] theorem ne_must_else : (("must" : Str) = "else") = False := eq_false (by decide +kernel)
@[simp] theorem ne_must_q : (("must" : Str) = "q") = False := eq_false (by decide +kernel)
@[simp] theorem ne_must_e : (("must" : Str) = "e") = False := eq_false (by decide +kernel)
@[simp] theorem ne_else_whole : (("else" : Str) = "whole") = False := eq_false (by decide +kernel)
@[simp] theorem ne_else_word : (("else" : Str) = "word") = False := eq_false (by decide +kernel)
@[simp] theorem ne_else_truth : (("else" : Str) = "truth") = False := eq_false (by decide +kernel)
@[simp] theorem ne_else_one : (("else" : Str) = "one") = False := eq_false (by decide +kernel)
@[simp] theorem ne_else_list : (("else" : Str) = "list") = False := eq_false (by decide +kernel)
@[simp] theorem ne_else_maybe : (("else" : Str) = "maybe") = False := eq_false (by decide +kernel)
@[simp] theorem ne_else_record : (("else" : Str) = "record") = False := eq_false (by decide +kernel)
@[simp] theorem ne_else_either : (("else" : Str) = "either") = False := eq_false (by decide +kernel)
@[simp] theorem ne_else_must : (("else" : Str) = "must") = False := eq_false (by decide +kernel)
@[simp] theorem ne_else_q : (("else" : Str) = "q") = False := eq_false (by decide +kernel)
@[simp] theorem ne_else_e : (("else" : Str) = "e") = False := eq_false (by decide +kernel)
@[simp] theorem ne_q_whole : (("q" : Str) = "whole") = False := eq_false (by decide +kernel)
@[simp] theorem ne_q_word : (("q" : Str) = "word") = False := eq_false (by decide +kernel)
@[simp] theorem ne_q_truth : (("q" : Str) = "truth") = False := eq_false (by decide +kernel)
@[simp] theorem ne_q_one : (("q" : Str) = "one") = False := eq_false (by decide +kernel)
@[simp] theorem ne_q_list : (("q" : Str) = "list") = False := eq_false (by decide +kernel)
@[simp] theorem ne_q_maybe : (("q" : Str) = "maybe") = False := eq_false (by decide +kernel)
@[simp] theorem ne_q_record : (("q" : Str) = "record") = False := eq_false (by decide +kernel)
@[simp] theorem ne_q_either : (("q" : Str) = "either") = False := eq_false (by decide +kernel)
@[simp] theorem ne_q_must : (("q" : Str) = "must") = False := eq_false (by decide +kernel)
@[simp] theorem ne_q_else : (("q" : Str) = "else") = False := eq_false (by decide +kernel)
@[simp] theorem ne_q_e : (("q" : Str) = "e") = False := eq_false (by decide +kernel)
@[simp] theorem ne_e_whole : (("e" : Str) = "whole") = False := eq_false (by decide +kernel)
@[simp] theorem ne_e_word : (("e" : Str) = "word") = False := eq_false (by decide +kernel)
@[simp] theorem ne_e_truth : (("e" : Str) = "truth") = False := eq_false (by decide +kernel)
@[simp] theorem ne_e_one : (("e" : Str) = "one") = False := eq_false (by decide +kernel)
@[simp] theorem ne_e_list : (("e" : Str) = "list") = False := eq_false (by decide +kernel)
@[simp] theorem ne_e_maybe : (("e" : Str) = "maybe") = False := eq_false (by decide +kernel)
@[simp] theorem ne_e_record : (("e" : Str) = "record") = False := eq_false (by decide +kernel)
@[simp] theorem ne_e_either : (("e" : Str) = "either") = False := eq_false (by decide +kernel)
@[simp] theorem ne_e_must : (("e" : Str) = "must") = False := eq_false (by decide +kernel)
@[simp] theorem ne_e_else : (("e" : Str) = "else") = False := eq_false (by decide +kernel)
@[simp] theorem ne_e_q : (("e" : Str) = "q") = False := eq_false (by decide +kernel)
@[simp] theorem ii_tuple_non {st : Store} : isiD [.tuple] st .non = some (.bl false) := rfl
@[simp] theorem ii_tuple_bl {b : Bool} {st : Store} : isiD [.tuple] st (.bl b) = some (.bl false) := rfl
@[simp] theorem ii_tuple_int {i : Int} {st : Store} : isiD [.tuple] st (.int i) = some (.bl false) := rfl
@[simp] theorem ii_tuple_str {s : Str} {st : Store} : isiD [.tuple] st (.str s) = some (.bl false) := rfl
@[simp] theorem ii_tuple_tup {l : List D} {st : Store} : isiD [.tuple] st (.tup l) = some (.bl true) := rfl
@[simp] theorem ii_tuple_lst {l : List D} {st : Store} : isiD [.tuple] st (.lst l) = some (.bl false) := rfl
@[simp] theorem ii_str_non {st : Store} : isiD [.str] st .non = some (.bl false) := rfl
@[simp] theorem ii_str_bl {b : Bool} {st : Store} : isiD [.str] st (.bl b) = some (.bl false) := rfl
@[simp] theorem ii_str_int {i : Int} {st : Store} : isiD [.str] st (.int i) = some (.bl false) := rfl
@[simp] theorem ii_str_str {s : Str} {st : Store} : isiD [.str] st (.str s) = some (.bl true) := rfl
@[simp] theorem ii_str_tup {l : List D} {st : Store} : isiD [.str] st (.tup l) = some (.bl false) := rfl
@[simp] theorem ii_str_lst {l : List D} {st : Store} : isiD [.str] st (.lst l) = some (.bl false) := rfl
@[simp] theorem ii_bool_non {st : Store} : isiD [.bool] st .non = some (.bl false) := rfl
@[simp] theorem ii_bool_bl {b : Bool} {st : Store} : isiD [.bool] st (.bl b) = some (.bl true) := rfl
@[simp] theorem ii_bool_int {i : Int} {st : Store} : isiD [.bool] st (.int i) = some (.bl false) := rfl
@[simp] theorem ii_bool_str {s : Str} {st : Store} : isiD [.bool] st (.str s) = some (.bl false) := rfl
@[simp] theorem ii_bool_tup {l : List D} {st : Store} : isiD [.bool] st (.tup l) = some (.bl false) := rfl
@[simp] theorem ii_bool_lst {l : List D} {st : Store} : isiD [.bool] st (.lst l) = some (.bl false) := rfl
@[simp] theorem ii_int_non {st : Store} : isiD [.int] st .non = some (.bl false) := rfl
@[simp] theorem ii_int_bl {b : Bool} {st : Store} : isiD [.int] st (.bl b) = some (.bl true) := rfl
@[simp] theorem ii_int_int {i : Int} {st : Store} : isiD [.int] st (.int i) = some (.bl true) := rfl
@[simp] theorem ii_int_str {s : Str} {st : Store} : isiD [.int] st (.str s) = some (.bl false) := rfl
@[simp] theorem ii_int_tup {l : List D} {st : Store} : isiD [.int] st (.tup l) = some (.bl false) := rfl
@[simp] theorem ii_int_lst {l : List D} {st : Store} : isiD [.int] st (.lst l) = some (.bl false) := rfl
@[simp] theorem ii_list_non {st : Store} : isiD [.list] st .non = some (.bl false) := rfl
@[simp] theorem ii_list_bl {b : Bool} {st : Store} : isiD [.list] st (.bl b) = some (.bl false) := rfl
@[simp] theorem ii_list_int {i : Int} {st : Store} : isiD [.list] st (.int i) = some (.bl false) := rfl
@[simp] theorem ii_list_str {s : Str} {st : Store} : isiD [.list] st (.str s) = some (.bl false) := rfl
@[simp] theorem ii_list_tup {l : List D} {st : Store} : isiD [.list] st (.tup l) = some (.bl false) := rfl
@[simp] theorem ii_list_lst {l : List D} {st : Store} : isiD [.list] st (.lst l) = some (.bl true) := rfl
@[simp] theorem ii_tuplelist_non {st : Store} : isiD [.tuple, .list] st .non = some (.bl false) := rfl
@[simp] theorem ii_tuplelist_bl {b : Bool} {st : Store} : isiD [.tuple, .list] st (.bl b) = some (.bl false) := rfl
@[simp] theorem ii_tuplelist_int {i : Int} {st : Store} : isiD [.tuple, .list] st (.int i) = some (.bl false) := rfl
@[simp] theorem ii_tuplelist_str {s : Str} {st : Store} : isiD [.tuple, .list] st (.str s) = some (.bl false) := rfl
@[simp] theorem ii_tuplelist_tup {l : List D} {st : Store} : isiD [.tuple, .list] st (.tup l) = some (.bl true) := rfl
@[simp] theorem ii_tuplelist_lst {l : List D} {st : Store} : isiD [.tuple, .list] st (.lst l) = some (.bl true) := rfl
@[simp] theorem ii_listtuple_non {st : Store} : isiD [.list, .tuple] st .non = some (.bl false) := rfl
@[simp] theorem ii_listtuple_bl {b : Bool} {st : Store} : isiD [.list, .tuple] st (.bl b) = some (.bl false) := rfl
@[simp] theorem ii_listtuple_int {i : Int} {st : Store} : isiD [.list, .tuple] st (.int i) = some (.bl false) := rfl
@[simp] theorem ii_listtuple_str {s : Str} {st : Store} : isiD [.list, .tuple] st (.str s) = some (.bl false) := rfl
@[simp] theorem ii_listtuple_tup {l : List D} {st : Store} : isiD [.list, .tuple] st (.tup l) = some (.bl true) := rfl
@[simp] theorem ii_listtuple_lst {l : List D} {st : Store} : isiD [.list, .tuple] st (.lst l) = some (.bl true) := rfl
class Kt (α : Type) where
  run : α → Prop
class Kz (α : Type) where
  run : α → Store → Prop
class Kp where
  run : Prop
class Kf where
  nx : Env → Prop
  rt : D → Env → Prop
section
variable {α β : Type}
def okZ (r : R α) [k : Kz α] : Prop := okR r k.run
def getV (ρ : Env) (i : Nat) [k : Kt D] : Prop := match ρ[i]? with
  | some (some d) => k.run d
  | _ => False
@[simp ↓] theorem getV_zero {d : D} {ρ : Env} {K : D → Prop} : @getV (some d :: ρ) 0 ⟨K⟩ = K d := rfl
@[simp ↓] theorem getV_succ {x : Option D} {ρ : Env} {i : Nat} {K : Kt D} : @getV (x :: ρ) (i + 1) K = @getV ρ i K := by simp [getV]
def onS (o : Option α) [k : Kt α] : Prop := match o with
  | some d => k.run d
  | none => False
@[simp] theorem onS_some {a : α} {K : α → Prop} : @onS α (some a) ⟨K⟩ = K a := rfl
@[simp] theorem onS_none {K : Kt α} : @onS α none K = False := rfl
theorem onS_iff {o : Option α} {K : α → Prop} : @onS α o ⟨K⟩ ↔ ∃ a, o = some a ∧ K a := by cases o <;> simp
theorem onS_of {o : Option α} {K : α → Prop} {a : α} (h : o = some a) (k : K a) : @onS α o ⟨K⟩ := by rw [h]; exact k
def brB (b : Bool) [p : Kp] [q : Kp] : Prop := if b = true then p.run else q.run
@[simp] theorem brB_true {P : Prop} {Q : Kp} : @brB true ⟨P⟩ Q = P := by simp [brB]
@[simp] theorem brB_false {P : Kp} {Q : Prop} : @brB false P ⟨Q⟩ = Q := by simp [brB]
@[simp] theorem brB_not {b : Bool} {P Q : Kp} : @brB (!b) P Q = @brB b Q P := by cases b <;> simp [brB]
theorem brB_iff {b : Bool} {P P' : Prop} : @brB b ⟨P⟩ ⟨P'⟩ ↔ (b = true → P) ∧ (b = false → P') := by cases b <;> simp
theorem brB_of {b : Bool} {P P' : Prop} (h : b = true → P) (h' : b = false → P') : @brB b ⟨P⟩ ⟨P'⟩ := brB_iff.mpr ⟨h, h'⟩
theorem brB_dec {p : Prop} [Decidable p] {P P' : Prop} (h : p → P) (h' : ¬ p → P') : @brB (decide p) ⟨P⟩ ⟨P'⟩ := brB_iff.mpr ⟨fun e => h (of_decide_eq_true e), fun e => h' (of_decide_eq_false e)⟩
def brD (x : D) [p : Kp] [q : Kp] : Prop := match x with
  | .bl b => @brB b p q
  | _ => False
@[simp] theorem brD_bl {b : Bool} {P Q : Kp} : @brD (.bl b) P Q = @brB b P Q := rfl
def onI (d : D) [k : Kt Int] : Prop := match d with
  | .int i => k.run i
  | _ => False
@[simp] theorem onI_int {i : Int} {K : Int → Prop} : @onI (.int i) ⟨K⟩ = K i := rfl
def onLst (d : D) [k : Kt (List D)] : Prop := match d with
  | .lst i => k.run i
  | _ => False
@[simp] theorem onLst_lst {i : List D} {K : List D → Prop} : @onLst (.lst i) ⟨K⟩ = K i := rfl
def nrm (x : α) [k : Kt α] : Prop := k.run x
@[simp] theorem nrm_eq {x : α} {K : α → Prop} : @nrm α x ⟨K⟩ = K x := rfl
def onFl (p : Fl × Env) [k : Kf] : Prop := match p with
  | (.next, ρ) => k.nx ρ
  | (.ret d, ρ) => k.rt d ρ
@[simp ↓] theorem onFl_next {ρ : Env} {K : Env → Prop} {K' : D → Env → Prop} : @onFl (.next, ρ) ⟨K, K'⟩ = K ρ := rfl
@[simp ↓] theorem onFl_ret {d : D} {ρ : Env} {K : Env → Prop} {K' : D → Env → Prop} : @onFl (.ret d, ρ) ⟨K, K'⟩ = K' d ρ := rfl
def setT (tg : Tg) (d : D) (ρ : Env) [k : Kt Env] : Prop := @onS _ (tg.set d ρ) k
def setsT (tg : List Tg) (d : List D) (ρ : Env) [k : Kt Env] : Prop := @onS _ (Tg.sets tg d ρ) k
@[simp ↓] theorem setT_nm {i : Nat} {d : D} {ρ : Env} {K : Env → Prop} : @setT (.nm i) d ρ ⟨K⟩ = @nrm _ (ρ.set i (some d)) ⟨K⟩ := by simp [setT, Tg.set]
@[simp] theorem setT_tup {l : List Tg} {ds : List D} {ρ : Env} {K : Kt Env} : @setT (.tup l) (.tup ds) ρ K = @setsT l ds ρ K := by simp [setT, Tg.set, setsT]
@[simp ↓] theorem setsT_nil {ρ : Env} {K : Env → Prop} : @setsT [] [] ρ ⟨K⟩ = K ρ := by simp [setsT, Tg.sets]
@[simp ↓] theorem setsT_cons {t : Tg} {ts : List Tg} {d : D} {ds : List D} {ρ : Env} {K : Env → Prop} : @setsT (t :: ts) (d :: ds) ρ ⟨K⟩ = @setT t d ρ ⟨fun ρ1 => @setsT ts ds ρ1 ⟨K⟩⟩ := by
  unfold setsT setT
  simp only [Tg.sets]
  cases Tg.set t d ρ <;> rfl
@[simp ↓] theorem okR_Z {r : R α} {Q : α → Store → Prop} : okR r Q = @okZ _ r ⟨Q⟩ := rfl
theorem z_to {r : R α} {Q : α → Store → Prop} (h : okR r Q) : @okZ _ r ⟨Q⟩ := h
theorem of_z {r : R α} {Q : α → Store → Prop} (h : @okZ _ r ⟨Q⟩) : okR r Q := h
theorem z_mono {r : R α} {P Q : α → Store → Prop} (h : okR r P) (w : ∀ a st, P a st → Q a st) : @okZ _ r ⟨Q⟩ := h.mono w
theorem z_onB {x : D} {t e : R α} {Q : α → Store → Prop} : okR (onB x t e) Q = @brD x ⟨okR t Q⟩ ⟨okR e Q⟩ := by
  cases x with
  | bl b => cases b <;> simp [onB, -okR_Z]
  | _ => simp [onB, brD, -okR_Z]
theorem z_bind {r : R α} {k : α → Store → R β} {Q : β → Store → Prop} : okR (r.bind k) Q = okR r fun a st => okR (k a st) Q := propext okR_bind
theorem z_lift {o : Option D} {st : Store} {Q : D → Store → Prop} : okR (liftO o st) Q = @onS _ o ⟨fun d => Q d st⟩ := by cases o <;> simp [liftO, -okR_Z]
theorem z_onO {o : Option α} {k : α → R β} {Q : β → Store → Prop} : okR (onO o k) Q = @onS _ o ⟨fun a => okR (k a) Q⟩ := by cases o <;> simp [onO, -okR_Z]
theorem z_bd {r : R α} {k : α → Store → R β} {Q : β → Store → Prop} {K : α → Store → Prop} (h : ∀ a st, okR (k a st) Q = K a st) : okR (r.bind k) Q = @okZ _ r ⟨K⟩ := by
  rw [z_bind, show (fun a st => okR (k a st) Q) = K from funext fun a => funext fun st => h a st]
  rfl
theorem z_lf {o : Option D} {st : Store} {k : D → Store → R β} {Q : β → Store → Prop} {K : D → Prop} (h : ∀ a, okR (k a st) Q = K a) : okR ((liftO o st).bind k) Q = @onS _ o ⟨K⟩ := by
  cases o with
  | none => simp [liftO, -okR_Z]
  | some a => exact h a
theorem z_oo {o : Option α} {k : α → R β} {Q : β → Store → Prop} {K : α → Prop} (h : ∀ a, okR (k a) Q = K a) : okR (onO o k) Q = @onS _ o ⟨K⟩ := by
  cases o with
  | none => simp [onO, -okR_Z]
  | some a => exact h a
theorem z_oB {x : D} {t e : R α} {Q : α → Store → Prop} {P P' : Prop} (h : okR t Q = P) (h' : okR e Q = P') : okR (onB x t e) Q = @brD x ⟨P⟩ ⟨P'⟩ := by
  subst h h'
  exact z_onB
theorem z_okR {a : α} {st : Store} {Q : α → Store → Prop} : okR (.ok a st) Q = Q a st := propext okR_ok
@[simp] theorem z_ok {a : α} {st : Store} {Q : α → Store → Prop} : @okZ _ (.ok a st) ⟨Q⟩ = Q a st := propext okR_ok
end
section
variable {ρ : Env} {st : Store} {Q : D → Store → Prop}
@[simp ↓] theorem z_var {i : Nat} : @okZ _ (mVar i ρ st) ⟨Q⟩ = @getV ρ i ⟨fun d => Q d st⟩ := by
  unfold okZ mVar getV
  cases h : ρ[i]? with
  | none => simp [-okR_Z]
  | some o => cases o <;> simp [-okR_Z]
@[simp ↓] theorem z_lit {d : D} : @okZ _ (mLit d ρ st) ⟨Q⟩ = Q d st := by simp [okZ, mLit, -okR_Z]
@[simp ↓] theorem z_nil {Q : List D → Store → Prop} : @okZ _ (mArgs [] ρ st) ⟨Q⟩ = Q [] st := by simp [okZ, mArgs, -okR_Z]
@[simp ↓] theorem z_cons {e : EM} {r : List EM} {Q : List D → Store → Prop} : @okZ _ (mArgs (e :: r) ρ st) ⟨Q⟩ = @okZ _ (e ρ st) ⟨fun d st1 => @okZ _ (mArgs r ρ st1) ⟨fun ds st2 => Q (d :: ds) st2⟩⟩ := by simp only [okZ, mArgs, z_bind, z_okR]
@[simp ↓] theorem z_tup {es : List EM} : @okZ _ (mTup es ρ st) ⟨Q⟩ = @okZ _ (mArgs es ρ st) ⟨fun ds st1 => Q (.tup ds) st1⟩ := by simp only [okZ, mTup, z_bind, z_okR]
@[simp ↓] theorem z_lst {es : List EM} : @okZ _ (mLst es ρ st) ⟨Q⟩ = @okZ _ (mArgs es ρ st) ⟨fun ds st1 => Q (.lst ds) st1⟩ := by simp only [okZ, mLst, z_bind, z_okR]
@[simp ↓] theorem z_new {es : List EM} : @okZ _ (mNew es ρ st) ⟨Q⟩ = @okZ _ (mArgs es ρ st) ⟨fun ds st1 => Q (.ref st1.length) (st1 ++ [.lst ds])⟩ := by simp only [okZ, mNew, z_bind, z_okR]
@[simp ↓] theorem z_op2 {f : Store → D → D → Option D} {a b : EM} : @okZ _ (mOp2 f a b ρ st) ⟨Q⟩ = @okZ _ (a ρ st) ⟨fun x st1 => @okZ _ (b ρ st1) ⟨fun y st2 => @onS _ (f st2 x y) ⟨fun d => Q d st2⟩⟩⟩ := by simp only [okZ, mOp2, z_bind, z_lift]
@[simp ↓] theorem z_op3 {f : Store → D → D → D → Option D} {a b c : EM} : @okZ _ (mOp3 f a b c ρ st) ⟨Q⟩ = @okZ _ (a ρ st) ⟨fun x st1 => @okZ _ (b ρ st1) ⟨fun y st2 => @okZ _ (c ρ st2) ⟨fun z st3 => @onS _ (f st3 x y z) ⟨fun d => Q d st3⟩⟩⟩⟩ := by simp only [okZ, mOp3, z_bind, z_lift]
@[simp ↓] theorem z_op1 {f : Store → D → Option D} {a : EM} : @okZ _ (mOp1 f a ρ st) ⟨Q⟩ = @okZ _ (a ρ st) ⟨fun x st1 => @onS _ (f st1 x) ⟨fun d => Q d st1⟩⟩ := by simp only [okZ, mOp1, z_bind, z_lift]
@[simp ↓] theorem z_and {a b : EM} : @okZ _ (mAnd a b ρ st) ⟨Q⟩ = @okZ _ (a ρ st) ⟨fun x st1 => @brD x ⟨@okZ _ (b ρ st1) ⟨Q⟩⟩ ⟨Q (.bl false) st1⟩⟩ := z_bd fun x st1 => z_oB rfl z_okR
@[simp ↓] theorem z_or {a b : EM} : @okZ _ (mOr a b ρ st) ⟨Q⟩ = @okZ _ (a ρ st) ⟨fun x st1 => @brD x ⟨Q (.bl true) st1⟩ ⟨@okZ _ (b ρ st1) ⟨Q⟩⟩⟩ := z_bd fun x st1 => z_oB z_okR rfl
@[simp ↓] theorem z_ite {c a b : EM} : @okZ _ (mIte c a b ρ st) ⟨Q⟩ = @okZ _ (c ρ st) ⟨fun x st1 => @brD x ⟨@okZ _ (a ρ st1) ⟨Q⟩⟩ ⟨@okZ _ (b ρ st1) ⟨Q⟩⟩⟩ := z_bd fun x st1 => z_oB rfl rfl
@[simp ↓] theorem z_call {F : Ft} {i : Nat} {es : List EM} : @okZ _ (mCall F i es ρ st) ⟨Q⟩ = @okZ _ (mArgs es ρ st) ⟨fun ds st1 => @okZ _ (F i ds st1) ⟨Q⟩⟩ := by simp only [okZ, mCall, z_bind]
@[simp ↓] theorem z_chain {f g : Store → D → D → Option D} {a b c : EM} : @okZ _ (mChain f g a b c ρ st) ⟨Q⟩ = @okZ _ (a ρ st) ⟨fun x st1 => @okZ _ (b ρ st1) ⟨fun y st2 => @onS _ (f st2 x y) ⟨fun t => @brD t ⟨@okZ _ (c ρ st2) ⟨fun z st4 => @onS _ (g st4 y z) ⟨fun d => Q d st4⟩⟩⟩ ⟨Q (.bl false) st2⟩⟩⟩⟩ := z_bd fun x st1 => z_bd fun y st2 => z_lf fun t => z_oB (z_bd fun z st4 => z_lift) z_okR
@[simp ↓] theorem z_chain3 {f g h : Store → D → D → Option D} {a b c d : EM} : @okZ _ (mChain3 f g h a b c d ρ st) ⟨Q⟩ = @okZ _ (a ρ st) ⟨fun x st1 => @okZ _ (b ρ st1) ⟨fun y st2 => @onS _ (f st2 x y) ⟨fun t => @brD t ⟨@okZ _ (c ρ st2) ⟨fun z st4 => @onS _ (g st4 y z) ⟨fun u => @brD u ⟨@okZ _ (d ρ st4) ⟨fun w st6 => @onS _ (h st6 z w) ⟨fun d => Q d st6⟩⟩⟩ ⟨Q (.bl false) st4⟩⟩⟩⟩ ⟨Q (.bl false) st2⟩⟩⟩⟩ := z_bd fun x st1 => z_bd fun y st2 => z_lf fun t => z_oB (z_bd fun z st4 => z_lf fun u => z_oB (z_bd fun w st6 => z_lift) z_okR) z_okR
@[simp ↓] theorem z_sl {a : EM} {lo hi : Option EM} : @okZ _ (mSl a lo hi ρ st) ⟨Q⟩ = @okZ _ (a ρ st) ⟨fun x st1 => @okZ _ (partD lo ρ st1) ⟨fun l st2 => @okZ _ (partD hi ρ st2) ⟨fun h st3 => @onS _ (slD x l h) ⟨fun d => Q d st3⟩⟩⟩⟩ := by simp only [okZ, mSl, z_bind, z_lift]
@[simp ↓] theorem z_part0 {Q : Option Int → Store → Prop} : @okZ _ (partD none ρ st) ⟨Q⟩ = Q none st := by simp [okZ, partD, -okR_Z]
@[simp ↓] theorem z_part1 {m : EM} {Q : Option Int → Store → Prop} : @okZ _ (partD (some m) ρ st) ⟨Q⟩ = @okZ _ (m ρ st) ⟨fun d st1 => @onI d ⟨fun i => Q (some i) st1⟩⟩ := by
  simp only [okZ, partD, z_bind]
  congr 1
  funext d st1
  cases d <;> simp [onI, -okR_Z]
@[simp ↓] theorem z_dic {l : List (EM × EM)} : @okZ _ (mDic l ρ st) ⟨Q⟩ = @okZ _ (mPairs l ρ st) ⟨fun ps st1 => Q (.dic (mergeP ps).1 (mergeP ps).2) st1⟩ := by simp only [okZ, mDic, z_bind, z_okR]
@[simp ↓] theorem z_pairs0 {Q : List (L2.Key × D) → Store → Prop} : @okZ _ (mPairs [] ρ st) ⟨Q⟩ = Q [] st := by simp [okZ, mPairs, -okR_Z]
@[simp ↓] theorem z_pairs {k v : EM} {r : List (EM × EM)} {Q : List (L2.Key × D) → Store → Prop} : @okZ _ (mPairs ((k, v) :: r) ρ st) ⟨Q⟩ = @okZ _ (k ρ st) ⟨fun x st1 => @onS _ (keyD x) ⟨fun kk => @okZ _ (v ρ st1) ⟨fun y st2 => @okZ _ (mPairs r ρ st2) ⟨fun l st3 => Q ((kk, y) :: l) st3⟩⟩⟩⟩ := by
  simp only [okZ, mPairs]
  exact z_bd fun x st1 => z_oo fun kk => z_bd fun y st2 => z_bd fun l st3 => z_okR
@[simp ↓] theorem z_seq_it {e : EM} {Q : List D → Store → Prop} : @okZ _ (iSeq e ρ st) ⟨Q⟩ = @okZ _ (e ρ st) ⟨fun d st1 => @onS _ (elems d) ⟨fun l => Q l st1⟩⟩ := by
  simp only [okZ, iSeq, z_bind]
  congr 1
  funext d st1
  cases elems d <;> simp [onL, -okR_Z]
@[simp ↓] theorem z_range {e : EM} {Q : List D → Store → Prop} : @okZ _ (iRange e ρ st) ⟨Q⟩ = @okZ _ (e ρ st) ⟨fun d st1 => @onI d ⟨fun j => (-1000000 ≤ j ∧ j ≤ sizeLine) ∧ Q (rangeL j.toNat) st1⟩⟩ := by
  simp only [okZ, iRange, z_bind]
  congr 1
  funext d st1
  cases d <;> simp [onI, -okR_Z]
  split
  · rename_i h; simp [h, -okR_Z]
  · rename_i h; simp [-okR_Z]; intro h1 h2; exact absurd ⟨h1, h2⟩ h
def onSq (d : D) [k : Kt (List D)] : Prop := match d with
  | .lst i => k.run i
  | .tup i => k.run i
  | _ => False
@[simp] theorem onSq_lst {i : List D} {K : List D → Prop} : @onSq (.lst i) ⟨K⟩ = K i := rfl
@[simp] theorem onSq_tup {i : List D} {K : List D → Prop} : @onSq (.tup i) ⟨K⟩ = K i := rfl
@[simp ↓] theorem z_enum {e : EM} {Q : List D → Store → Prop} : @okZ _ (iEnumL e ρ st) ⟨Q⟩ = @okZ _ (e ρ st) ⟨fun d st1 => @onSq d ⟨fun l => Q (enums l) st1⟩⟩ := by
  simp only [okZ, iEnumL, z_bind]
  congr 1
  funext d st1
  cases d <;> simp [onSq, -okR_Z]
@[simp ↓] theorem z_zip {a b : EM} {Q : List D → Store → Prop} : @okZ _ (iZipL a b ρ st) ⟨Q⟩ = @okZ _ (a ρ st) ⟨fun d st1 => @okZ _ (b ρ st1) ⟨fun e st2 => @onS _ (zipD d e) ⟨fun l => Q l st2⟩⟩⟩ := by
  simp only [okZ, iZipL, z_bind]
  congr 1
  funext d st1
  congr 1
  funext e st2
  cases d <;> cases e <;> simp [zipD, -okR_Z, onS]
end
section
variable {ρ : Env} {st : Store} {Q : Fl × Env → Store → Prop}
@[simp ↓] theorem z_skip : @okZ _ (mSkip ρ st) ⟨Q⟩ = Q (.next, ρ) st := by simp [okZ, mSkip, -okR_Z]
@[simp ↓] theorem z_seq {a b : SM} : @okZ _ (mSeq a b ρ st) ⟨Q⟩ = @okZ _ (a ρ st) ⟨fun p st1 => @onFl p ⟨fun ρ1 => @okZ _ (b ρ1 st1) ⟨Q⟩, fun d ρ1 => Q (.ret d, ρ1) st1⟩⟩ := by
  simp only [okZ, mSeq, z_bind]
  congr 1
  funext p st1
  obtain ⟨fl, ρ1⟩ := p
  cases fl
  · rfl
  · simp [-okR_Z]
@[simp ↓] theorem z_ret {e : EM} : @okZ _ (mRet e ρ st) ⟨Q⟩ = @okZ _ (e ρ st) ⟨fun d st1 => Q (.ret d, ρ) st1⟩ := by simp only [okZ, mRet, z_bind, z_okR]
@[simp ↓] theorem z_if {c : EM} {a b : SM} : @okZ _ (mIf c a b ρ st) ⟨Q⟩ = @okZ _ (c ρ st) ⟨fun x st1 => @brD x ⟨@okZ _ (a ρ st1) ⟨Q⟩⟩ ⟨@okZ _ (b ρ st1) ⟨Q⟩⟩⟩ := z_bd fun x st1 => z_oB rfl rfl
@[simp ↓] theorem z_asg {tg : Tg} {e : EM} : @okZ _ (mAsg tg e ρ st) ⟨Q⟩ = @okZ _ (e ρ st) ⟨fun d st1 => @setT tg d ρ ⟨fun ρ1 => Q (.next, ρ1) st1⟩⟩ := z_bd fun d st1 => z_oo fun ρ1 => z_okR
@[simp ↓] theorem z_expr {e : EM} : @okZ _ (mExpr e ρ st) ⟨Q⟩ = @okZ _ (e ρ st) ⟨fun _ st1 => Q (.next, ρ) st1⟩ := by simp only [okZ, mExpr, z_bind, z_okR]
@[simp ↓] theorem z_par {i j : Nat} {a b : EM} : @okZ _ (mPar i j a b ρ st) ⟨Q⟩ = @okZ _ (a ρ st) ⟨fun x st1 => @okZ _ (b ρ st1) ⟨fun y st2 => @nrm _ ((ρ.set i (some x)).set j (some y)) ⟨fun ρ1 => Q (.next, ρ1) st2⟩⟩⟩ := by simp only [okZ, mPar, mArgs, z_bind, z_okR, nrm_eq]
def isOs (bs : List Bool) (ds : List D) [k : Kp] : Prop := okOwn bs ds = true ∧ k.run
@[simp] theorem isOs_nil {P : Prop} : @isOs [] [] ⟨P⟩ = P := by simp [isOs, okOwn]
@[simp] theorem isOs_f {bs : List Bool} {d : D} {ds : List D} {k : Kp} : @isOs (false :: bs) (d :: ds) k = @isOs bs ds k := by simp [isOs, okOwn]
@[simp] theorem isOs_l {bs : List Bool} {l : List D} {ds : List D} {k : Kp} : @isOs (true :: bs) (.lst l :: ds) k = @isOs bs ds k := by simp [isOs, okOwn, D.isObj]
@[simp] theorem isOs_d {bs : List Bool} {ks : List L2.Key} {l : List D} {ds : List D} {k : Kp} : @isOs (true :: bs) (.dic ks l :: ds) k = @isOs bs ds k := by simp [isOs, okOwn, D.isObj]
@[simp] theorem setE_nil {ρ : Env} : setE ρ [] [] = ρ := rfl
@[simp] theorem setE_cons {ρ : Env} {i : Nat} {is : List Nat} {d : D} {ds : List D} : setE ρ (i :: is) (d :: ds) = setE (ρ.set i (some d)) is ds := rfl
@[simp ↓] theorem z_many {is : List Nat} {bs : List Bool} {ms : List EM} : @okZ _ (mMany is bs ms ρ st) ⟨Q⟩ = @okZ _ (mArgs ms ρ st) ⟨fun ds st1 => @isOs bs ds ⟨@nrm _ (setE ρ is ds) ⟨fun ρ1 => Q (.next, ρ1) st1⟩⟩⟩ := by
  simp only [okZ, mMany, z_bind]
  congr 1
  funext ds st1
  unfold isOs
  split
  · rename_i h; simp [h, -okR_Z]
  · rename_i h; simp [h, -okR_Z]
def isO (d : D) [k : Kp] : Prop := d.isObj = true ∧ k.run
@[simp] theorem isO_lst {l : List D} {P : Prop} : @isO (.lst l) ⟨P⟩ = P := by simp [isO, D.isObj]
@[simp] theorem isO_dic {k : List L2.Key} {l : List D} {P : Prop} : @isO (.dic k l) ⟨P⟩ = P := by simp [isO, D.isObj]
@[simp ↓] theorem z_own {i : Nat} {e : EM} : @okZ _ (mOwn i e ρ st) ⟨Q⟩ = @okZ _ (e ρ st) ⟨fun d st1 => @isO d ⟨@nrm _ (ρ.set i (some d)) ⟨fun ρ1 => Q (.next, ρ1) st1⟩⟩⟩ := by
  simp only [okZ, mOwn, z_bind]
  congr 1
  funext d st1
  cases d <;> simp [isO, D.isObj, -okR_Z]
@[simp ↓] theorem z_app {i : Nat} {e : EM} : @okZ _ (mApp i e ρ st) ⟨Q⟩ = @getV ρ i ⟨fun v => @onLst v ⟨fun l => @okZ _ (e ρ st) ⟨fun d st1 => l.length < sizeLine ∧ @nrm _ (ρ.set i (some (.lst (l ++ [d])))) ⟨fun ρ1 => Q (.next, ρ1) st1⟩⟩⟩⟩ := by
  unfold okZ mApp getV
  cases h : ρ[i]? with
  | none => simp [-okR_Z]
  | some o =>
    cases o with
    | none => simp [-okR_Z]
    | some v =>
      cases v <;> simp only [onLst, z_bind]
      case lst l =>
        refine congrArg (okR (e ρ st)) ?_
        funext d st1
        by_cases h2 : l.length < sizeLine
        · simp [h2, -okR_Z]
        · simp [h2, -okR_Z]
      all_goals simp [-okR_Z]
end
@[simp] theorem pow9 {st : Store} : powD st (.int 10) (.int 9) = some (.int 1000000000) := rfl
@[simp] theorem pow18 {st : Store} : powD st (.int 10) (.int 18) = some (.int 1000000000000000000) := rfl
@[simp] theorem sub_ii {st : Store} {i j : Int} : subD st (.int i) (.int j) = some (.int (i - j)) := rfl
@[simp] theorem neg_i {st : Store} {i : Int} : negD st (.int i) = some (.int (-i)) := rfl
@[simp] theorem mod_ii {st : Store} {i j : Int} (h : 0 < j) : modD st (.int i) (.int j) = some (.int (i % j)) := by simp [iiD, h]
@[simp] theorem fdiv_ii {st : Store} {i j : Int} (h : 0 < j) (h2 : j < 1073741824) : fdivD st (.int i) (.int j) = some (.int (i / j)) := by simp [iiD, h, h2]
@[simp] theorem int_bl {st : Store} {b : Bool} : intD st (.bl b) = some (.int (if b then 1 else 0)) := rfl
@[simp] theorem max_ii {st : Store} {i j : Int} : max2D st (.int i) (.int j) = some (.int (if j > i then j else i)) := rfl
@[simp] theorem min_ii {st : Store} {i j : Int} : min2D st (.int i) (.int j) = some (.int (if j < i then j else i)) := rfl
@[simp] theorem list_lst {st : Store} {l : List D} : listD st (.lst l) = some (.lst l) := rfl
@[simp] theorem list_tup {st : Store} {l : List D} : listD st (.tup l) = some (.lst l) := rfl
@[simp] theorem tuple_lst {st : Store} {l : List D} : tupleD st (.lst l) = some (.tup l) := rfl
@[simp] theorem tuple_tup {st : Store} {l : List D} : tupleD st (.tup l) = some (.tup l) := rfl
@[simp] theorem elems_lst {l : List D} : elems (.lst l) = some l := rfl
@[simp] theorem elems_tup {l : List D} : elems (.tup l) = some l := rfl
@[simp] theorem repr_bl {st : Store} {b : Bool} : reprB st (.bl b) = some (.str (if b then "True" else "False")) := rfl
/-- a call -/
theorem z_run {T : List FnDef} {n i : Nat} {fn : FnDef} {ds : List D} {st : Store} {Q : D → Store → Prop} (h : T[i]? = some fn) (hl : ds.length = fn.ps)
    (q : @okZ _ (fn.body (callT T n) (startE fn.slots ds) st) ⟨fun p st' => @onFl p ⟨fun _ => Q .non st', fun d _ => Q d st'⟩⟩) : okR (callT T (n + 1) i ds st) Q := by
  have q' : okR (fn.body (callT T n) (startE fn.slots ds) st) fun p st' => @onFl p ⟨fun _ => Q .non st', fun d _ => Q d st'⟩ := q
  refine okR_run h hl (q'.mono fun p s hp => ?_)
  obtain ⟨fl, ρ⟩ := p
  cases fl with
  | next => exact ⟨fun _ => hp, fun d z => by cases z⟩
  | ret d => exact ⟨fun z => (by cases z), fun d' z => (by cases z; exact hp)⟩
end SH

namespace SH
open PySem L2
section
variable {α β : Type}
def putO (o k d : D) [K : Kt D] : Prop := match o, k with
  | .lst l, .int z => @onS _ (L2.ixN l.length z) ⟨fun j => K.run (.lst (l.set j d))⟩
  | .dic ks ds, .str s => ks.length < sizeLine ∧ K.run (dicPut ks ds (.inr s) d)
  | _, _ => False
@[simp] theorem putO_lst {l : List D} {z : Int} {d : D} {K : D → Prop} : @putO (.lst l) (.int z) d ⟨K⟩ = @onS _ (L2.ixN l.length z) ⟨fun j => K (.lst (l.set j d))⟩ := rfl
@[simp] theorem putO_dic {ks : List Key} {ds : List D} {s : Str} {d : D} {K : D → Prop} : @putO (.dic ks ds) (.str s) d ⟨K⟩ = (ks.length < sizeLine ∧ K (dicPut ks ds (.inr s) d)) := rfl
@[simp ↓] theorem z_setO {i : Nat} {e v : EM} {ρ : Env} {st : Store} {Q : Fl × Env → Store → Prop} : @okZ _ (mSetO i e v ρ st) ⟨Q⟩ = @okZ _ (v ρ st) ⟨fun d st1 => @getV ρ i ⟨fun o => @okZ _ (e ρ st1) ⟨fun k st2 => @putO o k d ⟨fun o' => @nrm _ (ρ.set i (some o')) ⟨fun ρ1 => Q (.next, ρ1) st2⟩⟩⟩⟩⟩ := by
  refine z_bd fun d st1 => ?_
  have hF : ∀ (r : R D), okR r (fun _ _ => False) = False := fun r => eq_false fun ⟨_, _, _, h⟩ => h
  unfold getV
  dsimp only
  cases h : ρ[i]? with
  | none => simp [-okR_Z]
  | some o =>
    cases o with
    | none => simp [-okR_Z]
    | some o =>
      cases o with
      | lst l =>
        dsimp only
        refine z_bd fun k st2 => ?_
        cases k <;> simp [putO, -okR_Z]
        exact onS_iff.symm
      | dic ks ds =>
        dsimp only
        refine z_bd fun k st2 => ?_
        cases k <;> simp [putO, -okR_Z]
        split
        · rename_i h; simp [h, -okR_Z]
        · rename_i h; simp [-okR_Z]; intro h2; exact absurd h2 (by omega)
      | _ =>
        dsimp only
        simp [-okR_Z]
        show ¬ okR (e ρ st1) fun k st2 => _
        intro h
        obtain ⟨k, s, _, h⟩ := h
        revert h
        cases k <;> exact id
def onRf (d : D) [k : Kt Nat] : Prop := match d with
  | .ref n => k.run n
  | _ => False
@[simp] theorem onRf_ref {n : Nat} {K : Nat → Prop} : @onRf (.ref n) ⟨K⟩ = K n := rfl
def onOL (o : Option O) [k : Kt (List D)] : Prop := match o with
  | some (.lst l) => k.run l
  | _ => False
@[simp] theorem onOL_lst {l : List D} {K : List D → Prop} : @onOL (some (.lst l)) ⟨K⟩ = K l := rfl
@[simp ↓] theorem z_setS {i : Nat} {e v : EM} {ρ : Env} {st : Store} {Q : Fl × Env → Store → Prop} : @okZ _ (mSetS i e v ρ st) ⟨Q⟩ = @okZ _ (v ρ st) ⟨fun d st1 => @getV ρ i ⟨fun r => @onRf r ⟨fun n => @okZ _ (e ρ st1) ⟨fun k st2 => @onI k ⟨fun z => @onOL st2[n]? ⟨fun l => @onS _ (L2.ixN l.length z) ⟨fun j => Q (.next, ρ) (st2.set n (.lst (l.set j d)))⟩⟩⟩⟩⟩⟩⟩ := by
  refine z_bd fun d st1 => ?_
  unfold getV
  dsimp only
  cases h : ρ[i]? with
  | none => simp [-okR_Z]
  | some o =>
    cases o with
    | none => simp [-okR_Z]
    | some o =>
      cases o with
      | ref n =>
        dsimp only [onRf]
        refine z_bd fun k st2 => ?_
        cases k <;> simp [onI, -okR_Z]
        cases h2 : st2[n]? with
        | none => simp [onOL, -okR_Z]
        | some o =>
          cases o with
          | lst l => simp [onOL, -okR_Z]; exact onS_iff.symm
          | tab q P => simp [onOL, -okR_Z]
      | _ => simp [onRf, -okR_Z]
theorem forGo_inv {tg : Tg} {body : SM} (I : Nat → Env → Store → Prop) : ∀ (xs : List D) (i : Nat) (ρ : Env) (st : Store), (∀ j x, xs[j]? = some x → ∀ ρ st, I (i + j) ρ st → ∃ ρ1, tg.set x ρ = some ρ1 ∧ okR (body ρ1 st) fun q s => q.1 = .next ∧ I (i + j + 1) q.2 s) → I i ρ st →
    okR (forGo tg body xs ρ st) fun q s => q.1 = .next ∧ I (i + xs.length) q.2 s
  | [], i, ρ, st, _, hi => by simpa [forGo, -okR_Z] using hi
  | x :: r, i, ρ, st, h, hi => by
    obtain ⟨ρ1, h1, ⟨fl, ρ2⟩, s, h2, h3, h4⟩ := h 0 x rfl ρ st hi
    unfold forGo
    rw [h1, onO_some, h2, R.bind_ok]
    have h3' : fl = .next := h3
    subst h3'
    dsimp only
    have ih := forGo_inv I r (i + 1) ρ2 s (fun j x hx ρ st hI => by
      have := h (j + 1) x (by simpa using hx) ρ st (by rw [show i + (j + 1) = i + 1 + j by omega]; exact hI)
      rwa [show i + (j + 1) + 1 = i + 1 + j + 1 by omega] at this) h4
    rw [show i + (x :: r).length = i + 1 + r.length by simp; omega]
    exact ih
/-- a loop by what stays -/
theorem w_forI {tg : Tg} {it : LM} {body : SM} {ρ : Env} {st : Store} {Q : Fl × Env → Store → Prop} {xs : List D} {st1 : Store} (I : Nat → Env → Store → Prop) (hit : okR (it ρ st) fun l s => l = xs ∧ s = st1) (hi : I 0 ρ st1)
    (h : ∀ j x, xs[j]? = some x → ∀ ρ st, I j ρ st → ∃ ρ1, tg.set x ρ = some ρ1 ∧ okR (body ρ1 st) fun q s => q.1 = .next ∧ I (j + 1) q.2 s)
    (q : ∀ ρ' s, I xs.length ρ' s → Q (.next, ρ') s) : okR (mFor tg it body ρ st) Q := by
  unfold mFor
  rw [hit.eq, R.bind_ok]
  have := forGo_inv (tg := tg) (body := body) I xs 0 ρ st1 (fun j x hx ρ st hI => by
    have := h j x hx ρ st (by rwa [Nat.zero_add] at hI)
    rwa [Nat.zero_add]) hi
  refine this.mono fun p s hp => ?_
  obtain ⟨fl, ρ'⟩ := p
  obtain ⟨h1, h2⟩ := hp
  have h1' : fl = .next := h1
  subst h1'
  rw [Nat.zero_add] at h2
  exact q ρ' s h2
theorem forGo_ret {α : Type} {tg : Tg} {body : SM} {st : Store} (I : Env → Prop) (k : α → D) (g : α → Option D) : ∀ (xs : List α) (ρ : Env), (∀ a ∈ xs, ∀ ρ, I ρ → ∃ ρ1, tg.set (k a) ρ = some ρ1 ∧ okR (body ρ1 st) fun q s => s = st ∧ ((g a = none ∧ q.1 = .next ∧ I q.2) ∨ ∃ d, g a = some d ∧ q.1 = .ret d)) → I ρ →
    okR (forGo tg body (xs.map k) ρ st) fun q s => s = st ∧ ((xs.findSome? g = none ∧ q.1 = .next ∧ I q.2) ∨ ∃ d, xs.findSome? g = some d ∧ q.1 = .ret d)
  | [], ρ, _, hi => by
    rw [show forGo tg body (([] : List α).map k) ρ st = .ok (.next, ρ) st from rfl, okR_ok]
    exact ⟨rfl, .inl ⟨rfl, rfl, hi⟩⟩
  | x :: r, ρ, h, hi => by
    obtain ⟨ρ1, h1, ⟨fl, ρ2⟩, s, h2, rfl, h3⟩ := h x (by simp) ρ hi
    rw [List.map_cons]
    unfold forGo
    rw [h1, onO_some, h2, R.bind_ok]
    rcases h3 with ⟨g1, g2, g3⟩ | ⟨d, g1, g2⟩
    · have g2' : fl = .next := g2
      subst g2'
      dsimp only
      refine (forGo_ret I k g r ρ2 (fun a ha => h a (by simp [ha])) g3).mono fun q s' hq => ?_
      rw [List.findSome?_cons, g1]
      exact hq
    · have g2' : fl = .ret d := g2
      subst g2'
      dsimp only
      rw [okR_ok]
      exact ⟨rfl, .inr ⟨d, by rw [List.findSome?_cons, g1], rfl⟩⟩
/-- a loop that hands back at the first of which something is told -/
theorem w_forR {α : Type} {tg : Tg} {it : LM} {body : SM} {ρ : Env} {st : Store} {Q : Fl × Env → Store → Prop} {xs : List α} (I : Env → Prop) (k : α → D) (g : α → Option D) (hit : okR (it ρ st) fun l s => l = xs.map k ∧ s = st) (hi : I ρ)
    (h : ∀ a ∈ xs, ∀ ρ, I ρ → ∃ ρ1, tg.set (k a) ρ = some ρ1 ∧ okR (body ρ1 st) fun q s => s = st ∧ ((g a = none ∧ q.1 = .next ∧ I q.2) ∨ ∃ d, g a = some d ∧ q.1 = .ret d))
    (q0 : xs.findSome? g = none → ∀ ρ', I ρ' → Q (.next, ρ') st) (q1 : ∀ d, xs.findSome? g = some d → ∀ ρ', Q (.ret d, ρ') st) : okR (mFor tg it body ρ st) Q := by
  unfold mFor
  rw [hit.eq, R.bind_ok]
  refine (forGo_ret (tg := tg) (body := body) I k g xs ρ h hi).mono fun p s hp => ?_
  obtain ⟨fl, ρ'⟩ := p
  obtain ⟨rfl, hp⟩ := hp
  rcases hp with ⟨h1, h2, h3⟩ | ⟨d, h1, h2⟩
  · have h2' : fl = .next := h2
    subst h2'
    exact q0 h1 ρ' h3
  · have h2' : fl = .ret d := h2
    subst h2'
    exact q1 d h1 ρ'
inductive All2 {α β : Type} (P : α → β → Prop) : List α → List β → Prop
  | nil : All2 P [] []
  | cons {a : α} {b : β} {l : List α} {m : List β} : P a b → All2 P l m → All2 P (a :: l) (b :: m)
theorem All2.length {P : α → β → Prop} {l : List α} {m : List β} (h : All2 P l m) : l.length = m.length := by
  induction h with
  | nil => rfl
  | cons _ _ ih => simp [ih]
/-- what is made of each is a picture of something good -/
theorem All2.map {γ : Type} {l : List α} {m : List β} {g : γ → β} {R : α → γ → Prop} (h : All2 (fun a b => ∃ c, b = g c ∧ R a c) l m) : ∃ cs : List γ, m = cs.map g ∧ All2 R l cs := by
  induction h with
  | nil => exact ⟨[], rfl, .nil⟩
  | cons hp _ ih =>
    obtain ⟨c, rfl, hc⟩ := hp
    obtain ⟨cs, rfl, hs⟩ := ih
    exact ⟨c :: cs, rfl, .cons hc hs⟩
theorem All2.right {P : α → β → Prop} {Q : β → Prop} {l : List α} {m : List β} (h : All2 P l m) (w : ∀ a b, P a b → Q b) : ∀ b ∈ m, Q b := by
  induction h with
  | nil => intro b hb; cases hb
  | cons hp _ ih =>
    intro b hb
    rcases List.mem_cons.mp hb with rfl | hb
    · exact w _ _ hp
    · exact ih b hb
theorem All2.keys {γ : Type} {P : α → β → Prop} {l : List α} {m : List β} {f : α → γ} {g : β → γ} (h : All2 P l m) (w : ∀ a b, P a b → g b = f a) : m.map g = l.map f := by
  induction h with
  | nil => rfl
  | cons hp _ ih => simp [w _ _ hp, ih]
theorem All2.mem {P : α → β → Prop} {l : List α} {m : List β} (h : All2 P l m) : ∀ b ∈ m, ∃ a ∈ l, P a b := by
  induction h with
  | nil => intro b hb; cases hb
  | cons hp _ ih =>
    intro b hb
    rcases List.mem_cons.mp hb with rfl | hb
    · exact ⟨_, by simp, hp⟩
    · obtain ⟨a, ha, h⟩ := ih b hb
      exact ⟨a, by simp [ha], h⟩
theorem compGo_inv {elt cond : EM} {tg : Tg} {ρ : Env} (J : Store → Prop) (P : D → D → Prop) : ∀ (l : List D) (st : Store), (∀ x ∈ l, ∀ st, J st → ∃ ρ1, tg.set x ρ = some ρ1 ∧ okR (cond ρ1 st) fun d s => J s ∧ (d = .bl false ∨ d = .bl true ∧ okR (elt ρ1 s) fun d s => J s ∧ P x d)) → J st →
    okR (compGo elt tg cond ρ l st) fun ds s => J s ∧ ∃ l', l'.Sublist l ∧ All2 P l' ds
  | [], st, _, hj => by
    rw [show compGo elt tg cond ρ [] st = .ok [] st from rfl, okR_ok]
    exact ⟨hj, [], .slnil, .nil⟩
  | x :: r, st, h, hj => by
    obtain ⟨ρ1, h1, d, s, h2, hj2, hd⟩ := h x (by simp) st hj
    unfold compGo
    rw [h1, onO_some, h2, R.bind_ok]
    rcases hd with rfl | ⟨rfl, d2, s2, h3, hj3, hp⟩
    · rw [onB_false]
      refine (compGo_inv J P r s (fun x hx => h x (by simp [hx])) hj2).mono fun ds s3 hq => ?_
      obtain ⟨hq, l', hs, ha⟩ := hq
      exact ⟨hq, l', hs.cons _, ha⟩
    · rw [onB_true, h3, R.bind_ok, okR_bind]
      refine (compGo_inv J P r s2 (fun x hx => h x (by simp [hx])) hj3).mono fun ds s3 hq => ?_
      obtain ⟨hq, l', hs, ha⟩ := hq
      rw [okR_ok]
      exact ⟨hq, x :: l', hs.cons₂ _, .cons hp ha⟩
theorem compGo_invT {elt : EM} {tg : Tg} {ρ : Env} (J : Store → Prop) (P : D → D → Prop) : ∀ (l : List D) (st : Store), (∀ x ∈ l, ∀ st, J st → ∃ ρ1, tg.set x ρ = some ρ1 ∧ okR (elt ρ1 st) fun d s => J s ∧ P x d) → J st →
    okR (compGo elt tg (mLit (.bl true)) ρ l st) fun ds s => J s ∧ All2 P l ds
  | [], st, _, hj => by
    rw [show compGo elt tg (mLit (.bl true)) ρ [] st = .ok [] st from rfl, okR_ok]
    exact ⟨hj, .nil⟩
  | x :: r, st, h, hj => by
    obtain ⟨ρ1, h1, d2, s2, h3, hj3, hp⟩ := h x (by simp) st hj
    unfold compGo
    rw [h1, onO_some, show mLit (.bl true) ρ1 st = .ok (.bl true) st from rfl, R.bind_ok, onB_true, h3, R.bind_ok, okR_bind]
    refine (compGo_invT J P r s2 (fun x hx => h x (by simp [hx])) hj3).mono fun ds s3 hq => ?_
    obtain ⟨hq, ha⟩ := hq
    rw [okR_ok]
    exact ⟨hq, .cons hp ha⟩
/-- a comprehension that changes the store -/
theorem w_compI {elt cond : EM} {tg : Tg} {it : LM} {vs : List Nat} {ρ : Env} {st st1 : Store} {xs : List D} {Q : D → Store → Prop} (J : Store → Prop) (P : D → D → Prop) (hit : okR (it ρ st) fun l s => l = xs ∧ s = st1) (hj : J st1)
    (h : ∀ x ∈ xs, ∀ st, J st → ∃ ρ1, tg.set x (wipeE ρ vs) = some ρ1 ∧ okR (cond ρ1 st) fun d s => J s ∧ (d = .bl false ∨ d = .bl true ∧ okR (elt ρ1 s) fun d s => J s ∧ P x d))
    (q : ∀ ds s, J s → (∃ l', l'.Sublist xs ∧ All2 P l' ds) → Q (.lst ds) s) : okR (mComp elt tg it cond vs ρ st) Q := by
  unfold mComp
  rw [hit.eq, R.bind_ok, okR_bind]
  refine (compGo_inv J P xs st1 h hj).mono fun ds s hq => ?_
  rw [okR_ok]
  exact q ds s hq.1 hq.2
theorem w_compT {elt : EM} {tg : Tg} {it : LM} {vs : List Nat} {ρ : Env} {st st1 : Store} {xs : List D} {Q : D → Store → Prop} (J : Store → Prop) (P : D → D → Prop) (hit : okR (it ρ st) fun l s => l = xs ∧ s = st1) (hj : J st1)
    (h : ∀ x ∈ xs, ∀ st, J st → ∃ ρ1, tg.set x (wipeE ρ vs) = some ρ1 ∧ okR (elt ρ1 st) fun d s => J s ∧ P x d)
    (q : ∀ ds s, J s → All2 P xs ds → Q (.lst ds) s) : okR (mComp elt tg it (mLit (.bl true)) vs ρ st) Q := by
  unfold mComp
  rw [hit.eq, R.bind_ok, okR_bind]
  refine (compGo_invT J P xs st1 h hj).mono fun ds s hq => ?_
  rw [okR_ok]
  exact q ds s hq.1 hq.2
end
/-- a bag in a store: where it stands, its draws; what moves is a number -/
structure Bg where
  st : Store
  b : Nat
  ps : List Int
  lt : b < st.length
  len : ps.length = 400
  bd : ∀ p ∈ ps, 0 ≤ p ∧ p < 1000
def Bg.at (B : Bg) (c : Nat) : Store := B.st.set B.b (.lst [.lst (B.ps.map D.int), .int c])
def Bg.pk (B : Bg) (c : Nat) : Int := B.ps.getD (c % 400) 0
/-- the c-th draw, below m -/
def Bg.tk (B : Bg) (c : Nat) (m : Int) : Int := B.pk (c + 1) % m
section
variable {B : Bg} {c : Nat} {m : Int}
@[simp] theorem Bg.get : (B.at c)[B.b]? = some (.lst [.lst (B.ps.map D.int), .int c]) := by
  unfold Bg.at
  rw [List.getElem?_set_self B.lt]
theorem Bg.other {j : Nat} (h : j ≠ B.b) : (B.at c)[j]? = B.st[j]? := by
  unfold Bg.at
  rw [List.getElem?_set_ne h.symm]
@[simp] theorem Bg.set {c' : Nat} : (B.at c).set B.b (.lst [.lst (B.ps.map D.int), .int c']) = B.at c' := by
  unfold Bg.at
  rw [List.set_set]
@[simp] theorem Bg.set1 {c' : Nat} : (B.at c).set B.b (.lst [.lst (B.ps.map D.int), .int ((c' : Int) + 1)]) = B.at (c' + 1) := by
  rw [show ((c' : Int) + 1) = ((c' + 1 : Nat) : Int) by omega, Bg.set]
theorem Bg.pk_bd : 0 ≤ B.pk c ∧ B.pk c < 1000 := by
  unfold Bg.pk
  have h : c % 400 < B.ps.length := by rw [B.len]; omega
  rw [List.getD_eq_getElem?_getD, List.getElem?_eq_getElem h]
  exact B.bd _ (List.getElem_mem h)
theorem Bg.tk_nn (h : 0 < m) : 0 ≤ B.tk c m := Int.emod_nonneg _ (by omega)
theorem Bg.tk_lt (h : 0 < m) : B.tk c m < m := Int.emod_lt_of_pos _ h
theorem Bg.tk_k (hm : 0 < m) : B.tk c m < 1000 := by
  have h := B.pk_bd (c := c + 1)
  unfold Bg.tk
  by_cases hl : B.pk (c + 1) < m
  · rw [Int.emod_eq_of_lt h.1 hl]
    exact h.2
  · have := Int.emod_lt_of_pos (B.pk (c + 1)) hm
    omega
end
end SH

namespace SH
open PySem L2
@[simp] theorem deq_int {i j : Int} : D.eq (.int i) (.int j) = decide (i = j) := by simp [D.eq, D.py, PyData.eqv, beqd]
@[simp] theorem deq_str {i j : Str} : D.eq (.str i) (.str j) = decide (i = j) := by simp [D.eq, D.py, PyData.eqv, beqd]
@[simp] theorem deq_bl {i j : Bool} : D.eq (.bl i) (.bl j) = decide (i = j) := by cases i <;> cases j <;> rfl
@[simp] theorem deq_tup {a b : D} {l m : List D} : D.eq (.tup (a :: l)) (.tup (b :: m)) = (D.eq a b && D.eq (.tup l) (.tup m)) := by simp [D.eq, D.py, D.pys, PyData.eqv, PyData.eqvAll]
@[simp] theorem deq_nil : D.eq (.tup []) (.tup []) = true := rfl
@[simp] theorem deq_nc {b : D} {m : List D} : D.eq (.tup []) (.tup (b :: m)) = false := rfl
@[simp] theorem deq_cn {b : D} {m : List D} : D.eq (.tup (b :: m)) (.tup []) = false := rfl
theorem deq_non {v : D} (h : D.eq .non v = true) (hp : v.plain = true) : v = .non := by
  cases v <;> first | rfl | (simp [D.eq, D.py, PyData.eqv] at h; done) | (simp [D.plain] at hp)
theorem deq_non' {v : D} (h : D.eq v .non = true) (hp : v.plain = true) : v = .non := by
  cases v <;> first | rfl | (simp [D.eq, D.py, PyData.eqv] at h; done) | (simp [D.plain] at hp)
/-- rows that are equal, one by one the same -/
theorem deq_all {α : Type} (f : α → D) : ∀ {l m : List α}, (∀ x ∈ l, ∀ y ∈ m, D.eq (f x) (f y) = true → x = y) → D.eq (.tup (l.map f)) (.tup (m.map f)) = true → l = m
  | [], [], _, _ => rfl
  | [], y :: m, _, h => by simp at h
  | x :: l, [], _, h => by simp at h
  | x :: l, y :: m, w, h => by
    simp only [List.map_cons, deq_tup, Bool.and_eq_true] at h
    rw [w x (by simp) y (by simp) h.1, deq_all f (fun x hx y hy => w x (by simp [hx]) y (by simp [hy])) h.2]
theorem val_eq : ∀ (k : Nat) (s : S) (v w : D), s.ok k → isVal s v = true → isVal s w = true → D.eq v w = true → v = w
  | 0, s, v, w, hs, _, _, _ => by simp [S.ok] at hs
  | k + 1, s, v, w, hs, hv, hw, h => by
    have ih := val_eq k
    cases s with
    | whole lo hi =>
      obtain ⟨i, rfl, _, _⟩ := within_eq (by simpa only [isVal] using hv)
      obtain ⟨j, rfl, _, _⟩ := within_eq (by simpa only [isVal] using hw)
      simpa using h
    | word n =>
      cases v <;> simp only [isVal] at hv <;> try cases hv
      cases w <;> simp only [isVal] at hw <;> try cases hw
      simpa using h
    | truth =>
      cases v <;> simp only [isVal, tyBl] at hv <;> try cases hv
      cases w <;> simp only [isVal, tyBl] at hw <;> try cases hw
      simpa using h
    | one ss =>
      cases v <;> simp only [isVal] at hv <;> try cases hv
      all_goals (cases w <;> simp only [isVal] at hw <;> try cases hw)
      all_goals simpa using h
    | list x n =>
      simp only [S.ok] at hs
      obtain ⟨l, rfl, _, hl⟩ := val_list hv
      obtain ⟨m, rfl, _, hm⟩ := val_list hw
      simp only [deq_tup, Bool.and_eq_true] at h
      have := deq_all (f := id) (l := l) (m := m) (fun a ha b hb e => ih x a b hs.2.2 (hl a ha) (hm b hb) e) (by simpa using h.2.1)
      rw [this]
    | maybe x =>
      have hs0 := hs
      simp only [S.ok] at hs
      have pv := val_plain hs0 hv
      have pw := val_plain hs0 hw
      simp only [isVal, Bool.or_eq_true] at hv hw
      rcases hv with hv | hv
      · have e : v = .non := by cases v <;> first | rfl | cases hv
        subst e
        exact (deq_non h pw).symm
      · rcases hw with hw | hw
        · have e : w = .non := by cases w <;> first | rfl | cases hw
          subst e
          exact deq_non' h pv
        · exact ih x v w hs.2 hv hw h
    | record rows =>
      simp only [S.ok] at hs
      obtain ⟨ps, rfl, _, _, hp, _⟩ := val_pairs hv
      obtain ⟨qs, rfl, _, _, hq, _⟩ := val_pairs hw
      simp only [deq_tup, Bool.and_eq_true] at h
      have := deq_all (f := prD) (l := ps) (m := qs) (fun a ha b hb e => by
        obtain ⟨n1, v1⟩ := a
        obtain ⟨n2, v2⟩ := b
        simp only [prD, deq_tup, deq_str, Bool.and_eq_true, decide_eq_true_eq] at e
        obtain ⟨e1, e2, _⟩ := e
        subst e1
        obtain ⟨a, am, al, av⟩ := hp _ ha
        obtain ⟨b, bm, bl, bv⟩ := hq _ hb
        rw [al] at bl
        cases bl
        rw [ih a.1 v1 v2 (hs.2.2.2 _ am).1 av bv e2]) h.2.1
      rw [this]
    | either rows =>
      simp only [S.ok] at hs
      obtain ⟨g1, a1, x1, rfl, am, al, av⟩ := val_either hv
      obtain ⟨g2, a2, x2, rfl, bm, bl, bv⟩ := val_either hw
      simp only [deq_tup, deq_str, Bool.and_eq_true, decide_eq_true_eq] at h
      obtain ⟨_, e1, e2, _⟩ := h
      subst e1
      rw [al] at bl
      cases bl
      rw [ih a1 x1 x2 (hs.2.2.2.2 _ am) av bv e2]
theorem ndOf_eq {k : Nat} {x : S} {a b : Option D} (hx : x.ok k) (ha : ∀ v, a = some v → isVal x v = true) (hb : ∀ v, b = some v → isVal x v = true) (h : D.eq (ndOf a) (ndOf b) = true) : a = b := by
  cases a with
  | none =>
    cases b with
    | none => rfl
    | some w => simp [ndOf] at h
  | some v =>
    cases b with
    | none => simp [ndOf] at h
    | some w =>
      simp [ndOf] at h
      rw [val_eq k x v w hx (ha v rfl) (hb w rfl) h]
theorem shape_eq : ∀ (k : Nat) (a b : S), a.ok k → b.ok k → D.eq a.d b.d = true → a = b
  | 0, a, b, h, _, _ => by simp [S.ok] at h
  | k + 1, a, b, ha, hb, h => by
    have ih := shape_eq k
    cases a <;> cases b <;> simp only [S.d_whole, S.d_word, S.d_truth, S.d_one, S.d_list, S.d_maybe, S.d_record, S.d_either, deq_tup, deq_str, ne_whole_word] at h
    all_goals simp at h
    case whole.whole => simp [h]
    case word.word => simp [h]
    case truth.truth => rfl
    case one.one a b =>
      have := deq_all (f := D.str) (l := a) (m := b) (fun x _ y _ e => by simpa using e) h
      rw [this]
    case list.list x m y n =>
      simp only [S.ok] at ha hb
      rw [ih x y ha.2.2 hb.2.2 h.1, h.2]
    case maybe.maybe x y =>
      simp only [S.ok] at ha hb
      rw [ih x y ha.2 hb.2 h]
    case record.record x y =>
      simp only [S.ok] at ha hb
      have := deq_all (f := fldD) (l := x) (m := y) (fun p hp q hq e => by
        obtain ⟨n1, s1, o1⟩ := p
        obtain ⟨n2, s2, o2⟩ := q
        simp only [fldD, deq_tup, deq_str, Bool.and_eq_true, decide_eq_true_eq] at e
        obtain ⟨e1, e2, e3, _⟩ := e
        have h1 := ha.2.2.2 _ hp
        have h2 := hb.2.2.2 _ hq
        have e4 : s1 = s2 := ih s1 s2 h1.1 h2.1 e2
        subst e4
        have e5 : o1 = o2 := ndOf_eq h1.1 h1.2 h2.2 e3
        rw [e1, e5]) h
      rw [this]
    case either.either x y =>
      simp only [S.ok] at ha hb
      have := deq_all (f := tagD) (l := x) (m := y) (fun p hp q hq e => by
        obtain ⟨n1, s1⟩ := p
        obtain ⟨n2, s2⟩ := q
        simp only [tagD, deq_tup, deq_str, Bool.and_eq_true, decide_eq_true_eq] at e
        obtain ⟨e1, e2, _⟩ := e
        rw [e1, ih s1 s2 (ha.2.2.2.2 _ hp) (hb.2.2.2.2 _ hq) e2]) h
      rw [this]
end SH

namespace SH
open PySem L2
theorem leRow_le (a b : D) : leRow a b = leS (rowKey a) (rowKey b) := by
  unfold leRow leS
  rw [PyProof.Rows.ltCps_eq]
  rw [Bool.eq_iff_iff]
  simp
theorem leRow_trans (a b c : D) (h : leRow a b = true) (g : leRow b c = true) : leRow a c = true := by
  rw [leRow_le] at *
  exact leS_trans h g
theorem leRow_total (a b : D) : (leRow a b || leRow b a) = true := by
  rw [leRow_le, leRow_le, Bool.or_eq_true]
  exact leS_total _ _
/-- rows sorted -/
theorem sort_rows {α : Type} (f : Str × α → D) (hk : ∀ r, rowKey (f r) = r.1) (hr : ∀ r, isRow (f r) = true) (st : Store) (rows : List (Str × α)) (hn : (rows.map (·.1)).Nodup) :
    ∃ rows' : List (Str × α), sortKeyD st (.lst (rows.map f)) = some (.lst (rows'.map f)) ∧ rows'.Perm rows ∧ Ris (rows'.map (·.1)) := by
  refine ⟨rows.mergeSort fun a b => leRow (f a) (f b), ?_, List.mergeSort_perm _ _, ?_⟩
  · unfold sortKeyD
    have : (rows.map f).all isRow = true := by
      rw [List.all_map]
      exact List.all_eq_true.mpr fun r _ => hr r
    dsimp only
    rw [if_pos this]
    congr 2
    exact (List.map_mergeSort (f := f) (l := rows) (r := fun a b => leRow (f a) (f b)) (s := leRow) (fun a _ b _ => rfl)).symm
  · have h1 : (rows.mergeSort fun a b => leRow (f a) (f b)).Pairwise fun a b => leRow (f a) (f b) = true := List.pairwise_mergeSort (le := fun a b => leRow (f a) (f b)) (fun a b c => leRow_trans (f a) (f b) (f c)) (fun a b => leRow_total (f a) (f b)) rows
    have h2 : ((rows.mergeSort fun a b => leRow (f a) (f b)).map (·.1)).Nodup := ((List.mergeSort_perm rows _).map _).nodup_iff.mpr hn
    refine List.pairwise_map.mpr ?_
    have h3 := List.pairwise_map.mp h2
    exact h1.imp₂ (fun a b h n => ltS_of (by rw [leRow_le, hk, hk] at h; exact h) n) h3
theorem key_tagD (r : Str × S) : rowKey (tagD r) = r.1 := rfl
theorem key_fldD (r : Fld) : rowKey (fldD r) = r.1 := rfl
theorem row_tagD (r : Str × S) : isRow (tagD r) = true := rfl
theorem row_fldD (r : Fld) : isRow (fldD r) = true := rfl
@[simp ↓] theorem z_sortKey {j : Nat} {q : Str} {P : Addr} {e : EM} {ρ : Env} {st : Store} {Q : D → Store → Prop} : @okZ _ (mSortKey j q P e ρ st) ⟨Q⟩ = @okZ _ (e ρ st) ⟨fun x st1 => st1[j]? = some (.tab q P) ∧ @onS _ (sortKeyD st1 x) ⟨fun d => Q d st1⟩⟩ := by
  refine z_bd fun x st1 => ?_
  cases h : st1[j]? with
  | none => simp [-okR_Z]
  | some o =>
    cases o with
    | lst l => simp [-okR_Z]
    | tab q' P' =>
      dsimp only
      by_cases h2 : q' = q ∧ P' = P
      · rw [if_pos h2, z_lift, h2.1, h2.2]
        simp
      · rw [if_neg h2]
        simp [-okR_Z]
        intro h3 h4
        exact absurd ⟨h3, h4⟩ h2
theorem eqD_sh {st : Store} {neg : Bool} {k : Nat} {a b : S} (ha : a.ok k) (hb : b.ok k) (hd : min a.d.py.depth b.d.py.depth ≤ 64) : eqD neg st a.d b.d = some (.bl (neg ^^ D.eq a.d b.d)) := by
  have ok : eqOk a.d b.d = true := by
    unfold eqOk
    rw [S.ok_plain ha, S.ok_plain hb]
    exact decide_eq_true hd
  unfold eqD
  rw [if_pos ok, ifn]
/-- how deep a thing is -/
theorem depth_all {l : List D} {m : Nat} (h : ∀ x ∈ l, x.py.depth ≤ m) : PyData.depthAll (D.pys l) ≤ m := by
  induction l with
  | nil => simp [D.pys, PyData.depthAll]
  | cons x r ih =>
    have h1 := h x (by simp)
    have h2 := ih fun y hy => h y (by simp [hy])
    simp only [D.pys, PyData.depthAll]
    omega
theorem depth_tup {l : List D} {m : Nat} (h : ∀ x ∈ l, x.py.depth ≤ m) : (D.tup l).py.depth ≤ m + 1 := by
  have := depth_all h
  simp only [D.py, PyData.depth]
  omega
theorem dp_str (z : Str) : (D.str z).py.depth ≤ 1 := by simp [D.py, PyData.depth]
theorem dp_int (z : Int) : (D.int z).py.depth ≤ 1 := by simp [D.py, PyData.depth]
theorem dp_bl (z : Bool) : (D.bl z).py.depth ≤ 1 := by simp [D.py, PyData.depth]
theorem dp_non : (D.non).py.depth ≤ 1 := by simp [D.py, PyData.depth]
theorem val_depth : ∀ (k : Nat) (s : S) (v : D), s.ok k → isVal s v = true → v.py.depth ≤ 3 * k
  | 0, s, v, hs, _ => by simp [S.ok] at hs
  | k + 1, s, v, hs, h => by
    have ih := val_depth k
    cases s with
    | whole lo hi => obtain ⟨i, rfl, _, _⟩ := within_eq (by simpa only [isVal] using h); exact Nat.le_trans (dp_int _) (by omega)
    | word n => cases v <;> first | exact Nat.le_trans (dp_str _) (by omega) | (simp [isVal] at h)
    | truth => cases v <;> first | exact Nat.le_trans (dp_bl _) (by omega) | (simp [isVal, tyBl] at h)
    | one ss => cases v <;> first | exact Nat.le_trans (dp_str _) (by omega) | (simp [isVal] at h)
    | list x n =>
      simp only [S.ok] at hs
      obtain ⟨l, rfl, hl, hv⟩ := val_list h
      refine Nat.le_trans (depth_tup (m := 3 * k + 1) fun y hy => ?_) (by omega)
      simp at hy
      rcases hy with rfl | rfl
      · simp [D.py, PyData.depth]
      · exact depth_tup fun y hy => ih x y hs.2.2 (hv y hy)
    | maybe x =>
      simp only [S.ok] at hs
      simp only [isVal, Bool.or_eq_true] at h
      rcases h with h | h
      · cases v <;> first | exact Nat.le_trans dp_non (by omega) | (simp [D.isNon] at h)
      · exact Nat.le_trans (ih x v hs.2 h) (by omega)
    | record rows =>
      simp only [S.ok] at hs
      obtain ⟨ps, rfl, _, hris, hv, _⟩ := val_pairs h
      refine Nat.le_trans (depth_tup (m := 3 * k + 2) fun y hy => ?_) (by omega)
      simp at hy
      rcases hy with rfl | rfl
      · simp [D.py, PyData.depth]
      · refine depth_tup (m := 3 * k + 1) fun y hy => ?_
        obtain ⟨p, hp, rfl⟩ := List.mem_map.mp hy
        obtain ⟨a, ha, _, hva⟩ := hv p hp
        refine depth_tup fun y hy => ?_
        simp at hy
        rcases hy with rfl | rfl
        · simp [D.py, PyData.depth]
        · exact ih a.1 p.2 (hs.2.2.2 _ ha).1 hva
    | either rows =>
      simp only [S.ok] at hs
      obtain ⟨g, a, x, rfl, ha, _, hv⟩ := val_either h
      refine Nat.le_trans (depth_tup (m := 3 * k + 1) fun y hy => ?_) (by omega)
      simp at hy
      rcases hy with rfl | rfl | rfl
      · simp [D.py, PyData.depth]
      · simp [D.py, PyData.depth]
      · exact Nat.le_trans (ih a y (hs.2.2.2.2 _ ha) hv) (by omega)
theorem S.depth : ∀ (k : Nat) (s : S), s.ok k → s.d.py.depth ≤ 5 * k
  | 0, s, hs => by simp [S.ok] at hs
  | k + 1, s, hs => by
    have ih := S.depth k
    have hstr : ∀ z : Str, (D.str z).py.depth ≤ 1 := fun z => by simp [D.py, PyData.depth]
    have hint : ∀ z : Int, (D.int z).py.depth ≤ 1 := fun z => by simp [D.py, PyData.depth]
    cases s with
    | whole lo hi => rw [S.d_whole]; exact Nat.le_trans (depth_tup (m := 1) fun y hy => by simp at hy; rcases hy with rfl | rfl | rfl <;> first | exact hstr _ | exact hint _) (by omega)
    | word n => rw [S.d_word]; exact Nat.le_trans (depth_tup (m := 1) fun y hy => by simp at hy; rcases hy with rfl | rfl <;> first | exact hstr _ | exact hint _) (by omega)
    | truth => rw [S.d_truth]; exact Nat.le_trans (depth_tup (m := 1) fun y hy => by simp at hy; subst hy; exact hstr _) (by omega)
    | one ss =>
      rw [S.d_one]
      refine Nat.le_trans (depth_tup (m := 2) fun y hy => ?_) (by omega)
      simp at hy
      rcases hy with rfl | rfl
      · exact Nat.le_trans (hstr _) (by omega)
      · refine depth_tup fun y hy => ?_
        obtain ⟨z, _, rfl⟩ := List.mem_map.mp hy
        exact hstr _
    | list x n =>
      simp only [S.ok] at hs
      rw [S.d_list]
      refine Nat.le_trans (depth_tup (m := 5 * k + 1) fun y hy => ?_) (by omega)
      simp at hy
      rcases hy with rfl | rfl | rfl
      · exact Nat.le_trans (hstr _) (by omega)
      · exact Nat.le_trans (ih x hs.2.2) (by omega)
      · exact Nat.le_trans (hint _) (by omega)
    | maybe x =>
      simp only [S.ok] at hs
      rw [S.d_maybe]
      refine Nat.le_trans (depth_tup (m := 5 * k + 1) fun y hy => ?_) (by omega)
      simp at hy
      rcases hy with rfl | rfl
      · exact Nat.le_trans (hstr _) (by omega)
      · exact Nat.le_trans (ih x hs.2) (by omega)
    | record rows =>
      simp only [S.ok] at hs
      rw [S.d_record]
      refine Nat.le_trans (depth_tup (m := 5 * k + 4) fun y hy => ?_) (by omega)
      simp at hy
      rcases hy with rfl | rfl
      · exact Nat.le_trans (hstr _) (by omega)
      · refine depth_tup (m := 5 * k + 3) fun y hy => ?_
        obtain ⟨r, hr, rfl⟩ := List.mem_map.mp hy
        have h2 := hs.2.2.2 r hr
        refine depth_tup (m := 5 * k + 2) fun y hy => ?_
        simp at hy
        rcases hy with rfl | rfl | rfl
        · exact Nat.le_trans (hstr _) (by omega)
        · exact Nat.le_trans (ih _ h2.1) (by omega)
        · cases hn : r.2.2 with
          | none => exact Nat.le_trans (depth_tup (m := 1) fun y hy => by simp at hy; subst hy; exact hstr _) (by omega)
          | some v =>
            refine depth_tup (m := 5 * k + 1) fun y hy => ?_
            simp at hy
            rcases hy with rfl | rfl
            · exact Nat.le_trans (hstr _) (by omega)
            · exact Nat.le_trans (val_depth k _ _ h2.1 (h2.2 _ hn)) (by omega)
    | either rows =>
      simp only [S.ok] at hs
      rw [S.d_either]
      refine Nat.le_trans (depth_tup (m := 5 * k + 4) fun y hy => ?_) (by omega)
      simp at hy
      rcases hy with rfl | rfl
      · exact Nat.le_trans (hstr _) (by omega)
      · refine depth_tup (m := 5 * k + 3) fun y hy => ?_
        obtain ⟨r, hr, rfl⟩ := List.mem_map.mp hy
        refine depth_tup (m := 5 * k + 2) fun y hy => ?_
        simp at hy
        rcases hy with rfl | rfl
        · exact Nat.le_trans (hstr _) (by omega)
        · exact Nat.le_trans (ih _ (hs.2.2.2.2 r hr)) (by omega)
end SH

namespace SH
open PySem L2
section
variable {pa : Nat → Addr} {n : Nat} {st : Store} {d e : D}
theorem lw_leaf {k : Nat} {s : S} (hs : s.isLeaf = true) (hk : s.ok k) (h : d.nar = true) : callT (T pa) (n + 3) ix__law_is_value [s.d, d] st = .ok (.bl (isVal s d)) st := by
  apply okR.eq
  have hp := D.nar_plain h
  refine z_run (fn := ⟨2, 9, false, b__law_is_value⟩) rfl rfl ?_
  cases k with
  | zero => simp [S.ok] at hk
  | succ k =>
  cases s with
  | whole lo hi => simp [S.d_whole, ↓b__law_is_value, startE, l_from hp, isVal]
  | word m =>
    simp only [S.ok] at hk
    simp [S.d_word, ↓b__law_is_value, startE, eqD_s hp]
    cases d with
    | str s =>
      have hw : isVal (.word m) (.str s) = _ := (by simp only [isVal] : isVal (.word m) (.str s) = (lettersS s && decide ((s.length : Int) ≤ m))).trans (word_eq (s := s) hk.1 hk.2).symm
      have hn := l_is_name (pa := pa) (n := n + 1) (st := st) (d := .str (cutS s none (some 1))) rfl
      by_cases h0 : s = ""
      · subst h0
        simp [hw]
      · simp [h0, slD, hn, isName]
        cases hc : nameS (cutS s none (some 1)) <;> simp [l_letters, hw, h0, hc]
    | _ => simp [strIs, isi_str hp, tyStr, isVal]
  | truth => simp [S.d_truth, ↓b__law_is_value, startE, isi_bl hp, isVal]
  | one ss =>
    simp [S.d_one, ↓b__law_is_value, startE, isi_str hp, isVal]
    cases d <;> simp [tyStr, inD_strs, isVal]
  | _ => cases hs
/-- the law's reading of values at depth k, with m calls -/
def LvAt (pa : Nat → Addr) (st : Store) (m k : Nat) : Prop := ∀ (s : S) (d : D), s.ok k → s.d.plain = true → d.nar = true → callT (T pa) m ix__law_is_value [s.d, d] st = .ok (.bl (isVal s d)) st
theorem lw_maybe {k : Nat} {x : S} (ih : LvAt pa st n k) (hx : x.ok k) (hp : x.d.plain = true) (h : d.nar = true) : callT (T pa) (n + 1) ix__law_is_value [(S.maybe x).d, d] st = .ok (.bl (isVal (.maybe x) d)) st := by
  apply okR.eq
  refine z_run (fn := ⟨2, 9, false, b__law_is_value⟩) rfl rfl ?_
  simp [S.d_maybe, ↓b__law_is_value, startE]
  cases hn : d.isNon <;> simp [ih x d hx hp h, isVal, hn]
/-- what is told of forms that are wrong -/
theorem lw_bad {k : Nat} {s : S} {w : Str} {r : List D} (hs : s.d = .tup (.str w :: r)) (hw : w ≠ "whole" ∧ w ≠ "word" ∧ w ≠ "truth" ∧ w ≠ "one" ∧ w ≠ "maybe") (h : d.nar = true)
    (hb : ∀ y l, d ≠ .tup (.str w :: y :: l)) : callT (T pa) (n + 1) ix__law_is_value [s.d, d] st = .ok (.bl false) st := by
  apply okR.eq
  have hp := D.nar_plain h
  refine z_run (fn := ⟨2, 9, false, b__law_is_value⟩) rfl rfl ?_
  simp [hs, ↓b__law_is_value, startE, hw.1, hw.2.1, hw.2.2.1, hw.2.2.2.1, hw.2.2.2.2]
  cases d with
  | tup l =>
    match l, hb, hp with
    | [], _, _ => simp
    | [a], _, _ => simp
    | a :: y :: l, hb, hp =>
      have ha : a.plain = true := plain_tup hp a (by simp)
      have h2 : ¬ ((l.length : Int) + 1 + 1 < 2) := by omega
      simp [h2]
      cases a <;> first | (simp [D.plain] at ha; done) | simp
      rename_i t
      by_cases ht : t = w
      · subst ht
        exact absurd rfl (hb y l)
      · simp [ht]
  | _ => first | simp | (simp [D.plain] at hp)
theorem lw_list {k : Nat} {x : S} {c : Int} (ih : LvAt pa st n k) (hx : x.ok k) (hp : x.d.plain = true) (h : d.nar = true) : callT (T pa) (n + 1) ix__law_is_value [(S.list x c).d, d] st = .ok (.bl (isVal (.list x c) d)) st := by
  by_cases hf : ∃ y l, d = .tup (.str "list" :: y :: l)
  · obtain ⟨y, l, rfl⟩ := hf
    apply okR.eq
    refine z_run (fn := ⟨2, 9, false, b__law_is_value⟩) rfl rfl ?_
    have h2 : ¬ ((l.length : Int) + 1 + 1 < 2) := by omega
    have hy : y.nar = true := nar_mem h (by simp)
    simp [S.d_list, ↓b__law_is_value, startE, h2]
    cases l with
    | cons a l =>
      have h3 : ¬ ((l.length : Int) + 1 + 1 + 1 = 2) := by omega
      simp [h3, isVal]
    | nil =>
      simp [isi_tup (D.nar_plain hy)]
      cases y with
      | tup m =>
        simp
        by_cases hc : (m.length : Int) ≤ c
        · simp [hc]
          refine w_comp (xs := m) (fun x => x) (fun y => .bl (isVal x y)) (by simp [elems]) (fun y hy' => ⟨_, set_nm, ?_⟩) ?_
          · simp [wipeE, ih x y hx hp (nar_mem hy hy')]
          · simp [hc, isVal]
        · simp [hc, isVal]
      | _ => simp [tyTup, isVal]
  · rw [lw_bad (k := k) S.d_list ⟨by simp, by simp, by simp, by simp, by simp⟩ h fun y l e => hf ⟨y, l, e⟩]
    congr 2
    cases hv : isVal (.list x c) d with
    | false => rfl
    | true =>
      simp only [isVal] at hv
      split at hv
      · rename_i t l
        simp only [Bool.and_eq_true] at hv
        rw [strIs_eq hv.1] at hf
        exact absurd ⟨_, _, rfl⟩ hf
      · cases hv
theorem lw_either {k : Nat} {rows : List (Str × S)} (ih : LvAt pa st n k) (hr : ∀ r ∈ rows, r.2.ok k) (hp : (S.either rows).d.plain = true) (h : d.nar = true) :
    callT (T pa) (n + 1) ix__law_is_value [(S.either rows).d, d] st = .ok (.bl (isVal (.either rows) d)) st := by
  have hpr := plain_tags hp
  by_cases hf : ∃ y l, d = .tup (.str "either" :: y :: l)
  · obtain ⟨y, l, rfl⟩ := hf
    apply okR.eq
    refine z_run (fn := ⟨2, 9, false, b__law_is_value⟩) rfl rfl ?_
    have h2 : ¬ ((l.length : Int) + 1 + 1 < 2) := by omega
    have hy : y.nar = true := nar_mem h (by simp)
    simp [S.d_either, ↓b__law_is_value, startE, h2]
    by_cases hs : ∃ g, y = .str g
    · obtain ⟨g, rfl⟩ := hs
      refine w_compIf (xs := rows) tagD tagD (fun r => decide (r.1 = g)) (by simp [elems]) (fun r hm => ⟨_, set_nm, ?_, fun _ => ?_⟩) ?_
      · simp [wipeE, tagD]
      · simp [wipeE]
      · match l with
        | [] => simp [isVal]
        | a :: b :: l =>
          have h3 : ¬ ((l.length : Int) + 1 + 1 + 1 + 1 = 3) := by omega
          simp [h3, isVal]
        | [x] =>
          have hx : x.nar = true := nar_mem h (by simp)
          have hpl : D.plains ((rows.filter fun r => decide (r.1 = g)).map tagD) = true := plains_of fun z hz => by
            obtain ⟨q, hq, rfl⟩ := List.mem_map.mp hz
            exact (hpr q (List.mem_filter.mp hq).1).1
          simp [eqD_nil hpl, isVal, valE_lkp]
          have key : (rows.filter fun r => decide (r.1 = g)).head? = (lkp rows g).map fun a => (g, a) := by
            clear hpl hpr ih hr hp
            induction rows with
            | nil => rfl
            | cons r rs ih =>
              obtain ⟨n, a⟩ := r
              rw [lkp_cons]
              by_cases he : n = g
              · subst he; simp
              · simp [he]; simpa using ih
          cases hl : lkp rows g with
          | none =>
            rw [hl] at key
            simp only [Option.map_none, List.head?_eq_none_iff] at key
            simp [key, isVal, valE_lkp, hl]
          | some a =>
            rw [hl] at key
            cases hm : rows.filter fun r => decide (r.1 = g) with
            | nil => rw [hm] at key; cases key
            | cons q qs =>
              rw [hm] at key
              simp at key
              subst key
              have hm2 := lkp_mem hl
              simp [tagD, ih a x (hr _ hm2) (hpr _ hm2).2 hx, isVal, valE_lkp, hl]
    · have hy2 : tyStr y = false := by cases y <;> first | rfl | exact absurd ⟨_, rfl⟩ hs
      refine w_compIf (xs := rows) tagD tagD (fun r => false) (by simp [elems]) (fun r hm => ⟨_, set_nm, ?_, fun z => by cases z⟩) ?_
      · simp [wipeE, isi_str (D.nar_plain hy), hy2]
      · have e : isVal (.either rows) (.tup (.str "either" :: y :: l)) = false := by
          cases y <;> first | (exact absurd ⟨_, rfl⟩ hs) | (simp only [isVal])
        rw [e]
        by_cases h3 : ((l.length : Int) + 1 + 1 = 3)
        · have e0 : rows.filter (fun _ => false) = [] := by simp
          simp [h3, e0, eqD_nil (l := []) rfl]
        · simp [h3]
  · rw [lw_bad (k := k) S.d_either ⟨by simp, by simp, by simp, by simp, by simp⟩ h fun y l e => hf ⟨y, l, e⟩]
    congr 2
    cases hv : isVal (.either rows) d with
    | false => rfl
    | true =>
      simp only [isVal] at hv
      split at hv
      · rename_i t l
        simp only [Bool.and_eq_true] at hv
        rw [strIs_eq hv.1] at hf
        exact absurd ⟨_, _, rfl⟩ hf
      · cases hv
theorem fold_names (rows : List Fld) : rows.map (fun r => D.tup [.str r.1, r.2.1.d]) = rows.map fun r => D.tup [.str r.1, (fun a : S × Option D => a.1.d) r.2] := rfl
theorem lw_record {k : Nat} {rows : List Fld} (ih : LvAt pa st (n + 2) k) (hr : ∀ r ∈ rows, r.2.1.ok k) (hnd : (rows.map (·.1)).Nodup) (hp : (S.record rows).d.plain = true) (h : d.nar = true) :
    callT (T pa) (n + 3) ix__law_is_value [(S.record rows).d, d] st = .ok (.bl (isVal (.record rows) d)) st := by
  have hpr := plain_flds hp
  by_cases hf : ∃ y l, d = .tup (.str "record" :: y :: l)
  · obtain ⟨y, l, rfl⟩ := hf
    apply okR.eq
    refine z_run (fn := ⟨2, 9, false, b__law_is_value⟩) rfl rfl ?_
    have h2 : ¬ ((l.length : Int) + 1 + 1 < 2) := by omega
    have hy : y.nar = true := nar_mem h (by simp)
    have hr2 : callT (T pa) (n + 2) ix__law_rows_right [y, .int 0, .int 300, .int 2] st = .ok (.bl (arePairs y)) st := by
      rw [← areRows_pairs hy]
      exact l_rows_right (lo := 0) (hi := 300) (m := 2) hy (by decide)
    simp [S.d_record, ↓b__law_is_value, startE, h2]
    cases l with
    | cons a l =>
      have h3 : ¬ ((l.length : Int) + 1 + 1 + 1 = 2) := by omega
      simp [h3, isVal]
    | nil =>
      simp [isi_tup (D.nar_plain hy)]
      cases y with
      | tup prs =>
        simp [hr2]
        cases ha : arePairs (.tup prs) with
        | false => simp [isVal, ha]
        | true =>
          simp
          obtain ⟨ps, rfl⟩ := pairs_eq ha
          rw [arePairs_map] at ha
          have hpp : ∀ q ∈ ps, (prD q).nar = true ∧ q.2.nar = true := fun q hq => by
            have h1 := nar_mem hy (List.mem_map_of_mem (f := prD) hq)
            exact ⟨h1, nar_mem h1 (by simp)⟩
          refine w_comp (xs := rows) fldD (fun r => .tup [.str r.1, r.2.1.d]) (by simp [elems]) (fun r hm => ⟨_, set_nm, ?_⟩) ?_
          · simp [wipeE, fldD]
          · rw [fold_names]
            simp [dictD_rows (fun a : S × Option D => a.1.d) hnd]
            refine w_comp (xs := ps) prD (fun p => .bl ((lkp rows p.1).any fun a => isVal a.1 p.2)) (by simp [elems]) (fun q hm => ⟨_, by simp [prD, wipeE]; rfl, ?_⟩) ?_
            · simp [inD, hasK_rows]
              have hL := lkp_isSome (l := rows) (w := q.1)
              cases hl : lkp rows q.1 with
              | none =>
                rw [hl] at hL
                have : ¬ q.1 ∈ rows.map (·.1) := by simpa using hL
                simp [this]
              | some a =>
                rw [hl] at hL
                have : q.1 ∈ rows.map (·.1) := by simpa using hL
                have hm2 := lkp_mem hl
                simp [this, ixD, getK_rows (fun a : S × Option D => a.1.d), hl, ih a.1 q.2 (hr _ hm2) (hpr _ hm2).2.1 (hpp q hm).2]
            · simp
              cases hall : ps.all fun p => (lkp rows p.1).any fun a => isVal a.1 p.2 with
              | false => simp [isVal_record, ha, hall]
              | true =>
                simp
                refine w_comp (xs := ps) prD (fun p => .str p.1) (by simp [elems]) (fun q hm => ⟨_, by simp [prD, wipeE]; rfl, by simp⟩) ?_
                rw [show (ps.map fun p => D.str p.1) = (ps.map (·.1)).map D.str by rw [List.map_map]; rfl]
                rw [isVal_record, ha, hall]
                generalize ps.map (·.1) = nms
                simp
                refine w_compIf (xs := rows) fldD (fun r => .bl (decide (r.1 ∈ nms))) (fun r => r.2.2.isNone) (by simp [elems]) (fun r hm => ⟨_, set_nm, ?_, fun _ => ?_⟩) ?_
                · simp [wipeE, fldD, isMust_nd (hpr _ hm).2.2]
                · simp [wipeE, fldD, inD_strsl]
                · have e9 : ((rows.filter fun r => r.2.2.isNone).all fun x => decide (x.1 ∈ nms)) = rows.all fun r => r.2.2.isSome || decide (r.1 ∈ nms) := by
                    rw [List.all_filter]
                    congr 1
                    funext r
                    cases r.2.2 <;> simp
                  rw [← e9]
                  simp
      | _ => simp [tyTup, isVal]
  · rw [lw_bad (k := k) S.d_record ⟨by simp, by simp, by simp, by simp, by simp⟩ h fun y l e => hf ⟨y, l, e⟩]
    congr 2
    cases hv : isVal (.record rows) d with
    | false => rfl
    | true =>
      simp only [isVal] at hv
      split at hv
      · rename_i t l
        simp only [Bool.and_eq_true] at hv
        rw [strIs_eq hv.1] at hf
        exact absurd ⟨_, _, rfl⟩ hf
      · cases hv
/-- the law's reading of values -/
theorem l_is_value : ∀ (k n : Nat), k + 3 ≤ n → LvAt pa st n k
  | 0, n, _ => fun s d hs => by simp [S.ok] at hs
  | k + 1, n, hn => fun s d hs hp h => by
    obtain ⟨m, rfl⟩ : ∃ m, n = m + 3 := ⟨n - 3, by omega⟩
    have ih : LvAt pa st (m + 2) k := l_is_value k (m + 2) (by omega)
    have hs0 := hs
    cases s with
    | list x c => simp only [S.ok] at hs; exact lw_list ih hs.2.2 (by rw [S.d_list] at hp; exact plain_tup hp x.d (by simp)) h
    | maybe x => simp only [S.ok] at hs; exact lw_maybe ih hs.2 (by rw [S.d_maybe] at hp; exact plain_tup hp x.d (by simp)) h
    | record rows => simp only [S.ok] at hs; exact lw_record ih (fun r hr => (hs.2.2.2 r hr).1) (rises_iff.mp hs.2.2.1).nodup hp h
    | either rows => simp only [S.ok] at hs; exact lw_either ih (fun r hr => hs.2.2.2.2 r hr) hp h
    | _ => exact lw_leaf (n := m) rfl hs0 h
end
end SH

namespace SH
open PySem L2
section
variable {pa : Nat → Addr} {n : Nat} {st : Store} {d e : D} {B : Bg} {c : Nat} {m : Int}
theorem ix_pick (c : Nat) : L2.atI (B.ps.map D.int) ((c : Int) % 400) = some (.int (B.pk c)) := by
  have h : c % 400 < B.ps.length := by rw [B.len]; omega
  have e : ((c : Int) % 400) = ((c % 400 : Nat) : Int) := by omega
  rw [e]
  unfold L2.atI L2.ixN
  have h2 : ((c % 400 : Nat) : Int) < ((B.ps.map D.int).length : Nat) := by rw [List.length_map]; omega
  rw [if_pos (by omega), if_pos h2]
  simp only [Int.toNat_natCast, Option.bind_some]
  rw [List.getElem?_map, List.getElem?_eq_getElem h]
  unfold Bg.pk
  rw [List.getD_eq_getElem?_getD, List.getElem?_eq_getElem h]
  rfl
theorem l_take (hm : 0 < m) : callT (T pa) (n + 1) ix__law_take [.ref B.b, .int m] (B.at c) = .ok (.int (B.tk c m)) (B.at (c + 1)) := by
  apply okR.eq
  refine z_run (fn := ⟨2, 2, false, b__law_take⟩) rfl rfl ?_
  have e1 : ((c : Int) + 1) = ((c + 1 : Nat) : Int) := by omega
  have e2 := ix_pick (B := B) (c + 1)
  have e3 : B.ps.length = 400 := B.len
  have e4 : L2.ixN 2 1 = some 1 := rfl
  have e5 : (((c + 1 : Nat) : Int) % 400) = ((c : Int) + 1) % 400 := by omega
  rw [e5] at e2
  simp [↓b__law_take, startE, ixD, e4, hm, e3, e2, Bg.tk]
theorem l_cell_at {ns : List Int} {i : Nat} : ∃ z : Int, callT (T pa) (n + 1) ix__law_cell_at [.scr ns, .int i] st = .ok (.int z) st ∧ (z ∈ ns ∨ z = 0) := by
  by_cases h : i < ns.length
  · refine ⟨ns[i], ?_, .inl (List.getElem_mem h)⟩
    apply okR.eq
    refine z_run (fn := ⟨2, 2, false, b__law_cell_at⟩) rfl rfl ?_
    have e : L2.atI ns (i : Int) = some ns[i] := by
      unfold L2.atI L2.ixN
      have : (i : Int) < (ns.length : Nat) := by omega
      rw [if_pos (by omega), if_pos this]
      simp [h]
    simp [↓b__law_cell_at, startE, lenD, h, ixD, e]
  · refine ⟨0, ?_, .inr rfl⟩
    apply okR.eq
    refine z_run (fn := ⟨2, 2, false, b__law_cell_at⟩) rfl rfl ?_
    simp [↓b__law_cell_at, startE, lenD, h]
def P61 : Int := 2305843009213693951
def DrawI (cell : Int) (st : Store) (i : Nat) (ρ : Env) (s : Store) : Prop := s = st ∧ ∃ (ps : List Int) (a b : Int) (k : Option D), ρ = [some (.int cell), some (.int 400), some (.int 1000), some (.lst (ps.map D.int)), some (.int a), some (.int b), k] ∧ 0 ≤ b ∧ b < 2305843009213693951 ∧ ps.length = i - 3 ∧ ∀ p ∈ ps, 0 ≤ p ∧ p < 1000
theorem l_draws {cell : Int} : ∃ ps : List Int, callT (T pa) (n + 1) ix__law_draws [.int cell, .int 400, .int 1000] st = .ok (.lst (ps.map D.int)) st ∧ ps.length = 400 ∧ ∀ p ∈ ps, 0 ≤ p ∧ p < 1000 := by
  have key : okR (callT (T pa) (n + 1) ix__law_draws [.int cell, .int 400, .int 1000] st) fun d s => s = st ∧ ∃ ps : List Int, d = .lst (ps.map D.int) ∧ ps.length = 400 ∧ ∀ p ∈ ps, 0 ≤ p ∧ p < 1000 := by
    refine z_run (fn := ⟨3, 7, false, b__law_draws⟩) rfl rfl ?_
    have hm1 : mulD st (.int cell) (.int (if 1000000000000000000 ≤ cell then 1 else 0)) = some (.int (cell * (if 1000000000000000000 ≤ cell then 1 else 0))) := by split <;> simp [mulD, smallI]
    have hm2 : ∀ z : Int, 0 ≤ z → z < 2305843009213693951 → mulD st (.int z) (.int z) = some (.int (z * z)) := fun z h1 h2 => by
      have : smallI z = true := by simp [smallI]; omega
      simp [mulD, this]
    have hm3 : ∀ z : Int, mulD st (.int 48271) (.int z) = some (.int (48271 * z)) := fun z => by simp [mulD, smallI]
    have e9 : sizeLine = 16777216 := rfl
    simp [↓b__law_draws, startE, hm1]
    refine z_to (w_forI (st1 := st) (xs := rangeL 403) (DrawI cell st) ?_ ?_ ?_ ?_)
    · simp [e9]
    · exact ⟨rfl, [], _, _, none, rfl, Int.emod_nonneg _ (by decide), Int.emod_lt_of_pos _ (by decide), rfl, by simp⟩
    · rintro j x hx ρ s ⟨rfl, ps, a, b, k, rfl, hb0, hb1, hl, hps⟩
      have hj : x = .int j ∧ j < 403 := by
        unfold rangeL at hx
        rw [List.getElem?_map] at hx
        by_cases h : j < 403
        · rw [List.getElem?_range h] at hx
          exact ⟨by simpa using hx.symm, h⟩
        · rw [List.getElem?_eq_none (by simp; omega)] at hx
          cases hx
      obtain ⟨rfl, hj⟩ := hj
      refine ⟨_, set_nm, ?_⟩
      have hsl : ps.length < 16777216 := by omega
      simp [hm2 b hb0 hb1, hm3]
      generalize hb2 : (b * b + 48271 * b + (j : Int) + 1) % 2305843009213693951 = b2
      have hb3 : 0 ≤ b2 := by rw [← hb2]; exact Int.emod_nonneg _ (by decide)
      have hb4 : b2 < 2305843009213693951 := by rw [← hb2]; exact Int.emod_lt_of_pos _ (by decide)
      have hsnoc : ∀ z : Int, ps.map D.int ++ [.int z] = (ps ++ [z]).map D.int := fun z => by simp
      have hbd : ∀ z : Int, 0 ≤ z % 1000 ∧ z % 1000 < 1000 := fun z => ⟨Int.emod_nonneg _ (by decide), Int.emod_lt_of_pos _ (by decide)⟩
      have hin : ∀ z : Int, ∀ p ∈ ps ++ [z % 1000], 0 ≤ p ∧ p < 1000 := fun z p hp => by
        rcases List.mem_append.mp hp with hp | hp
        · exact hps p hp
        · rw [List.mem_singleton.mp hp]
          exact hbd z
      by_cases h2 : 2 < (j : Int)
      · simp [h2]
        by_cases ha : 0 < a
        · simp [ha, e9, hsl]
          refine ⟨rfl, ps ++ [a % 1000], a / 1000, b2, some (.int j), ?_, hb3, hb4, ?_, hin a⟩
          · rw [← hsnoc]
          · rw [List.length_append]; simp only [List.length_singleton]; omega
        · simp [ha, h2, e9, hsl]
          refine ⟨rfl, ps ++ [b2 / 4096 % 1000], a, b2, some (.int j), ?_, hb3, hb4, ?_, hin _⟩
          · rw [← hsnoc]
          · rw [List.length_append]; simp only [List.length_singleton]; omega
      · simp [h2]
        exact ⟨rfl, ps, a, b2, some (.int j), rfl, hb3, hb4, by omega, hps⟩
    · rintro ρ' s ⟨rfl, ps, a, b, k, rfl, _, _, hl, hps⟩
      simp
      refine ⟨ps, rfl, ?_, hps⟩
      rw [hl]
      simp [rangeL]
  obtain ⟨d, s, e, rfl, ps, rfl, h1, h2⟩ := key
  exact ⟨ps, e, h1, h2⟩
end
end SH

namespace SH
open PySem L2
section
variable {pa : Nat → Addr} {n : Nat} {st : Store} {d e : D} {B : Bg} {c : Nat} {m : Int}
theorem l_bag {ns : List Int} {i : Nat} : ∃ ps : List Int, callT (T pa) (n + 2) ix__law_bag [.scr ns, .int i] st = .ok (.ref st.length) (st ++ [.lst [.lst (ps.map D.int), .int 0]]) ∧ ps.length = 400 ∧ ∀ p ∈ ps, 0 ≤ p ∧ p < 1000 := by
  obtain ⟨z, e1, _⟩ := l_cell_at (pa := pa) (n := n) (st := st) (ns := ns) (i := i)
  obtain ⟨ps, e2, h1, h2⟩ := l_draws (pa := pa) (n := n) (st := st) (cell := z)
  refine ⟨ps, ?_, h1, h2⟩
  apply okR.eq
  refine z_run (fn := ⟨2, 2, false, b__law_bag⟩) rfl rfl ?_
  simp [↓b__law_bag, startE, e1, e2]
/-- a bag at b -/
def BagIn (b : Nat) (st : Store) : Prop := ∃ (ps : List Int) (c : Nat), st[b]? = some (.lst [.lst (ps.map D.int), .int c]) ∧ ps.length = 400 ∧ ∀ p ∈ ps, 0 ≤ p ∧ p < 1000
theorem BagIn.at {b : Nat} (h : BagIn b st) : ∃ (B : Bg) (c : Nat), B.b = b ∧ B.st = st ∧ st = B.at c := by
  obtain ⟨ps, c, e, h1, h2⟩ := h
  have hlt := (List.getElem?_eq_some_iff.mp e).1
  refine ⟨⟨st, b, ps, hlt, h1, h2⟩, c, rfl, rfl, ?_⟩
  unfold Bg.at
  have := (List.getElem?_eq_some_iff.mp e).2
  rw [← this, List.set_getElem_self]
theorem Bg.bagIn : BagIn B.b (B.at c) := ⟨B.ps, c, B.get, B.len, B.bd⟩
theorem Bg.bagOther {b : Nat} (h : BagIn b B.st) (hb : b ≠ B.b) : BagIn b (B.at c) := by
  obtain ⟨ps, c2, e, h1, h2⟩ := h
  exact ⟨ps, c2, by rw [Bg.other hb]; exact e, h1, h2⟩
theorem Bg.len_at : (B.at c).length = B.st.length := by unfold Bg.at; simp
theorem BagIn.snoc {b : Nat} {o : O} (h : BagIn b st) : BagIn b (st ++ [o]) := by
  obtain ⟨ps, c, e, h1, h2⟩ := h
  exact ⟨ps, c, by rw [List.getElem?_append_left (List.getElem?_eq_some_iff.mp e).1]; exact e, h1, h2⟩
/-- the bags of the first cells -/
def BagsI (st : Store) (i : Nat) (s : Store) : Prop := s.length = st.length + i ∧ (∀ j < st.length, s[j]? = st[j]?) ∧ ∀ b, st.length ≤ b → b < st.length + i → BagIn b s
theorem bagsI_snoc {i : Nat} {s : Store} {ps : List Int} {z : Nat} (h : BagsI st i s) (h1 : ps.length = 400) (h2 : ∀ p ∈ ps, 0 ≤ p ∧ p < 1000) : BagsI st (i + 1) (s ++ [.lst [.lst (ps.map D.int), .int z]]) := by
  obtain ⟨g1, g2, g3⟩ := h
  refine ⟨by simp; omega, fun j hj => ?_, fun b hb hb2 => ?_⟩
  · rw [List.getElem?_append_left (by omega)]
    exact g2 j hj
  · by_cases hlt : b < st.length + i
    · exact (g3 b hb hlt).snoc
    · have e : b = s.length := by omega
      subst e
      exact ⟨ps, z, by simp, h1, h2⟩
theorem bags_go {ns : List Int} {ρ : Env} (hρ : ∀ x, ∃ y, ρ.set 2 (some x) = [some (.scr ns), y, some x]) : ∀ (xs : List Nat) (i : Nat) (s : Store), BagsI st i s →
    okR (compGo (mCall (callT (T pa) (n + 2)) ix__law_bag [(mVar 0), (mVar 2)]) (.nm 2) (mLit (.bl true)) ρ (xs.map fun j => D.int (j : Nat)) s) fun ds s' => BagsI st (i + xs.length) s' ∧ ds = (List.range' (st.length + i) xs.length).map D.ref
  | [], i, s, h => by
    rw [show compGo (mCall (callT (T pa) (n + 2)) ix__law_bag [(mVar 0), (mVar 2)]) (.nm 2) (mLit (.bl true)) ρ (([] : List Nat).map fun j => D.int (j : Nat)) s = .ok [] s from rfl, okR_ok]
    exact ⟨h, rfl⟩
  | x :: r, i, s, h => by
    obtain ⟨ps, e, h1, h2⟩ := l_bag (pa := pa) (n := n) (st := s) (ns := ns) (i := x)
    have ih := bags_go hρ r (i + 1) _ (bagsI_snoc (z := 0) h h1 h2)
    rw [List.map_cons]
    unfold compGo
    rw [set_nm, onO_some, show mLit (.bl true) (ρ.set 2 (some (.int (x : Nat)))) s = .ok (.bl true) s from rfl, R.bind_ok, onB_true]
    obtain ⟨y, hy⟩ := hρ (.int (x : Nat))
    rw [hy]
    have e2 : mCall (callT (T pa) (n + 2)) ix__law_bag [(mVar 0), (mVar 2)] [some (.scr ns), y, some (.int (x : Nat))] s = .ok (.ref s.length) (s ++ [.lst [.lst (ps.map D.int), .int 0]]) := by
      apply okR.eq
      simp [e]
    rw [e2, R.bind_ok, okR_bind]
    refine ih.mono fun ds s' hq => ?_
    rw [okR_ok]
    obtain ⟨q1, q2⟩ := hq
    refine ⟨by rw [List.length_cons, show i + (r.length + 1) = i + 1 + r.length by omega]; exact q1, ?_⟩
    rw [q2, List.length_cons, List.range'_succ, List.map_cons, h.1]
    rfl
theorem bagsI_zero : BagsI st 0 st := ⟨rfl, fun _ _ => rfl, fun b h1 h2 => absurd h2 (by omega)⟩
theorem l_bags {ns : List Int} {lim : Nat} (hl : ns.length ≤ 63) : ∃ (k : Nat) (st' : Store), callT (T pa) (n + 3) ix__law_bags [.scr ns, .int lim] st = .ok (.lst ((List.range' st.length k).map D.ref)) st' ∧ BagsI st k st' := by
  have key : okR (callT (T pa) (n + 3) ix__law_bags [.scr ns, .int lim] st) fun d s => ∃ k : Nat, d = .lst ((List.range' st.length k).map D.ref) ∧ BagsI st k s := by
    refine z_run (fn := ⟨2, 3, false, b__law_bags⟩) rfl rfl ?_
    have e9 : sizeLine = 16777216 := rfl
    have h1 : min2D st (.int lim) (.int ns.length) = some (.int (min lim ns.length : Nat)) := by
      simp only [min2D]
      congr 2
      split <;> omega
    have h2 : max2D st (.int 1) (.int (min lim ns.length : Nat)) = some (.int (max 1 (min lim ns.length) : Nat)) := by
      simp only [max2D]
      congr 2
      split <;> omega
    have hk : max 1 (min lim ns.length) ≤ 63 := by omega
    generalize max 1 (min lim ns.length) = k at h2 hk
    generalize min lim ns.length = k0 at h1 h2
    have hit : iRange (mOp2 max2D (mLit (.int 1)) (mOp2 min2D (mVar 1) (mOp1 lenD (mVar 0)))) [some (.scr ns), some (.int lim), none] st = .ok ((List.range k).map fun j => D.int (j : Nat)) st := by
      apply okR.eq
      simp [lenD, h1, h2, e9, -min_ii, -max_ii, rangeL]
      omega
    simp only [b__law_bags, startE]
    simp
    refine z_to ?_
    unfold mComp
    rw [hit, R.bind_ok, okR_bind]
    refine (bags_go (pa := pa) (n := n) (st := st) (ns := ns) (ρ := wipeE [some (.scr ns), some (.int lim), none] [2]) (fun x => ⟨_, rfl⟩) (List.range k) 0 st bagsI_zero).mono fun ds s hq => ?_
    obtain ⟨q1, rfl⟩ := hq
    rw [okR_ok]
    simp only [List.length_range, Nat.zero_add, Nat.add_zero] at q1 ⊢
    exact ⟨k, rfl, q1⟩
  obtain ⟨d, s, e, k, rfl, h⟩ := key
  exact ⟨k, s, e, h⟩
end
end SH

namespace SH
open PySem L2
theorem atI_in {α : Type} {l : List α} {i : Int} (h0 : 0 ≤ i) (h1 : i < l.length) : ∃ a ∈ l, L2.atI l i = some a := by
  have hl : i.toNat < l.length := by omega
  refine ⟨l[i.toNat], List.getElem_mem hl, ?_⟩
  unfold L2.atI L2.ixN
  rw [if_pos h0, if_pos h1]
  simp [hl]
theorem atI_str {ss : List Str} {i : Int} (h0 : 0 ≤ i) (h1 : i < ss.length) : ∃ w ∈ ss, L2.atI (ss.map D.str) i = some (.str w) := by
  obtain ⟨a, ha, e⟩ := atI_in (l := ss.map D.str) h0 (by simpa using h1)
  obtain ⟨w, hw, rfl⟩ := List.mem_map.mp ha
  exact ⟨w, hw, e⟩
theorem keyStrs_map : ∀ ks : List Str, keyStrs (ks.map Sum.inr) = some ks
  | [] => rfl
  | k :: r => by simp [keyStrs, keyStrs_map r]
theorem dicPut_str {ks : List Str} {vs : List D} {w : Str} {d : D} : ∃ vs', dicPut (ks.map Sum.inr) vs (.inr w) d = .dic ((if w ∈ ks then ks else ks ++ [w]).map Sum.inr) vs' := by
  unfold dicPut
  by_cases h : w ∈ ks
  · have : hasK (.inr w) (ks.map Sum.inr) = true := hasK_iff.mpr (List.mem_map.mpr ⟨w, h, rfl⟩)
    rw [if_pos this, if_pos h]
    exact ⟨_, rfl⟩
  · have : ¬ hasK (.inr w) (ks.map Sum.inr) = true := fun e => by
      obtain ⟨z, hz, e⟩ := List.mem_map.mp (hasK_iff.mp e)
      cases e
      exact h hz
    rw [if_neg this, if_neg h]
    exact ⟨vs ++ [d], by simp⟩
section
variable {pa : Nat → Addr} {n : Nat} {st : Store} {d e : D} {B : Bg} {c : Nat} {m : Int}
def NamesI (B : Bg) (ss : List Str) (most : Nat) (i : Nat) (ρ : Env) (s : Store) : Prop := (∃ c, s = B.at c) ∧ ∃ (ks : List Str) (vs : List D) (x : Option D), ρ = [some (.ref B.b), some (.lst (ss.map D.str)), some (.int most), some (.dic (ks.map Sum.inr) vs), x] ∧ ks.Nodup ∧ (∀ k ∈ ks, k ∈ ss) ∧ ks ≠ [] ∧ ks.length ≤ i + 1
theorem rangeL_get {k j : Nat} {x : D} (h : (rangeL k)[j]? = some x) : x = .int j ∧ j < k := by
  unfold rangeL at h
  rw [List.getElem?_map] at h
  by_cases hj : j < k
  · rw [List.getElem?_range hj] at h
    exact ⟨by simpa using h.symm, hj⟩
  · rw [List.getElem?_eq_none (by simp; omega)] at h
    cases h
def NamesP (B : Bg) (ss : List Str) (most : Nat) (d : D) (s : Store) : Prop := (∃ c, s = B.at c) ∧ ∃ ns : List Str, d = .lst (ns.map D.str) ∧ Ris ns ∧ (∀ z ∈ ns, z ∈ ss) ∧ ns ≠ [] ∧ ns.length ≤ most
theorem l_names {ss : List Str} {most : Nat} (h0 : ss ≠ []) (hm : 1 ≤ most) (hm2 : most ≤ 60) : okR (callT (T pa) (n + 2) ix__law_names [.ref B.b, .lst (ss.map D.str), .int most] (B.at c)) (NamesP B ss most) := by
  refine z_run (fn := ⟨3, 5, false, b__law_names⟩) rfl rfl ?_
  have e9 : sizeLine = 16777216 := rfl
  have hl : 0 < (ss.length : Int) := by
    cases ss with
    | nil => exact absurd rfl h0
    | cons _ _ => simp
  have hmost : 0 < (most : Int) := by omega
  have get : ∀ c, ∃ w ∈ ss, L2.atI (ss.map D.str) (B.tk c ss.length) = some (.str w) := fun c => atI_str (B.tk_nn hl) (B.tk_lt hl)
  obtain ⟨w, hw, ew⟩ := get c
  have em : mergeP [((.inr w : Key), D.bl true)] = ([.inr w], [.bl true]) := by rw [merge_nodup (by simp)]; rfl
  simp only [b__law_names, startE]
  simp [l_take hl, l_take hmost, ew, keyD, em]
  have hk1 := B.tk_nn (c := c + 1) hmost
  have hk2 := B.tk_lt (c := c + 1) hmost
  refine z_to (w_forI (st1 := B.at (c + 1 + 1)) (xs := rangeL (B.tk (c + 1) most).toNat) (NamesI B ss most) ?_ ?_ ?_ ?_)
  · simp [l_take hmost, e9]
    omega
  · exact ⟨⟨_, rfl⟩, [w], [.bl true], none, rfl, by simp, by simpa using hw, by simp, by simp⟩
  · rintro j x hx ρ s ⟨⟨c, rfl⟩, ks, vs, y, rfl, hnd, hsub, hne, hlen⟩
    obtain ⟨rfl, hj⟩ := rangeL_get hx
    refine ⟨_, set_nm, ?_⟩
    obtain ⟨w, hw, ew⟩ := get c
    obtain ⟨vs', ep⟩ := dicPut_str (ks := ks) (vs := vs) (w := w) (d := .bl true)
    have hks : ks.length < 16777216 := by omega
    simp [l_take hl, ew, e9, hks, ep]
    refine ⟨⟨_, rfl⟩, _, vs', some (.int j), rfl, ?_, ?_, ?_, ?_⟩
    · split
      · exact hnd
      · rename_i hn
        exact List.nodup_append.mpr ⟨hnd, by simp, fun a ha b hb e => by
          rw [List.mem_singleton.mp hb] at e
          subst e
          exact hn ha⟩
    · intro k hk
      split at hk
      · exact hsub k hk
      · rcases List.mem_append.mp hk with hk | hk
        · exact hsub k hk
        · rw [List.mem_singleton.mp hk]; exact hw
    · split
      · exact hne
      · simp
    · split
      · omega
      · simp; omega
  · rintro ρ' s ⟨⟨c, rfl⟩, ks, vs, y, rfl, hnd, hsub, hne, hlen⟩
    have hlen2 : ks.length ≤ most := by
      have : (rangeL (B.tk (c + 1) most).toNat).length = (B.tk (c + 1) most).toNat := by simp [rangeL]
      simp only [rangeL, List.length_map, List.length_range] at hlen
      omega
    have h64 : ks.length < 64 := by omega
    simp [sortedD, keyStrs_map, h64]
    refine ⟨⟨_, rfl⟩, sortS ks, rfl, ris_sort hnd, fun z hz => hsub z ((sortS_perm ks).mem_iff.mp hz), fun e => ?_, ?_⟩
    · have := (sortS_perm ks).length_eq
      rw [e] at this
      exact hne (List.eq_nil_of_length_eq_zero this.symm)
    · rw [(sortS_perm ks).length_eq]
      exact hlen2
end
end SH

namespace SH
open PySem L2
section
variable {pa : Nat → Addr} {n : Nat} {st : Store} {d e : D} {B : Bg} {c : Nat} {m : Int}
/-- a shape, the bag somewhere -/
def ShP (B : Bg) (M : Int) (k : Nat) (d : D) (s : Store) : Prop := (∃ c, s = B.at c) ∧ ∃ sh : S, d = sh.d ∧ sh.nice M k
theorem onS_in {α : Type} {l : List α} {i : Int} {K : α → Prop} (h0 : 0 ≤ i) (h1 : i < l.length) (k : ∀ a ∈ l, K a) : @onS _ (L2.atI l i) ⟨K⟩ := by
  obtain ⟨a, ha, e⟩ := atI_in h0 h1
  rw [e]
  exact k a ha
theorem l_leaf {M : Int} : okR (callT (T pa) (n + 3) ix__law_leaf [.ref B.b] (B.at c)) (ShP B M 1) := by
  refine z_run (fn := ⟨1, 3, false, b__law_leaf⟩) rfl rfl ?_
  simp only [b__law_leaf, startE]
  have t5 : ∀ c, 0 ≤ B.tk c 5 ∧ B.tk c 5 < 5 := fun c => ⟨B.tk_nn (by decide), B.tk_lt (by decide)⟩
  have t9 : ∀ c, 0 ≤ B.tk c 9 ∧ B.tk c 9 < 9 := fun c => ⟨B.tk_nn (by decide), B.tk_lt (by decide)⟩
  have t8 : ∀ c, 0 ≤ B.tk c 8 ∧ B.tk c 8 < 8 := fun c => ⟨B.tk_nn (by decide), B.tk_lt (by decide)⟩
  have t30 : ∀ c, 0 ≤ B.tk c 30 ∧ B.tk c 30 < 30 := fun c => ⟨B.tk_nn (by decide), B.tk_lt (by decide)⟩
  have t3 : ∀ c, 0 ≤ B.tk c 3 ∧ B.tk c 3 < 3 := fun c => ⟨B.tk_nn (by decide), B.tk_lt (by decide)⟩
  simp [l_take]
  refine brB_dec (fun h2 => ?_) (fun h2 => ?_)
  · simp [l_take]
    refine onS_in (by have := t8 (c + 1 + 1); split <;> omega) (by have := t8 (c + 1 + 1); simp; try split <;> omega) fun a ha => ?_
    have ha' : ∃ z : Int, a = .int z ∧ -1000000000 ≤ z ∧ z ≤ 999999960 := by
      have := t9 (c + 1)
      simp at ha
      rcases ha with rfl | rfl | rfl | rfl
      · exact ⟨_, rfl, by decide, by decide⟩
      · exact ⟨_, rfl, by omega, by omega⟩
      · exact ⟨_, rfl, by decide, by decide⟩
      · exact ⟨_, rfl, by decide, by decide⟩
    obtain ⟨z, rfl, h3, h4⟩ := ha'
    simp [l_take]
    refine onS_in (t3 _).1 (by simpa using (t3 _).2) fun a ha => ?_
    have ha' : ∃ y : Int, a = .int y ∧ 0 ≤ y ∧ y ≤ 40 := by
      have := t30 (c + 1 + 1 + 1)
      simp at ha
      rcases ha with rfl | rfl | rfl
      · exact ⟨_, rfl, by decide, by decide⟩
      · exact ⟨_, rfl, by decide, by decide⟩
      · exact ⟨_, rfl, by omega, by omega⟩
    obtain ⟨y, rfl, h5, h6⟩ := ha'
    simp
    exact ⟨⟨_, rfl⟩, .whole z (z + y), S.d_whole.symm, by omega, by omega, by omega⟩
  · simp
    refine brB_dec (fun h3 => ?_) (fun h3 => ?_)
    · simp [l_take]
      refine onS_in (t5 _).1 (by simpa using (t5 _).2) fun a ha => ?_
      have ha' : ∃ y : Int, a = .int y ∧ 0 ≤ y ∧ y ≤ 20 := by
        simp at ha
        rcases ha with rfl | rfl | rfl | rfl | rfl <;> exact ⟨_, rfl, by decide, by decide⟩
      obtain ⟨y, rfl, h5, h6⟩ := ha'
      simp
      exact ⟨⟨_, rfl⟩, .word y, S.d_word.symm, h5, h6⟩
    · simp
      refine brB_dec (fun h4 => ?_) (fun h4 => ?_)
      · simp
        exact ⟨⟨_, rfl⟩, .truth, S.d_truth.symm, trivial⟩
      · simp
        refine z_mono (l_names (pa := pa) (n := n) (B := B) (c := c + 1) (ss := ["a", "b", "cc", "no", "yes", "zzzzzzzz"]) (most := 4) (by simp) (by decide) (by decide)) ?_
        rintro d s ⟨⟨c2, rfl⟩, ns, rfl, hr, hs, hn, _⟩
        simp
        exact ⟨⟨_, rfl⟩, .one ns, S.d_one.symm, hn, hr, fun z hz => by
          have := hs z hz
          simp at this
          simp [N1]
          grind⟩
/-- a value of sh, the bag somewhere -/
def VlP (B : Bg) (sh : S) (d : D) (s : Store) : Prop := (∃ c, s = B.at c) ∧ isVal sh d = true
def VlAt (pa : Nat → Addr) (B : Bg) (m k : Nat) : Prop := ∀ (sh : S) (c : Nat), sh.ok k → okR (callT (T pa) m ix__law_value [.ref B.b, sh.d] (B.at c)) (VlP B sh)
theorem g_whole {lo hi : Int} (h : lo ≤ hi) : okR (callT (T pa) (n + 2) ix__law_value [.ref B.b, (S.whole lo hi).d] (B.at c)) (VlP B (.whole lo hi)) := by
  refine z_run (fn := ⟨2, 9, false, b__law_value⟩) rfl rfl ?_
  simp only [b__law_value, startE]
  have hp : 0 < hi - lo + 1 := by omega
  have t3 : ∀ c, 0 ≤ B.tk c 3 ∧ B.tk c 3 < 3 := fun c => ⟨B.tk_nn (by decide), B.tk_lt (by decide)⟩
  have th : ∀ c, 0 ≤ B.tk c (hi - lo + 1) ∧ B.tk c (hi - lo + 1) < hi - lo + 1 := fun c => ⟨B.tk_nn hp, B.tk_lt hp⟩
  simp [S.d_whole, l_take, hp]
  refine onS_in (t3 _).1 (by simpa using (t3 _).2) fun a ha => ?_
  have ha' : ∃ z : Int, a = .int z ∧ lo ≤ z ∧ z ≤ hi := by
    have := th c
    simp at ha
    rcases ha with rfl | rfl | rfl
    · exact ⟨_, rfl, by omega, by omega⟩
    · exact ⟨_, rfl, by omega, by omega⟩
    · exact ⟨_, rfl, by omega, by omega⟩
  obtain ⟨z, rfl, h3, h4⟩ := ha'
  simp
  exact ⟨⟨_, rfl⟩, by simp [isVal, within, h3, h4]⟩
theorem g_word {w : Int} (h : 0 ≤ w) (h2 : w ≤ 20) : okR (callT (T pa) (n + 2) ix__law_value [.ref B.b, (S.word w).d] (B.at c)) (VlP B (.word w)) := by
  refine z_run (fn := ⟨2, 9, false, b__law_value⟩) rfl rfl ?_
  simp only [b__law_value, startE]
  have hp : 0 < w + 1 := by omega
  have e9 : sizeLine = 16777216 := rfl
  have th : ∀ c, 0 ≤ B.tk c (w + 1) ∧ B.tk c (w + 1) < w + 1 := fun c => ⟨B.tk_nn hp, B.tk_lt hp⟩
  simp [S.d_word, l_take, hp]
  refine z_to (w_compT (st1 := B.at (c + 1)) (xs := rangeL (B.tk c (w + 1)).toNat) (fun s => ∃ c, s = B.at c) (fun x d => ∃ ch, d = .str ⟨#[ch]⟩ ∧ ch ∈ abyz) ?_ ⟨_, rfl⟩ ?_ ?_)
  · have := th c
    simp [l_take, hp, e9]
    omega
  · rintro x _ s ⟨c, rfl⟩
    refine ⟨_, set_nm, ?_⟩
    have t4 : 0 ≤ B.tk c 4 ∧ B.tk c 4 < 4 := ⟨B.tk_nn (by decide), B.tk_lt (by decide)⟩
    obtain ⟨ch, hc, e⟩ := atI_in (l := ("abyz" : Str).cps.toList) t4.1 t4.2
    simp [wipeE, l_take, ixD]
    rw [show L2.atI ("abyz" : Str).cps.toList (B.tk c 4) = some ch from e]
    simp
    exact ⟨⟨_, rfl⟩, hc⟩
  · rintro ds s ⟨c2, rfl⟩ ha
    obtain ⟨cs, rfl, hcs⟩ := ha.map (g := fun ch => D.str ⟨#[ch]⟩) (R := fun _ ch => ch ∈ abyz)
    have hl : cs.length = (B.tk c (w + 1)).toNat := by rw [← hcs.length]; simp [rangeL]
    have := th c
    obtain ⟨s, e1, e2⟩ := join_word (cs := cs) (hcs.right fun _ _ h => h) (by omega)
    have e3 : joinD (B.at c2) (.str "") (.lst (cs.map fun ch => D.str ⟨#[ch]⟩)) = some (.str s) := by
      simp only [joinD]
      rw [dStrsF (fun ch => (⟨#[ch]⟩ : Str)) cs]
      exact e1
    simp [e3]
    refine ⟨⟨_, rfl⟩, ?_⟩
    have hlen : s.length = cs.length := by unfold Str.length; rw [← Array.length_toList, e2]
    have h1 : lettersS s = true := by
      unfold lettersS
      rw [e2]
      exact List.all_eq_true.mpr fun ch hc => decide_eq_true (abyz_ok ch (hcs.right (fun _ _ h => h) ch hc)).1
    simp [isVal, h1]
    omega
theorem g_truth : okR (callT (T pa) (n + 2) ix__law_value [.ref B.b, S.truth.d] (B.at c)) (VlP B .truth) := by
  refine z_run (fn := ⟨2, 9, false, b__law_value⟩) rfl rfl ?_
  simp only [b__law_value, startE]
  simp [S.d_truth, l_take]
  exact ⟨⟨_, rfl⟩, by simp [isVal, tyBl]⟩
theorem g_one {ss : List Str} (h : ss ≠ []) : okR (callT (T pa) (n + 2) ix__law_value [.ref B.b, (S.one ss).d] (B.at c)) (VlP B (.one ss)) := by
  refine z_run (fn := ⟨2, 9, false, b__law_value⟩) rfl rfl ?_
  simp only [b__law_value, startE]
  have hl : 0 < (ss.length : Int) := by
    cases ss with
    | nil => exact absurd rfl h
    | cons _ _ => simp
  obtain ⟨w, hw, e⟩ := atI_str (B.tk_nn (c := c) hl) (B.tk_lt hl)
  simp [S.d_one, l_take hl, e]
  exact ⟨⟨_, rfl⟩, by simp [isVal, hw]⟩
theorem g_maybe {k : Nat} {x : S} (ih : VlAt pa B (n + 1) k) (hx : x.ok k) : okR (callT (T pa) (n + 2) ix__law_value [.ref B.b, (S.maybe x).d] (B.at c)) (VlP B (.maybe x)) := by
  refine z_run (fn := ⟨2, 9, false, b__law_value⟩) rfl rfl ?_
  simp only [b__law_value, startE]
  simp [S.d_maybe, l_take]
  refine brB_dec (fun h => ?_) (fun h => ?_)
  · simp
    exact ⟨⟨_, rfl⟩, by simp [isVal, D.isNon]⟩
  · simp
    refine z_mono (ih x (c + 1) hx) ?_
    rintro d s ⟨⟨c2, rfl⟩, hv⟩
    simp
    exact ⟨⟨_, rfl⟩, by simp [isVal, hv]⟩
theorem g_list {k : Nat} {x : S} {w : Int} (ih : VlAt pa B (n + 1) k) (hx : x.ok k) (h : 0 ≤ w) (h2 : w ≤ 8) : okR (callT (T pa) (n + 2) ix__law_value [.ref B.b, (S.list x w).d] (B.at c)) (VlP B (.list x w)) := by
  refine z_run (fn := ⟨2, 9, false, b__law_value⟩) rfl rfl ?_
  simp only [b__law_value, startE]
  have hp : 0 < w + 1 := by omega
  have e9 : sizeLine = 16777216 := rfl
  have th : 0 ≤ B.tk c (w + 1) ∧ B.tk c (w + 1) < w + 1 := ⟨B.tk_nn hp, B.tk_lt hp⟩
  simp [S.d_list, l_take, hp]
  refine z_to (w_compT (st1 := B.at (c + 1)) (xs := rangeL (B.tk c (w + 1)).toNat) (fun s => ∃ c, s = B.at c) (fun _ d => isVal x d = true) ?_ ⟨_, rfl⟩ ?_ ?_)
  · simp [l_take, hp, e9]
    omega
  · rintro y _ s ⟨c, rfl⟩
    refine ⟨_, set_nm, ?_⟩
    simp [wipeE]
    refine z_mono (ih x c hx) ?_
    rintro d s ⟨⟨c2, rfl⟩, hv⟩
    exact ⟨⟨_, rfl⟩, hv⟩
  · rintro ds s ⟨c2, rfl⟩ ha
    have hl : ds.length = (B.tk c (w + 1)).toNat := by rw [← ha.length]; simp [rangeL]
    simp
    refine ⟨⟨_, rfl⟩, ?_⟩
    simp only [isVal, strIs_str, decide_true, Bool.true_and, Bool.and_eq_true, decide_eq_true_eq]
    exact ⟨by omega, List.all_eq_true.mpr (ha.right fun _ _ h => h)⟩
theorem g_either {k : Nat} {rows : List (Str × S)} (ih : VlAt pa B (n + 1) k) (hr : ∀ r ∈ rows, r.2.ok k) (h0 : rows ≠ []) (hnd : (rows.map (·.1)).Nodup) : okR (callT (T pa) (n + 2) ix__law_value [.ref B.b, (S.either rows).d] (B.at c)) (VlP B (.either rows)) := by
  refine z_run (fn := ⟨2, 9, false, b__law_value⟩) rfl rfl ?_
  simp only [b__law_value, startE]
  have hl : 0 < (rows.length : Int) := by
    cases rows with
    | nil => exact absurd rfl h0
    | cons _ _ => simp
  obtain ⟨r, hr0, e⟩ := atI_in (l := rows.map tagD) (B.tk_nn (c := c) hl) (by simpa using B.tk_lt hl)
  obtain ⟨⟨g, x⟩, hm, rfl⟩ := List.mem_map.mp hr0
  simp [S.d_either, l_take hl, e, tagD]
  refine z_mono (ih x (c + 1) (hr _ hm)) ?_
  rintro d s ⟨⟨c2, rfl⟩, hv⟩
  simp
  exact ⟨⟨_, rfl⟩, by simp [isVal, valE_lkp, lkp_of_mem hnd hm, hv]⟩
/-- the pairs of the first i fields -/
def RecI (B : Bg) (rows : List Fld) (i : Nat) (ρ : Env) (s : Store) : Prop := (∃ c, s = B.at c) ∧ ∃ (ps : List (Str × D)) (a b c d e f : Option D), ρ = [some (.ref B.b), some (S.record rows).d, a, b, c, d, some (.lst (ps.map prD)), e, f] ∧
  (ps.map (·.1)).Sublist ((rows.take i).map (·.1)) ∧ (∀ p ∈ ps, ∃ a, (p.1, a) ∈ rows ∧ isVal a.1 p.2 = true) ∧ ∀ r ∈ rows.take i, r.2.2 = none → r.1 ∈ ps.map (·.1)
theorem rec_val {rows : List Fld} {ps : List (Str × D)} (hn : (rows.map (·.1)).all nameS = true) (hr : Ris (rows.map (·.1))) (h1 : (ps.map (·.1)).Sublist (rows.map (·.1))) (h2 : ∀ p ∈ ps, ∃ a, (p.1, a) ∈ rows ∧ isVal a.1 p.2 = true) (h3 : ∀ r ∈ rows, r.2.2 = none → r.1 ∈ ps.map (·.1)) :
    isVal (.record rows) (.tup [.str "record", .tup (ps.map prD)]) = true := by
  rw [isVal_record]
  simp only [Bool.and_eq_true]
  refine ⟨⟨List.all_eq_true.mpr fun z hz => List.all_eq_true.mp hn z (h1.subset hz), rises_iff.mpr (hr.sub h1)⟩, List.all_eq_true.mpr fun p hp => ?_, List.all_eq_true.mpr fun r hr2 => ?_⟩
  · obtain ⟨a, ha, hv⟩ := h2 p hp
    rw [lkp_of_mem hr.nodup ha]
    exact hv
  · cases hnd : r.2.2 with
    | some _ => rfl
    | none => simpa using h3 r hr2 hnd
theorem take_succ_get {α : Type} {l : List α} {j : Nat} {x : α} (h : l[j]? = some x) : l.take (j + 1) = l.take j ++ [x] := by
  rw [List.take_add_one, h]
  rfl
theorem g_record {k : Nat} {rows : List Fld} (ih : VlAt pa B (n + 1) k) (hr : ∀ r ∈ rows, r.2.1.ok k) (hn : (rows.map (·.1)).all nameS = true) (hris : Ris (rows.map (·.1))) (hlen : rows.length ≤ 8) (hp : (S.record rows).d.plain = true) : okR (callT (T pa) (n + 2) ix__law_value [.ref B.b, (S.record rows).d] (B.at c)) (VlP B (.record rows)) := by
  refine z_run (fn := ⟨2, 9, false, b__law_value⟩) rfl rfl ?_
  have e9 : sizeLine = 16777216 := rfl
  have hpr := plain_flds hp
  simp only [b__law_value, startE]
  simp only [S.d_record]
  simp
  refine z_to (w_forI (st1 := B.at c) (xs := rows.map fldD) (RecI B rows) ?_ ?_ ?_ ?_)
  · simp
  · exact ⟨⟨_, rfl⟩, [], _, _, _, _, _, _, by rw [S.d_record]; try rfl, by simp, by simp, by simp⟩
  · rintro j x hx ρ s ⟨⟨c, rfl⟩, ps, a1, a2, a3, a4, a5, a6, rfl, h1, h2, h3⟩
    rw [List.getElem?_map] at hx
    cases hg : rows[j]? with
    | none => rw [hg] at hx; cases hx
    | some r =>
      rw [hg] at hx
      cases hx
      have hm : r ∈ rows := List.mem_of_getElem? hg
      have hj : j < rows.length := (List.getElem?_eq_some_iff.mp hg).1
      have htk := take_succ_get hg
      have hpl : ps.length < 16777216 := by
        have := h1.length_le
        simp at this
        omega
      obtain ⟨nm, sh, nd⟩ := r
      refine ⟨_, by simp [fldD]; rfl, ?_⟩
      have yes : ∀ c', okR (callT (T pa) (n + 1) ix__law_value [.ref B.b, sh.d] (B.at c')) fun d s => (∃ c, s = B.at c) ∧ isVal sh d = true := fun c' => ih sh c' (hr _ hm)
      have goOn : ∀ (v : D) c', isVal sh v = true → RecI B rows (j + 1) [some (.ref B.b), some (S.record rows).d, a1, a2, a3, some sh.d, some (.lst (ps.map prD ++ [.tup [.str nm, v]])), some (.str nm), some (ndOf nd)] (B.at c') := fun v c' hv => by
        refine ⟨⟨_, rfl⟩, ps ++ [(nm, v)], _, _, _, _, _, _, by rw [List.map_append]; rfl, ?_, ?_, ?_⟩
        · rw [htk, List.map_append, List.map_append]
          exact h1.append (by simp)
        · intro p hp
          rcases List.mem_append.mp hp with hp | hp
          · exact h2 p hp
          · rw [List.mem_singleton.mp hp]
            exact ⟨_, hm, hv⟩
        · intro r hr hnn
          rw [htk] at hr
          rw [List.map_append]
          rcases List.mem_append.mp hr with hr | hr
          · exact List.mem_append.mpr (.inl (h3 r hr hnn))
          · rw [List.mem_singleton.mp hr]
            simp
      have goBy : ∀ c', nd ≠ none → RecI B rows (j + 1) [some (.ref B.b), some (S.record rows).d, a1, a2, a3, some sh.d, some (.lst (ps.map prD)), some (.str nm), some (ndOf nd)] (B.at c') := fun c' hnn => by
        refine ⟨⟨_, rfl⟩, ps, _, _, _, _, _, _, rfl, ?_, h2, ?_⟩
        · rw [htk, List.map_append]
          exact h1.trans (List.sublist_append_left _ _)
        · intro r hr hn2
          rw [htk] at hr
          rcases List.mem_append.mp hr with hr | hr
          · exact h3 r hr hn2
          · rw [List.mem_singleton.mp hr] at hn2
            exact absurd hn2 hnn
      simp [isMust_nd (hpr _ hm).2.2, l_take]
      cases nd with
      | none =>
        simp
        refine z_mono (yes _) ?_
        rintro d s ⟨⟨c2, rfl⟩, hv⟩
        simp [e9, hpl]
        exact goOn d c2 hv
      | some v =>
        simp [l_take]
        refine brB_dec (fun h => ?_) (fun h => ?_)
        · simp
          refine z_mono (yes _) ?_
          rintro d s ⟨⟨c2, rfl⟩, hv⟩
          simp [e9, hpl]
          exact goOn d c2 hv
        · simp
          exact goBy _ (by simp)
  · rintro ρ' s ⟨⟨c, rfl⟩, ps, a1, a2, a3, a4, a5, a6, rfl, h1, h2, h3⟩
    simp only [List.length_map, List.take_length] at h1 h3
    simp
    exact ⟨⟨_, rfl⟩, rec_val hn hris h1 h2 h3⟩
/-- a drawn value -/
theorem l_value : ∀ (k n : Nat), k + 2 ≤ n → VlAt pa B n k
  | 0, n, _ => fun s d hs => by simp [S.ok] at hs
  | k + 1, n, hn => fun sh c hs => by
    obtain ⟨m, rfl⟩ : ∃ m, n = m + 2 := ⟨n - 2, by omega⟩
    have ih : VlAt pa B (m + 1) k := l_value k (m + 1) (by omega)
    have hp := S.ok_plain hs
    cases sh with
    | whole lo hi => simp only [S.ok] at hs; exact g_whole hs.2.1
    | word w => simp only [S.ok] at hs; exact g_word hs.1 hs.2
    | truth => exact g_truth
    | one ss => simp only [S.ok] at hs; exact g_one (fun e => by subst e; simp at hs)
    | list x w => simp only [S.ok] at hs; exact g_list ih hs.2.2 hs.1 hs.2.1
    | maybe x => simp only [S.ok] at hs; exact g_maybe ih hs.2
    | record rows => simp only [S.ok] at hs; exact g_record ih (fun r hr => (hs.2.2.2 r hr).1) hs.2.1 (rises_iff.mp hs.2.2.1) hs.1 hp
    | either rows => simp only [S.ok] at hs; exact g_either ih hs.2.2.2.2 (fun e => by subst e; simp at hs) (rises_iff.mp hs.2.2.2.1).nodup
end
end SH

namespace SH
open PySem L2
theorem map_str_inj : ∀ {a b : List Str}, a.map D.str = b.map D.str → a = b
  | [], [], _ => rfl
  | [], _ :: _, h => by cases h
  | _ :: _, [], h => by cases h
  | x :: a, y :: b, h => by
    simp only [List.map_cons, List.cons.injEq] at h
    obtain ⟨h1, h2⟩ := h
    cases h1
    rw [map_str_inj h2]
theorem cut_from {α : Type} (l : List α) (i : Nat) : cutL l (some (i : Int)) none = l.drop i := by
  unfold cutL
  rw [HT.sIx_nat, HT.sIx_none]
  by_cases h : i ≤ l.length
  · rw [Nat.min_eq_left h]
    exact List.take_of_length_le (by simp)
  · rw [Nat.min_eq_right (by omega)]
    rw [List.drop_eq_nil_of_le (Nat.le_refl _), List.drop_eq_nil_of_le (by omega)]
    simp
section
variable {pa : Nat → Addr} {n : Nat} {st : Store} {d e : D} {B : Bg} {c : Nat} {m : Int}
def SpAt (pa : Nat → Addr) (B : Bg) (m k : Nat) : Prop := ∀ c : Nat, okR (callT (T pa) m ix__law_shape [.ref B.b, .int k] (B.at c)) (ShP B 3 k)
theorem ShP.le {M : Int} {k j : Nat} {d : D} {s : Store} (h : ShP B M k d s) (hj : k ≤ j) : ShP B M j d s := by
  obtain ⟨h1, sh, h2, h3⟩ := h
  exact ⟨h1, sh, h2, S.nice_le h3 hj⟩
theorem ShP.up {k : Nat} {d : D} {s : Store} (h : ShP B 3 k d s) : ShP B 8 k d s := by
  obtain ⟨h1, sh, h2, h3⟩ := h
  exact ⟨h1, sh, h2, S.nice_up (by decide) h3⟩
/-- the fields made of the first i names -/
def ShI (B : Bg) (k : Nat) (ns : List Str) (i : Nat) (ρ : Env) (s : Store) : Prop := (∃ c, s = B.at c) ∧ ∃ (rows : List Fld) (a b c d e : Option D), ρ = [some (.ref B.b), some (.int ((k : Int) + 1)), a, b, c, d, some (.lst (rows.map fldD)), e] ∧ rows.map (·.1) = ns.take i ∧
  ∀ r ∈ rows, S.nice 3 k r.2.1 ∧ ∀ v, r.2.2 = some v → isVal r.2.1 v = true
theorem sh_step {k : Nat} (ih : SpAt pa B (n + 3) k) (iv : VlAt pa B (n + 3) k) (hk : 1 ≤ k) : SpAt pa B (n + 4) (k + 1) := fun c => by
  refine z_run (fn := ⟨2, 8, false, b__law_shape⟩) rfl rfl ?_
  have e9 : sizeLine = 16777216 := rfl
  have hd : ¬ ((k : Int) + 1 < 2) := by omega
  have hd1 : ((k : Int) + 1 - 1) = k := by omega
  have t9 := B.tk_lt (c := c) (m := 9) (by decide)
  simp only [b__law_shape, startE]
  simp [l_take, hd]
  refine brB_dec (fun h5 => ?_) (fun h5 => ?_)
  · simp
    refine z_mono (l_leaf (M := 3) (pa := pa) (n := n) (B := B) (c := c + 1)) ?_
    intro d s h
    simp
    exact h.le (by omega)
  simp
  refine brB_dec (fun h2 => ?_) (fun h2 => ?_)
  · simp [hd1]
    refine z_mono (ih (c + 1)) ?_
    rintro d s ⟨⟨c2, rfl⟩, sh, rfl, hn⟩
    have t4 : 0 ≤ B.tk c2 4 ∧ B.tk c2 4 < 4 := ⟨B.tk_nn (by decide), B.tk_lt (by decide)⟩
    simp [l_take]
    exact ⟨⟨_, rfl⟩, .list sh (B.tk c2 4), S.d_list.symm, by omega, by omega, hn⟩
  simp
  refine brB_dec (fun h3 => ?_) (fun h3 => ?_)
  · simp [hd1]
    refine z_mono (ih (c + 1)) ?_
    rintro d s ⟨⟨c2, rfl⟩, sh, rfl, hn⟩
    obtain ⟨w, r, ew⟩ := S.hd sh
    have hm := S.hd_maybe sh
    rw [ew] at hm
    simp [hdD] at hm
    rw [ew]
    simp
    refine brB_dec (fun h => ?_) (fun h => ?_)
    · simp
      exact ⟨⟨_, rfl⟩, sh, ew.symm, S.nice_succ hn⟩
    · simp
      refine ⟨⟨_, rfl⟩, .maybe sh, by rw [S.d_maybe, ew], ?_, hn⟩
      rw [← hm]
      simp [h]
  simp
  refine z_mono (l_names (pa := pa) (n := n + 1) (B := B) (c := c + 1) (ss := ["a", "b", "cc", "dd"]) (most := 3) (by simp) (by decide) (by decide)) ?_
  rintro d s ⟨⟨c2, rfl⟩, ns, rfl, hris, hsub, hne, hlen⟩
  simp
  refine brB_dec (fun h4 => ?_) (fun h4 => ?_)
  · simp
    refine z_to (w_compT (st1 := B.at c2) (xs := ns.map D.str) (fun s => ∃ c, s = B.at c) (fun x d => ∃ r : Str × S, d = tagD r ∧ (x = .str r.1 ∧ S.nice 3 k r.2)) ?_ ⟨_, rfl⟩ ?_ ?_)
    · simp
    · rintro x hx s ⟨c, rfl⟩
      obtain ⟨w, hw, rfl⟩ := List.mem_map.mp hx
      refine ⟨_, set_nm, ?_⟩
      simp [wipeE, hd1]
      refine z_mono (ih c) ?_
      rintro d s ⟨⟨c3, rfl⟩, sh, rfl, hn⟩
      simp
      exact ⟨⟨_, rfl⟩, w, sh, rfl, rfl, hn⟩
    · rintro ds s ⟨c3, rfl⟩ ha
      obtain ⟨rows, rfl, hrows⟩ := ha.map
      have hk := hrows.keys (f := id) (g := fun r => D.str r.1) fun a b h => h.1.symm
      have hk2 : rows.map (·.1) = ns := by
        refine map_str_inj ?_
        rw [List.map_map]
        rw [List.map_id] at hk
        exact hk
      simp
      refine ⟨⟨_, rfl⟩, .either rows, S.d_either.symm, ?_, ?_, ?_, ?_⟩
      · intro e
        subst e
        exact hne hk2.symm
      · rw [hk2]; exact hris
      · rw [hk2]
        intro z hz
        have := hsub z hz
        simp at this
        simp [N3]
        grind
      · exact hrows.right fun _ _ h => h.2
  · simp [l_take]
    have t7 : 0 ≤ B.tk c2 7 ∧ B.tk c2 7 < 7 := ⟨B.tk_nn (by decide), B.tk_lt (by decide)⟩
    obtain ⟨i, hi⟩ : ∃ i : Nat, B.tk c2 7 / 6 = (i : Int) := ⟨(B.tk c2 7 / 6).toNat, by omega⟩
    refine z_to (w_forI (st1 := B.at (c2 + 1)) (xs := (ns.drop i).map D.str) (ShI B k (ns.drop i)) ?_ ?_ ?_ ?_)
    · simp [l_take, hi, slD, cut_from, List.map_drop]
    · exact ⟨⟨_, rfl⟩, [], _, _, _, _, _, rfl, by simp, by simp⟩
    · rintro j x hx ρ s ⟨⟨c, rfl⟩, rows, a1, a2, a3, a4, a5, rfl, hkeys, hall⟩
      rw [List.getElem?_map] at hx
      cases hg : (ns.drop i)[j]? with
      | none => rw [hg] at hx; cases hx
      | some w =>
        rw [hg] at hx
        cases hx
        have htk := take_succ_get hg
        have hpl : rows.length < 16777216 := by
          have := congrArg List.length hkeys
          simp at this
          have : rows.length ≤ ns.length := by omega
          omega
        have goOn : ∀ (sh : S) (o : Option D) (b : Option D) c', S.nice 3 k sh → (∀ v, o = some v → isVal sh v = true) → ShI B k (ns.drop i) (j + 1) [some (.ref B.b), some (.int ((k : Int) + 1)), a1, some sh.d, a3, some (.str w), some (.lst (rows.map fldD ++ [.tup [.str w, sh.d, ndOf o]])), b] (B.at c') := fun sh o b c' h1 h2 => by
          refine ⟨⟨_, rfl⟩, rows ++ [(w, sh, o)], _, _, _, _, _, by rw [List.map_append]; rfl, ?_, ?_⟩
          · rw [htk, List.map_append, hkeys]
            rfl
          · intro r hr
            rcases List.mem_append.mp hr with hr | hr
            · exact hall r hr
            · rw [List.mem_singleton.mp hr]
              exact ⟨h1, h2⟩
        refine ⟨_, set_nm, ?_⟩
        simp [hd1]
        refine z_mono (ih c) ?_
        rintro d s ⟨⟨c3, rfl⟩, sh, rfl, hn⟩
        simp [l_take]
        refine brB_dec (fun h => ?_) (fun h => ?_)
        · simp [e9, hpl]
          exact goOn sh none _ _ hn (fun v z => by cases z)
        · simp
          refine z_mono (iv sh (c3 + 1) (S.nice_ok (by decide) hn)) ?_
          rintro d s ⟨⟨c4, rfl⟩, hv⟩
          simp [e9, hpl]
          exact goOn sh (some d) _ _ hn (fun v z => by cases z; exact hv)
    · rintro ρ' s ⟨⟨c, rfl⟩, rows, a1, a2, a3, a4, a5, rfl, hkeys, hall⟩
      simp only [List.length_map, List.take_length] at hkeys
      simp
      refine ⟨⟨_, rfl⟩, .record rows, S.d_record.symm, ?_, ?_, hall⟩
      · rw [hkeys]; exact hris.sub (List.drop_sublist _ _)
      · rw [hkeys]
        intro z hz
        have := hsub z (List.mem_of_mem_drop hz)
        simp at this
        simp [N2]
        grind
theorem sh_one : SpAt pa B (n + 4) 1 := fun c => by
  refine z_run (fn := ⟨2, 8, false, b__law_shape⟩) rfl rfl ?_
  simp only [b__law_shape, startE]
  simp [l_take]
  refine z_mono (l_leaf (M := 3) (pa := pa) (n := n) (B := B) (c := c + 1)) ?_
  intro d s h
  simp
  exact h
/-- a drawn shape -/
theorem l_shape : ∀ (k n : Nat), 1 ≤ k → k + 3 ≤ n → SpAt pa B n k
  | 0, n, h, _ => by omega
  | 1, n, _, hn => by
    obtain ⟨m, rfl⟩ : ∃ m, n = m + 4 := ⟨n - 4, by omega⟩
    exact sh_one
  | k + 2, n, _, hn => by
    obtain ⟨m, rfl⟩ : ∃ m, n = m + 4 := ⟨n - 4, by omega⟩
    exact sh_step (l_shape (k + 1) (m + 3) (by omega) (by omega)) (l_value (k + 1) (m + 3) (by omega)) (by omega)
end
end SH

namespace SH
open PySem L2
section
variable {pa : Nat → Addr} {n : Nat} {st : Store} {d e : D} {B : Bg} {c : Nat} {m : Int}
/-- the tables of lambdas stand in the store -/
def TabOk (pa : Nat → Addr) (B : Bg) : Prop := ∀ j q, lamQs[j]? = some q → ∀ c, (B.at c)[j]? = some (O.tab q (pa j))
theorem leaf_nice {k : Nat} {s : S} (hl : s.isLeaf = true) (h : s.nice 8 k) : s.nice 8 1 := by
  cases k with
  | zero => simp [S.nice] at h
  | succ k => cases s <;> first | exact h | cases hl
theorem onS_out {α : Type} {o : Option α} {K : α → Prop} {P : α → Prop} (h : ∃ a, o = some a ∧ P a) (k : ∀ a, P a → K a) : @onS _ o ⟨K⟩ := by
  obtain ⟨a, rfl, ha⟩ := h
  exact k a ha
theorem cut_sub {α : Type} (l : List α) (lo hi : Option Int) : (cutL l lo hi).Sublist l := (List.take_sublist _ _).trans (List.drop_sublist _ _)
theorem cut_map {α β : Type} (f : α → β) (l : List α) (lo hi : Option Int) : cutL (l.map f) lo hi = (cutL l lo hi).map f := by
  unfold cutL
  rw [List.length_map, List.map_take, List.map_drop]
theorem cut_len {α : Type} (l : List α) (i j : Nat) (h : j ≤ l.length) : (cutL l (some (i : Int)) (some (j : Int))).length = j - i := by
  unfold cutL
  rw [HT.sIx_nat, HT.sIx_nat, List.length_take, List.length_drop]
  omega
theorem l_near_leaf {s : S} (hl : s.isLeaf = true) (hn : s.nice 8 1) : okR (callT (T pa) (n + 4) ix__law_near_leaf [.ref B.b, s.d] (B.at c)) (ShP B 8 1) := by
  refine z_run (fn := ⟨2, 5, false, b__law_near_leaf⟩) rfl rfl ?_
  have e9 : sizeLine = 16777216 := rfl
  have t6 : 0 ≤ B.tk c 6 ∧ B.tk c 6 < 6 := ⟨B.tk_nn (by decide), B.tk_lt (by decide)⟩
  have fin : ∀ (ρ : Env), @okZ _ (mRet (mIte (mOp2 (eqD false) (mVar 2) (mLit (.int 5))) (mCall (callT (T pa) (n + 3)) ix__law_leaf [(mVar 0)]) (mVar 1)) [some (.ref B.b), some s.d, some (.int (B.tk c 6)), none, none] (B.at (c + 1))) ⟨fun p st' => @onFl p ⟨fun _ => ShP B 8 1 .non st', fun d _ => ShP B 8 1 d st'⟩⟩ := fun ρ => by
    simp
    refine brB_dec (fun h => ?_) (fun h => ?_)
    · simp
      refine z_mono (l_leaf (M := 8) (pa := pa) (n := n) (B := B) (c := c + 1)) ?_
      intro d s h
      simp
      exact h
    · simp
      exact ⟨⟨_, rfl⟩, s, rfl, hn⟩
  simp only [b__law_near_leaf, startE]
  cases s with
  | whole lo hi =>
    simp only [S.nice] at hn
    simp only [S.d_whole] at fin ⊢
    simp [l_take]
    refine brB_dec (fun h => ?_) (fun h => ?_)
    · simp
      refine onS_in t6.1 (by simpa using h) fun a ha => ?_
      have ha' : ∃ z : Int, a = .int z := by
        simp at ha
        rcases ha with rfl | rfl | rfl | rfl <;> exact ⟨_, rfl⟩
      obtain ⟨z, rfl⟩ := ha'
      simp
      refine onS_in t6.1 (by simpa using h) fun a ha => ?_
      have ha' : ∃ z : Int, a = .int z := by
        simp at ha
        rcases ha with rfl | rfl | rfl | rfl <;> exact ⟨_, rfl⟩
      obtain ⟨y, rfl⟩ := ha'
      simp
      refine brB_dec (fun h1 => ?_) (fun h1 => ?_)
      · simp
        refine brB_dec (fun h2 => ?_) (fun h2 => ?_)
        · simp
          refine brB_dec (fun h3 => ?_) (fun h3 => ?_)
          · simp
            exact ⟨⟨_, rfl⟩, .whole _ _, S.d_whole.symm, h1, h2, h3⟩
          · simp
            exact ⟨⟨_, rfl⟩, .whole lo hi, S.d_whole.symm, hn⟩
        · simp
          exact ⟨⟨_, rfl⟩, .whole lo hi, S.d_whole.symm, hn⟩
      · simp
        exact ⟨⟨_, rfl⟩, .whole lo hi, S.d_whole.symm, hn⟩
    · simp [-z_ret]
      exact fin []
  | word w =>
    simp only [S.nice] at hn
    simp only [S.d_word] at fin ⊢
    simp [l_take]
    refine brB_dec (fun h => ?_) (fun h => ?_)
    · simp
      refine onS_in t6.1 (by simpa using h) fun a ha => ?_
      have ha' : ∃ z : Int, a = .int z := by
        simp at ha
        rcases ha with rfl | rfl | rfl | rfl <;> exact ⟨_, rfl⟩
      obtain ⟨z, rfl⟩ := ha'
      simp
      exact ⟨⟨_, rfl⟩, .word _, S.d_word.symm, by split <;> split <;> omega, by split <;> split <;> omega⟩
    · simp [-z_ret]
      exact fin []
  | truth =>
    simp only [S.d_truth] at fin ⊢
    simp [l_take, -z_ret]
    exact fin []
  | one ss =>
    simp only [S.nice] at hn
    simp only [S.d_one] at fin ⊢
    have setOne : ∃ ns : List Str, sortSetD (B.at (c + 1)) (.tup (ss.map D.str ++ [.str "new"])) = some (.lst (ns.map D.str)) ∧ S.nice 8 1 (.one ns) := by
      have hlen := sub_len hn.2.1.nodup hn.2.2
      have e7 : N1.length = 7 := rfl
      refine ⟨setS (ss ++ [("new" : Str)]), ?_, ?_, setS_ris _, fun z hz => ?_⟩
      · rw [show ss.map D.str ++ [.str "new"] = (ss ++ [("new" : Str)]).map D.str by simp]
        exact sortSet_tup (by simp; omega)
      · intro e
        have : ("new" : Str) ∈ setS (ss ++ [("new" : Str)]) := setS_mem.mpr (by simp)
        rw [e] at this
        cases this
      · rcases List.mem_append.mp (setS_mem.mp hz) with hz | hz
        · exact hn.2.2 z hz
        · rw [List.mem_singleton.mp hz]
          simp [N1]
    have hlen := sub_len hn.2.1.nodup hn.2.2
    have e7 : N1.length = 7 := rfl
    have grow : ∀ Q : Fl × Env → Store → Prop, (∀ d s, ShP B 8 1 d s → Q (.ret d, [some (.ref B.b), some (.tup [.str "one", .tup (ss.map D.str)]), some (.int (B.tk c 6)), none, none]) s) → @okZ _ ((mRet (mTup [(mLit (.str "one")), (mOp1 tupleD (mOp1 sortSetD (mOp2 addD (mOp2 ixD (mVar 1) (mLit (.int 1))) (mTup [(mLit (.str "new"))]))))])) [some (.ref B.b), some (.tup [.str "one", .tup (ss.map D.str)]), some (.int (B.tk c 6)), none, none] (B.at (c + 1))) ⟨Q⟩ := by
      intro Q hQ
      obtain ⟨ns, e1, e2⟩ := setOne
      have e3 : addD (B.at (c + 1)) (.tup (ss.map D.str)) (.tup [.str "new"]) = some (.tup (ss.map D.str ++ [.str "new"])) := by
        simp only [addD]
        rw [if_pos (by simp [e9]; omega)]
      simp [e3, e1]
      exact hQ _ _ ⟨⟨_, rfl⟩, .one ns, S.d_one.symm, e2⟩
    simp [l_take, -z_ret]
    refine brB_dec (fun h => ?_) (fun h => ?_)
    · simp [-z_ret]
      refine brB_dec (fun h1 => ?_) (fun h1 => ?_)
      · simp
        obtain ⟨i, hi⟩ : ∃ i : Nat, B.tk c 6 = (i : Int) := ⟨(B.tk c 6).toNat, by omega⟩
        obtain ⟨j, hj0⟩ : ∃ j : Nat, j = ss.length - 1 + i := ⟨_, rfl⟩
        have hj : ((ss.length : Int) - 1 + B.tk c 6) = (j : Int) := by omega
        have e4 : slD (.tup (ss.map D.str)) (some (B.tk c 6)) (some ((ss.length : Int) - 1 + B.tk c 6)) = some (.tup ((cutL ss (some (i : Int)) (some (j : Int))).map D.str)) := by
          rw [hj, hi]
          simp only [slD]
          rw [cut_map]
        simp [e4]
        refine ⟨⟨_, rfl⟩, .one _, S.d_one.symm, ?_, hn.2.1.sub (cut_sub _ _ _), fun z hz => hn.2.2 z ((cut_sub _ _ _).subset hz)⟩
        intro e
        have hl1 : 1 < ss.length := by omega
        have := cut_len ss i j (by omega)
        rw [e] at this
        simp at this
        omega
      · have h4 : B.tk c 6 < 4 := by omega
        simp [h4, -z_ret]
        refine grow _ fun d s h => ?_
        simp
        exact h
    · simp [-z_ret]
      refine brB_dec (fun h1 => ?_) (fun h1 => ?_)
      · refine grow _ fun d s h => ?_
        simp
        exact h
      · simp [-z_ret]
        exact fin []
  | _ => cases hl
end
end SH

namespace SH
open PySem L2
section
variable {pa : Nat → Addr} {n : Nat} {st : Store} {d e : D} {B : Bg} {c : Nat} {m : Int}
def NrAt (pa : Nat → Addr) (B : Bg) (m k : Nat) : Prop := ∀ (s : S) (c : Nat), s.nice 8 k → okR (callT (T pa) m ix__law_near [.ref B.b, s.d] (B.at c)) (ShP B 8 (k + 1))
/-- the fields made of the first i -/
def NfI (B : Bg) (k : Nat) (rows : List Fld) (i : Nat) (ρ : Env) (s : Store) : Prop := (∃ c, s = B.at c) ∧ ∃ (fs : List Fld) (a b c d e f : Option D), ρ = [some (.ref B.b), some (.tup (rows.map fldD)), some (.lst (fs.map fldD)), a, b, c, d, e, f] ∧
  (fs.map (·.1)).Sublist ((rows.take i).map (·.1)) ∧ ∀ r ∈ fs, S.nice 8 (k + 1) r.2.1 ∧ ∀ v, r.2.2 = some v → isVal r.2.1 v = true
def NfP (B : Bg) (k : Nat) (d : D) (s : Store) : Prop := (∃ c, s = B.at c) ∧ ∃ fs : List Fld, d = .tup (fs.map fldD) ∧ Ris (fs.map (·.1)) ∧ (∀ z ∈ fs.map (·.1), z ∈ N2) ∧ ∀ r ∈ fs, S.nice 8 (k + 1) r.2.1 ∧ ∀ v, r.2.2 = some v → isVal r.2.1 v = true
theorem in_14 {i : Int} : inD false st (.int i) (.tup [.int 1, .int 4]) = some (.bl (decide (i = 1) || decide (i = 4))) := by
  have e1 : eqF (.int 1) (.int i) = decide (i = 1) := by
    simp only [eqF, beqd]
    exact decide_eq_decide.mpr ⟨fun h => h.symm, fun h => h.symm⟩
  have e2 : eqF (.int 4) (.int i) = decide (i = 4) := by
    simp only [eqF, beqd]
    exact decide_eq_decide.mpr ⟨fun h => h.symm, fun h => h.symm⟩
  show (if (D.int i).flat && [D.int 1, D.int 4].all D.flat then some (D.bl (if false = true then !([D.int 1, D.int 4].any fun z => eqF z (.int i)) else [D.int 1, D.int 4].any fun z => eqF z (.int i))) else none) = _
  simp only [List.any_cons, List.any_nil, e1, e2, Bool.or_false]
  rfl
theorem of_z_eq {α : Type} {r : R α} {Q : α → Store → Prop} : okR r Q = @okZ _ r ⟨Q⟩ := rfl
theorem ndOf_none : (D.tup [.str "must"]) = ndOf none := rfl
theorem ndOf_some {v : D} : (D.tup [.str "else", v]) = ndOf (some v) := rfl
theorem l_near_fields {k : Nat} (hT : TabOk pa B) (hk : k ≤ 10) (ih : NrAt pa B (n + 5) k) (iv : VlAt pa B (n + 5) (k + 1)) (iv1 : VlAt pa B (n + 5) 1) {rows : List Fld} (hris : Ris (rows.map (·.1))) (hsub : ∀ z ∈ rows.map (·.1), z ∈ N2) (hall : ∀ r ∈ rows, S.nice 8 k r.2.1 ∧ ∀ v, r.2.2 = some v → isVal r.2.1 v = true) :
    okR (callT (T pa) (n + 6) ix__law_near_fields [.ref B.b, .tup (rows.map fldD)] (B.at c)) (NfP B k) := by
  refine z_run (fn := ⟨2, 9, false, b__law_near_fields pa⟩) rfl rfl ?_
  have e9 : sizeLine = 16777216 := rfl
  have hlen := sub_len hris.nodup hsub
  have e7 : N2.length = 5 := rfl
  simp only [List.length_map] at hlen
  simp only [b__law_near_fields, startE]
  simp
  refine z_to (w_forI (st1 := B.at c) (xs := rows.map fldD) (NfI B k rows) ?_ ?_ ?_ ?_)
  · simp
  · exact ⟨⟨_, rfl⟩, [], _, _, _, _, _, _, rfl, by simp, by simp⟩
  · rintro j x hx ρ s ⟨⟨c, rfl⟩, fs, a1, a2, a3, a4, a5, a6, rfl, h1, h2⟩
    rw [List.getElem?_map] at hx
    cases hg : rows[j]? with
    | none => rw [hg] at hx; cases hx
    | some r =>
      rw [hg] at hx
      cases hx
      have hm : r ∈ rows := List.mem_of_getElem? hg
      have htk := take_succ_get hg
      have hpl : fs.length < 16777216 := by
        have := h1.length_le
        simp at this
        omega
      obtain ⟨hn, hv⟩ := hall r hm
      obtain ⟨nm, sh, nd⟩ := r
      refine ⟨_, by simp [fldD]; rfl, ?_⟩
      simp only at hn hv
      -- what is put in
      have goOn : ∀ (sh' : S) (o : Option D) (x6 x4 : Option D) c', S.nice 8 (k + 1) sh' → (∀ v, o = some v → isVal sh' v = true) → NfI B k rows (j + 1) [some (.ref B.b), some (.tup (rows.map fldD)), some (.lst (fs.map fldD ++ [.tup [.str nm, sh'.d, ndOf o]])), some (.str nm), some sh.d, some (ndOf o), x4, some sh'.d, x6] (B.at c') := fun sh' o x6 x4 c' h3 h4 => by
        refine ⟨⟨_, rfl⟩, fs ++ [(nm, sh', o)], _, _, _, _, _, _, by rw [List.map_append]; rfl, ?_, ?_⟩
        · rw [htk, List.map_append, List.map_append]
          exact h1.append (by simp)
        · intro r hr
          rcases List.mem_append.mp hr with hr | hr
          · exact h2 r hr
          · rw [List.mem_singleton.mp hr]
            exact ⟨h3, h4⟩
      have goBy : ∀ (x7 x5 x6 x4 : Option D) c', NfI B k rows (j + 1) [some (.ref B.b), some (.tup (rows.map fldD)), some (.lst (fs.map fldD)), some (.str nm), some sh.d, x5, x4, x7, x6] (B.at c') := fun x7 x5 x6 x4 c' => by
        refine ⟨⟨_, rfl⟩, fs, _, _, _, _, _, _, rfl, ?_, h2⟩
        rw [htk, List.map_append]
        exact h1.trans (List.sublist_append_left _ _)
      have last : ∀ (sh' : S) (o : Option D) (x6 : Option D) (i : Int) c', S.nice 8 (k + 1) sh' → (∀ v, o = some v → isVal sh' v = true) →
          @okZ _ (mIf (mOp2 (eqD true) (mVar 6) (mLit (.int 7))) (mApp 2 (mTup [(mVar 3), (mVar 7), (mVar 5)])) mSkip [some (.ref B.b), some (.tup (rows.map fldD)), some (.lst (fs.map fldD)), some (.str nm), some sh.d, some (ndOf o), some (.int i), some sh'.d, x6] (B.at c')) ⟨fun q s => q.1 = .next ∧ NfI B k rows (j + 1) q.2 s⟩ := fun sh' o x6 i c' h3 h4 => by
        simp
        refine brB_dec (fun h => ?_) (fun h => ?_)
        · simp
          exact goBy _ _ _ _ _
        · simp [e9, hpl]
          exact goOn sh' o _ _ _ h3 h4
      -- a need drawn anew, or not
      have mid : ∀ (sh' : S) (x6 : Option D) (i : Int) c', S.nice 8 (k + 1) sh' → 
          @okZ _ (mSeq (mIf (mOr (mOp2 (inD false) (mVar 6) (mTup [(mLit (.int 1)), (mLit (.int 4))])) (mOp2 (eqD true) (mVar 7) (mVar 4)))
    (mAsg (.nm 5) (mIte (mOp2 (eqD false) (mCall (callT (T pa) (n + 5)) ix__law_take [(mVar 0), (mLit (.int 2))]) (mLit (.int 0))) (mTup [(mLit (.str "must"))]) (mTup [(mLit (.str "else")), (mCall (callT (T pa) (n + 5)) ix__law_value [(mVar 0), (mVar 7)])])))
    mSkip)
  (mIf (mOp2 (eqD true) (mVar 6) (mLit (.int 7)))
    (mApp 2 (mTup [(mVar 3), (mVar 7), (mVar 5)]))
    mSkip) [some (.ref B.b), some (.tup (rows.map fldD)), some (.lst (fs.map fldD)), some (.str nm), some sh.d, some (ndOf nd), some (.int i), some sh'.d, x6] (B.at c')) ⟨fun q s => q.1 = .next ∧ NfI B k rows (j + 1) q.2 s⟩ := fun sh' x6 i c' h3 => by
        have hd1 := S.depth (k + 1) sh' (S.nice_ok (by decide) h3)
        have heq : eqD true (B.at c') sh'.d sh.d = some (.bl (!D.eq sh'.d sh.d)) := by
          rw [eqD_sh (S.nice_ok (by decide) h3) (S.nice_ok (by decide) (S.nice_succ hn)) (by omega)]
          simp
        have again : @okZ _ (mAsg (.nm 5) (mIte (mOp2 (eqD false) (mCall (callT (T pa) (n + 5)) ix__law_take [(mVar 0), (mLit (.int 2))]) (mLit (.int 0))) (mTup [(mLit (.str "must"))]) (mTup [(mLit (.str "else")), (mCall (callT (T pa) (n + 5)) ix__law_value [(mVar 0), (mVar 7)])])) [some (.ref B.b), some (.tup (rows.map fldD)), some (.lst (fs.map fldD)), some (.str nm), some sh.d, some (ndOf nd), some (.int i), some sh'.d, x6] (B.at c')) ⟨fun p s => ∃ (o : Option D) (c2 : Nat), p = (.next, [some (.ref B.b), some (.tup (rows.map fldD)), some (.lst (fs.map fldD)), some (.str nm), some sh.d, some (ndOf o), some (.int i), some sh'.d, x6]) ∧ s = B.at c2 ∧ ∀ v, o = some v → isVal sh' v = true⟩ := by
          simp [l_take]
          refine brB_dec (fun h => ?_) (fun h => ?_)
          · simp
            exact ⟨none, rfl, ⟨_, rfl⟩, fun v z => by cases z⟩
          · simp
            refine z_mono (iv sh' _ (S.nice_ok (by decide) h3)) ?_
            rintro d s ⟨⟨c3, rfl⟩, hv⟩
            simp
            exact ⟨some d, rfl, ⟨_, rfl⟩, fun v z => by cases z; exact hv⟩
        have both' : @okZ _ (mIf (mOr (mOp2 (inD false) (mVar 6) (mTup [(mLit (.int 1)), (mLit (.int 4))])) (mOp2 (eqD true) (mVar 7) (mVar 4)))
    (mAsg (.nm 5) (mIte (mOp2 (eqD false) (mCall (callT (T pa) (n + 5)) ix__law_take [(mVar 0), (mLit (.int 2))]) (mLit (.int 0))) (mTup [(mLit (.str "must"))]) (mTup [(mLit (.str "else")), (mCall (callT (T pa) (n + 5)) ix__law_value [(mVar 0), (mVar 7)])])))
    mSkip [some (.ref B.b), some (.tup (rows.map fldD)), some (.lst (fs.map fldD)), some (.str nm), some sh.d, some (ndOf nd), some (.int i), some sh'.d, x6] (B.at c')) ⟨fun p s => ∃ (o : Option D) (c2 : Nat), p = (.next, [some (.ref B.b), some (.tup (rows.map fldD)), some (.lst (fs.map fldD)), some (.str nm), some sh.d, some (ndOf o), some (.int i), some sh'.d, x6]) ∧ s = B.at c2 ∧ ∀ v, o = some v → isVal sh' v = true⟩ := by
          simp [in_14, -z_asg]
          refine brB_of (fun h => ?_) (fun h => ?_)
          · exact again
          · simp [heq, -z_asg]
            cases he : D.eq sh'.d sh.d with
            | false => simp [-z_asg]; exact again
            | true =>
              have e4 := shape_eq (k + 1) sh' sh (S.nice_ok (by decide) h3) (S.nice_ok (by decide) (S.nice_succ hn)) he
              subst e4
              simp
              exact ⟨nd, rfl, ⟨_, rfl⟩, hv⟩
        refine (z_seq).mpr (z_mono both' ?_)
        rintro p s ⟨o, c2, rfl, rfl, ho⟩
        exact last sh' o x6 i c2 h3 ho
      rw [of_z_eq, z_seq]
      simp [l_take, -z_seq, -z_if]
      rw [z_seq]
      simp [l_take, -z_seq, -z_if]
      refine brB_dec (fun h => ?_) (fun h => ?_)
      · simp [-z_seq, -z_if]
        refine z_mono (ih sh _ hn) ?_
        rintro d s ⟨⟨c3, rfl⟩, sh', rfl, hn'⟩
        simp [-z_seq, -z_if]
        exact mid sh' _ _ _ hn'
      · simp [-z_seq, -z_if]
        exact mid sh _ _ _ (S.nice_succ hn)
  · rintro ρ' s ⟨⟨c, rfl⟩, fs, a1, a2, a3, a4, a5, a6, rfl, h1, h2⟩
    simp only [List.length_map, List.take_length] at h1
    have hnd : (fs.map (·.1)).Nodup := (hris.sub h1).nodup
    have hN : ∀ z ∈ fs.map (·.1), z ∈ N2 := fun z hz => hsub z (h1.subset hz)
    have hpl : fs.length ≤ 5 := by
      have := h1.length_le
      simp at this
      omega
    -- sorted at the end
    have fin : ∀ (fs : List Fld) (x4 x8 : Option D) (c : Nat), (fs.map (·.1)).Nodup → (∀ z ∈ fs.map (·.1), z ∈ N2) → (∀ r ∈ fs, S.nice 8 (k + 1) r.2.1 ∧ ∀ v, r.2.2 = some v → isVal r.2.1 v = true) →
        @okZ _ (mRet (mOp1 tupleD (mSortKey 2 ("_law_near_fields.<locals>." ++ "<lambda>") (pa 2) (mVar 2))) [some (.ref B.b), some (.tup (rows.map fldD)), some (.lst (fs.map fldD)), a1, x4, a3, a4, a5, x8] (B.at c)) ⟨fun p st' => @onFl p ⟨fun _ => NfP B k .non st', fun d _ => NfP B k d st'⟩⟩ := fun fs x4 x8 c g1 g2 g3 => by
      obtain ⟨fs', e1, hp, hr⟩ := sort_rows fldD key_fldD row_fldD (B.at c) fs g1
      have e2 : (B.at c)[2]? = some (O.tab ("_law_near_fields.<locals>." ++ "<lambda>") (pa 2)) := hT _ _ rfl c
      simp [e1, e2]
      exact ⟨⟨_, rfl⟩, fs', rfl, hr, fun z hz => g2 z ((hp.map _).mem_iff.mp hz), fun r hr => g3 r (hp.mem_iff.mp hr)⟩
    simp [l_take, -z_ret]
    refine brB_dec (fun h => ?_) (fun h => ?_)
    · simp [-z_ret]
      refine z_mono (l_leaf (M := 8) (pa := pa) (n := n + 2) (B := B) (c := c + 1)) ?_
      rintro d s ⟨⟨c2, rfl⟩, sh, rfl, hn⟩
      simp [-z_ret]
      refine z_to (w_compIf (xs := fs) fldD fldD (fun r => !decide (r.1 = ("e" : Str))) (by simp) (fun r hm => ⟨_, set_nm, ?_, fun _ => ?_⟩) ?_)
      · simp [wipeE, fldD]
      · simp [wipeE]
      · simp [-z_ret]
        have hf : (fs.filter fun r => !decide (r.1 = ("e" : Str))).Sublist fs := List.filter_sublist
        have hfl : (fs.filter fun r => !decide (r.1 = ("e" : Str))).length < 16777216 := by
          have := hf.length_le
          omega
        have key : ∀ (o : Option D) (x4 x8 : Option D) (c : Nat), (∀ v, o = some v → isVal sh v = true) →
          @okZ _ (mRet (mOp1 tupleD (mSortKey 2 ("_law_near_fields.<locals>." ++ "<lambda>") (pa 2) (mVar 2))) [some (.ref B.b), some (.tup (rows.map fldD)), some (.lst ((fs.filter fun r => !decide (r.1 = ("e" : Str))).map fldD ++ [.tup [.str "e", sh.d, ndOf o]])), a1, x4, a3, a4, a5, x8] (B.at c)) ⟨fun p st' => @onFl p ⟨fun _ => NfP B k .non st', fun d _ => NfP B k d st'⟩⟩ := fun o x4 x8 c ho => by
            have := fin ((fs.filter fun r => !decide (r.1 = ("e" : Str))) ++ [((("e" : Str), sh, o) : Fld)]) x4 x8 c ?_ ?_ ?_
            · rw [List.map_append] at this
              exact this
            · rw [List.map_append]
              refine List.nodup_append.mpr ⟨hnd.sublist (hf.map _), by simp, fun a ha b hb e => ?_⟩
              simp at hb
              obtain ⟨r, hr, rfl⟩ := List.mem_map.mp ha
              have := (List.mem_filter.mp hr).2
              simp at this
              exact this (by rw [e, hb])
            · intro z hz
              rw [List.map_append] at hz
              rcases List.mem_append.mp hz with hz | hz
              · exact hN z ((hf.map _).subset hz)
              · simp at hz
                subst hz
                simp [N2]
            · intro r hr
              rcases List.mem_append.mp hr with hr | hr
              · exact h2 r (hf.subset hr)
              · rw [List.mem_singleton.mp hr]
                exact ⟨S.nice_le hn (by omega), ho⟩
        refine z_mono (iv1 sh c2 (S.nice_ok (by decide) hn)) ?_
        rintro v s ⟨⟨c3, rfl⟩, hv⟩
        have t2 : 0 ≤ B.tk c3 2 ∧ B.tk c3 2 < 2 := ⟨B.tk_nn (by decide), B.tk_lt (by decide)⟩
        simp [-z_ret, l_take]
        refine onS_in t2.1 (by simpa using t2.2) fun a ha => ?_
        simp at ha
        have ha' : ∃ o : Option D, a = ndOf o ∧ ∀ v, o = some v → isVal sh v = true := by
          rcases ha with rfl | rfl
          · exact ⟨none, rfl, fun v z => by cases z⟩
          · exact ⟨some v, rfl, fun v z => by cases z; exact hv⟩
        obtain ⟨o, rfl, ho⟩ := ha'
        simp [-z_ret, e9]
        exact ⟨hfl, key o _ _ _ ho⟩
    · simp [-z_ret]
      exact fin fs _ _ _ hnd hN h2
/-- the rows sorted at the end -/
theorem nr_either {k : Nat} (hT : TabOk pa B) (ih : NrAt pa B (n + 5) k) {rows : List (Str × S)} (hne : rows ≠ []) (hris : Ris (rows.map (·.1))) (hsub : ∀ z ∈ rows.map (·.1), z ∈ N3) (hall : ∀ r ∈ rows, S.nice 8 k r.2) (hk : 1 ≤ k) (hk2 : k ≤ 10) :
    okR (callT (T pa) (n + 6) ix__law_near [.ref B.b, (S.either rows).d] (B.at c)) (ShP B 8 (k + 2)) := by
  refine z_run (fn := ⟨2, 7, false, b__law_near pa⟩) rfl rfl ?_
  have e9 : sizeLine = 16777216 := rfl
  have hlen := sub_len hris.nodup hsub
  have e7 : N3.length = 5 := rfl
  simp only [List.length_map] at hlen
  simp only [b__law_near, startE, S.d_either]
  simp [l_take]
  refine brB_dec (fun h => ?_) (fun h => ?_)
  · simp
    refine z_mono (l_shape (pa := pa) (B := B) 2 (n + 5) (by decide) (by omega) (c + 1)) ?_
    intro d s h
    simp
    exact h.up.le (by omega)
  simp [-z_ret]
  refine z_to (w_compI (st1 := B.at (c + 1)) (xs := rows.map tagD) (fun s => ∃ c, s = B.at c) (fun x d => ∃ r : Str × S, d = tagD r ∧ (rowKey x = r.1 ∧ S.nice 8 (k + 1) r.2)) ?_ ⟨_, rfl⟩ ?_ ?_)
  · simp
  · rintro x hx s ⟨c, rfl⟩
    obtain ⟨⟨g, y⟩, hm, rfl⟩ := List.mem_map.mp hx
    refine ⟨_, by simp [tagD, wipeE]; rfl, ?_⟩
    simp [l_take]
    by_cases h7 : 0 < B.tk c 7
    · refine ⟨⟨_, rfl⟩, .inr ⟨h7, ?_⟩⟩
      refine z_mono (ih y (c + 1) (hall _ hm)) ?_
      rintro d s ⟨⟨c3, rfl⟩, sh, rfl, hn⟩
      simp
      exact ⟨⟨_, rfl⟩, g, sh, rfl, rfl, hn⟩
    · exact ⟨⟨_, rfl⟩, .inl (by omega)⟩
  · rintro ds s ⟨c2, rfl⟩ ⟨l', hs, ha⟩
    obtain ⟨rs, rfl, hrs⟩ := ha.map
    have hk1 : rs.map (·.1) = l'.map rowKey := hrs.keys fun a b h => h.1.symm
    have hsl : (rs.map (·.1)).Sublist (rows.map (·.1)) := by
      rw [hk1]
      have := hs.map rowKey
      rw [List.map_map] at this
      exact this
    have hN : ∀ r ∈ rs, S.nice 8 (k + 1) r.2 := hrs.right fun _ _ h => h.2
    have fin : ∀ (Q : Fl × Env → Store → Prop) (hQ : ∀ d ρ s, ShP B 8 (k + 2) d s → Q (.ret d, ρ) s) (rs : List (Str × S)) (x3 x6 : Option D) (c : Nat), rs ≠ [] → (rs.map (·.1)).Nodup → (∀ z ∈ rs.map (·.1), z ∈ N3) → (∀ r ∈ rs, S.nice 8 (k + 1) r.2) →
        @okZ _ (mRet (mTup [(mLit (.str "either")), (mOp1 tupleD (mSortKey 1 ("_law_near.<locals>." ++ "<lambda>") (pa 1) (mVar 4)))]) [some (.ref B.b), some (.tup [.str "either", .tup (rows.map tagD)]), some (.str "either"), x3, some (.lst (rs.map tagD)), none, x6] (B.at c)) ⟨Q⟩ := fun Q hQ rs x3 x6 c g0 g1 g2 g3 => by
      obtain ⟨rs', e1, hp, hr⟩ := sort_rows tagD key_tagD row_tagD (B.at c) rs g1
      have e2 : (B.at c)[1]? = some (O.tab ("_law_near.<locals>." ++ "<lambda>") (pa 1)) := hT _ _ rfl c
      simp [e1, e2]
      refine hQ _ _ _ ⟨⟨_, rfl⟩, .either rs', S.d_either.symm, ?_, hr, fun z hz => g2 z ((hp.map _).mem_iff.mp hz), fun r hr => g3 r (hp.mem_iff.mp hr)⟩
      intro e
      subst e
      exact g0 (List.nil_perm.mp hp)
    have hpl : D.plains (rs.map tagD) = true := plains_of fun x hx => by
      obtain ⟨r, hr, rfl⟩ := List.mem_map.mp hx
      simp [tagD, D.plain, D.plains, S.ok_plain (S.nice_ok (by decide) (hN r hr))]
    have hrl : rs.length ≤ 5 := by
      have := hsl.length_le
      simp at this
      omega
    -- q put in
    have more : ∀ (c : Nat) (Q : Fl × Env → Store → Prop), (∀ (sh : S) (x3 x6 : Option D) (c3 : Nat), S.nice 8 1 sh → Q (.next, [some (.ref B.b), some (.tup [.str "either", .tup (rows.map tagD)]), some (.str "either"), x3, some (.lst (((rs.filter fun r => !decide (r.1 = ("q" : Str))) ++ [(("q" : Str), sh)]).map tagD)), none, x6]) (B.at c3)) →
        @okZ _ (mAsg (.nm 4) (mOp2 addD (mComp (mVar 6) (.nm 6) (iSeq (mVar 4)) (mOp2 (eqD true) (mOp2 ixD (mVar 6) (mLit (.int 0))) (mLit (.str "q"))) [6]) (mLst [(mTup [(mLit (.str "q")), (mCall (callT (T pa) (n + 5)) ix__law_leaf [(mVar 0)])])])) [some (.ref B.b), some (.tup [.str "either", .tup (rows.map tagD)]), some (.str "either"), none, some (.lst (rs.map tagD)), none, none] (B.at c)) ⟨Q⟩ := fun c Q hQ => by
      simp
      refine z_to (w_compIf (xs := rs) tagD tagD (fun r => !decide (r.1 = ("q" : Str))) (by simp) (fun r hm => ⟨_, set_nm, ?_, fun _ => ?_⟩) ?_)
      · simp [wipeE, tagD]
      · simp [wipeE]
      · simp
        refine z_mono (l_leaf (M := 8) (pa := pa) (n := n + 2) (B := B) (c := c)) ?_
        rintro d s ⟨⟨c3, rfl⟩, sh, rfl, hn⟩
        have hfl : (rs.filter fun r => !decide (r.1 = ("q" : Str))).length + 1 ≤ 16777216 := by
          have := (List.filter_sublist (l := rs) (p := fun r => !decide (r.1 = ("q" : Str)))).length_le
          omega
        have e3 : addD (B.at c3) (.lst ((rs.filter fun r => !decide (r.1 = ("q" : Str))).map tagD)) (.lst [.tup [.str "q", sh.d]]) = some (.lst (((rs.filter fun r => !decide (r.1 = ("q" : Str))) ++ [(("q" : Str), sh)]).map tagD)) := by
          simp only [addD]
          rw [if_pos (by rw [List.length_map]; exact hfl), List.map_append]
          rfl
        simp [e3, -List.map_append]
        exact hQ sh _ _ _ hn
    have qOk : ∀ sh : S, S.nice 8 1 sh → ((rs.filter fun r => !decide (r.1 = ("q" : Str))) ++ [(("q" : Str), sh)]) ≠ [] ∧ (((rs.filter fun r => !decide (r.1 = ("q" : Str))) ++ [(("q" : Str), sh)]).map (·.1)).Nodup ∧ (∀ z ∈ ((rs.filter fun r => !decide (r.1 = ("q" : Str))) ++ [(("q" : Str), sh)]).map (·.1), z ∈ N3) ∧ ∀ r ∈ (rs.filter fun r => !decide (r.1 = ("q" : Str))) ++ [(("q" : Str), sh)], S.nice 8 (k + 1) r.2 := fun sh hn => by
      have hf : (rs.filter fun r => !decide (r.1 = ("q" : Str))).Sublist rs := List.filter_sublist
      refine ⟨by simp, ?_, ?_, ?_⟩
      · rw [List.map_append]
        refine List.nodup_append.mpr ⟨((hris.sub hsl).nodup).sublist (hf.map _), by simp, fun a ha b hb e => ?_⟩
        simp at hb
        obtain ⟨r, hr, rfl⟩ := List.mem_map.mp ha
        have := (List.mem_filter.mp hr).2
        simp at this
        exact this (by rw [e, hb])
      · intro z hz
        rw [List.map_append] at hz
        rcases List.mem_append.mp hz with hz | hz
        · exact hsub z (hsl.subset ((hf.map _).subset hz))
        · simp at hz
          subst hz
          simp [N3]
      · intro r hr
        rcases List.mem_append.mp hr with hr | hr
        · exact hN r (hf.subset hr)
        · rw [List.mem_singleton.mp hr]
          exact S.nice_le hn (by omega)
    simp [eqD_nil hpl, -z_ret, -z_asg]
    cases hemp : rs.isEmpty with
    | true =>
      simp [-z_ret, -z_asg]
      refine more _ _ fun sh x3 x6 c3 hn => ?_
      obtain ⟨q1, q2, q3, q4⟩ := qOk sh hn
      simp only [onFl_next]
      refine fin _ (fun d ρ s h => ?_) _ _ _ _ q1 q2 q3 q4
      simp
      exact h
    | false =>
      simp [-z_ret, -z_asg, l_take]
      refine brB_dec (fun h => ?_) (fun h => ?_)
      · refine more _ _ fun sh x3 x6 c3 hn => ?_
        obtain ⟨q1, q2, q3, q4⟩ := qOk sh hn
        simp only [onFl_next]
        refine fin _ (fun d ρ s h => ?_) _ _ _ _ q1 q2 q3 q4
        simp
        exact h
      · simp [-z_ret]
        refine fin _ (fun d ρ s h => ?_) rs _ _ _ (fun e => by rw [e] at hemp; cases hemp) (hris.sub hsl).nodup (fun z hz => hsub z (hsl.subset hz)) hN
        simp
        exact h
end
end SH

namespace SH
open PySem L2
section
variable {pa : Nat → Addr} {n : Nat} {st : Store} {d e : D} {B : Bg} {c : Nat} {m : Int}
theorem nr_list {k : Nat} (ih : NrAt pa B (n + 5) k) {x : S} {w : Int} (hx : S.nice 8 k x) (hk : 1 ≤ k) :
    okR (callT (T pa) (n + 6) ix__law_near [.ref B.b, (S.list x w).d] (B.at c)) (ShP B 8 (k + 2)) := by
  refine z_run (fn := ⟨2, 7, false, b__law_near pa⟩) rfl rfl ?_
  simp only [b__law_near, startE, S.d_list]
  simp [l_take]
  refine brB_dec (fun h => ?_) (fun h => ?_)
  · simp
    refine z_mono (l_shape (pa := pa) (B := B) 2 (n + 5) (by decide) (by omega) (c + 1)) ?_
    intro d s h
    simp
    exact h.up.le (by omega)
  simp
  refine z_mono (ih x (c + 1) hx) ?_
  rintro d s ⟨⟨c2, rfl⟩, sh, rfl, hn⟩
  simp [l_take]
  exact ⟨⟨_, rfl⟩, .list sh _, S.d_list.symm, by split <;> omega, by split <;> split <;> omega, hn⟩
theorem nr_maybe {k : Nat} (ih : NrAt pa B (n + 5) k) {x : S} (hx : S.nice 8 k x) (hk : 1 ≤ k) :
    okR (callT (T pa) (n + 6) ix__law_near [.ref B.b, (S.maybe x).d] (B.at c)) (ShP B 8 (k + 2)) := by
  refine z_run (fn := ⟨2, 7, false, b__law_near pa⟩) rfl rfl ?_
  simp only [b__law_near, startE, S.d_maybe]
  simp [l_take]
  refine brB_dec (fun h => ?_) (fun h => ?_)
  · simp
    refine z_mono (l_shape (pa := pa) (B := B) 2 (n + 5) (by decide) (by omega) (c + 1)) ?_
    intro d s h
    simp
    exact h.up.le (by omega)
  simp
  refine z_mono (ih x (c + 1) hx) ?_
  rintro d s ⟨⟨c2, rfl⟩, sh, rfl, hn⟩
  obtain ⟨w, r, ew⟩ := S.hd sh
  have hm := S.hd_maybe sh
  rw [ew] at hm
  simp [hdD] at hm
  rw [ew]
  simp
  refine brB_dec (fun h => ?_) (fun h => ?_)
  · simp
    exact ⟨⟨_, rfl⟩, sh, ew.symm, S.nice_succ hn⟩
  · simp [l_take]
    refine brB_dec (fun h => ?_) (fun h => ?_)
    · simp
      exact ⟨⟨_, rfl⟩, sh, ew.symm, S.nice_succ hn⟩
    · simp
      refine ⟨⟨_, rfl⟩, .maybe sh, by rw [S.d_maybe, ew], ?_, hn⟩
      rw [← hm]
      simp [*]
theorem nr_record {k : Nat} (hT : TabOk pa B) (ih : NrAt pa B (n + 5) k) {rows : List Fld} (hris : Ris (rows.map (·.1))) (hsub : ∀ z ∈ rows.map (·.1), z ∈ N2) (hall : ∀ r ∈ rows, S.nice 8 k r.2.1 ∧ ∀ v, r.2.2 = some v → isVal r.2.1 v = true) (hk2 : k ≤ 10) (hkn : k + 3 ≤ n + 5) :
    okR (callT (T pa) (n + 7) ix__law_near [.ref B.b, (S.record rows).d] (B.at c)) (ShP B 8 (k + 2)) := by
  refine z_run (fn := ⟨2, 7, false, b__law_near pa⟩) rfl rfl ?_
  simp only [b__law_near, startE, S.d_record]
  simp [l_take]
  refine brB_dec (fun h => ?_) (fun h => ?_)
  · simp
    refine z_mono (l_shape (pa := pa) (B := B) 2 (n + 6) (by decide) (by omega) (c + 1)) ?_
    intro d s h
    simp
    exact h.up.le (by omega)
  simp
  refine z_mono (l_near_fields (pa := pa) (n := n) (B := B) (c := c + 1) hT hk2 ih (l_value (k + 1) (n + 5) (by omega)) (l_value 1 (n + 5) (by omega)) hris hsub hall) ?_
  rintro d s ⟨⟨c2, rfl⟩, fs, rfl, h1, h2, h3⟩
  simp
  exact ⟨⟨_, rfl⟩, .record fs, S.d_record.symm, h1, h2, h3⟩
theorem nr_leaf {k : Nat} {s : S} (hl : s.isLeaf = true) (hn : s.nice 8 k) (hk : 1 ≤ k) : okR (callT (T pa) (n + 6) ix__law_near [.ref B.b, s.d] (B.at c)) (ShP B 8 (k + 1)) := by
  refine z_run (fn := ⟨2, 7, false, b__law_near pa⟩) rfl rfl ?_
  have hw : ∃ w r, s.d = .tup (.str w :: r) ∧ w ≠ ("list" : Str) ∧ w ≠ ("maybe" : Str) ∧ w ≠ ("record" : Str) ∧ w ≠ ("either" : Str) := by
    cases s with
    | whole _ => exact ⟨_, _, S.d_whole, by simp, by simp, by simp, by simp⟩
    | word _ => exact ⟨_, _, S.d_word, by simp, by simp, by simp, by simp⟩
    | truth => exact ⟨_, _, S.d_truth, by simp, by simp, by simp, by simp⟩
    | one _ => exact ⟨_, _, S.d_one, by simp, by simp, by simp, by simp⟩
    | _ => cases hl
  obtain ⟨w, r, ew, h1, h2, h3, h4⟩ := hw
  have hnl := l_near_leaf (pa := pa) (n := n + 1) (B := B) (c := c + 1) hl (leaf_nice hl hn)
  rw [ew] at hnl
  simp only [b__law_near, startE, ew]
  simp [l_take]
  refine brB_dec (fun h => ?_) (fun h => ?_)
  · simp
    refine z_mono (l_shape (pa := pa) (B := B) 2 (n + 5) (by decide) (by omega) (c + 1)) ?_
    intro d s h
    simp
    exact h.up.le (by omega)
  simp [h1, h2, h3, h4]
  refine z_mono hnl ?_
  intro d s h
  simp
  exact h.le (by omega)
/-- a near shape -/
theorem l_near (hT : TabOk pa B) : ∀ (k n : Nat), k ≤ 10 → 2 * k + 12 ≤ n → NrAt pa B n k
  | 0, n, _, _ => fun s c h => by simp [S.nice] at h
  | k + 1, n, hk, hn => fun s c h => by
    obtain ⟨m, rfl⟩ : ∃ m, n = m + 7 := ⟨n - 7, by omega⟩
    have ih : NrAt pa B (m + 6) k := l_near hT k (m + 6) (by omega) (by omega)
    have ih5 : 2 * k + 12 ≤ m + 5 → NrAt pa B (m + 5) k := fun h => l_near hT k (m + 5) (by omega) h
    have h0 := h
    cases s with
    | list x w =>
      simp only [S.nice] at h
      by_cases hk1 : 1 ≤ k
      · exact nr_list (n := m + 1) ih h.2.2 hk1
      · have : k = 0 := by omega
        subst this
        simp [S.nice] at h
    | maybe x =>
      simp only [S.nice] at h
      by_cases hk1 : 1 ≤ k
      · exact nr_maybe (n := m + 1) ih h.2 hk1
      · have : k = 0 := by omega
        subst this
        simp [S.nice] at h
    | record rows =>
      simp only [S.nice] at h
      exact nr_record (n := m) hT (ih5 (by omega)) h.1 h.2.1 h.2.2 (by omega) (by omega)
    | either rows =>
      simp only [S.nice] at h
      by_cases hk1 : 1 ≤ k
      · exact nr_either (n := m + 1) hT ih h.1 h.2.1 h.2.2.1 h.2.2.2 hk1 (by omega)
      · have : k = 0 := by omega
        subst this
        cases rows with
        | nil => exact absurd rfl h.1
        | cons r rs => have := h.2.2.2 r (by simp); simp [S.nice] at this
    | _ => exact nr_leaf (n := m + 1) rfl h0 (by omega)
end
end SH

namespace SH
open PySem L2
theorem cut_to {α : Type} (l : List α) (i : Nat) : cutL l none (some (i : Int)) = l.take i := by
  unfold cutL
  rw [HT.sIx_nat, HT.sIx_none]
  simp only [List.drop_zero, Nat.sub_zero]
  by_cases h : i ≤ l.length
  · rw [Nat.min_eq_left h]
  · rw [Nat.min_eq_right (by omega), List.take_length, List.take_of_length_le (by omega)]
theorem depth_mem {l : List D} {x : D} (h : x ∈ l) : x.py.depth < (D.tup l).py.depth := by
  simp only [D.py, PyData.depth]
  have key : ∀ l : List D, x ∈ l → x.py.depth ≤ PyData.depthAll (D.pys l) := fun l => by
    induction l with
    | nil => intro h; cases h
    | cons y r ih =>
      intro h
      simp only [D.pys, PyData.depthAll]
      rcases List.mem_cons.mp h with rfl | h
      · omega
      · have := ih h
        omega
  have := key l h
  omega
theorem depth_lst (l : List D) : (D.lst l).py.depth = (D.tup l).py.depth := by simp only [D.py, PyData.depth]
section
variable {pa : Nat → Addr} {n : Nat} {st : Store} {d e : D} {B : Bg} {c : Nat} {m : Int}
theorem eqD_bb {neg : Bool} {a b : Bool} : eqD neg st (.bl a) (.bl b) = some (.bl (neg ^^ decide (a = b))) := by cases neg <;> cases a <;> cases b <;> rfl
theorem add_ll {a b : List D} (h : a.length + b.length ≤ 16777216) : addD st (.lst a) (.lst b) = some (.lst (a ++ b)) := by
  simp only [addD]
  exact if_pos h
/-- things that are odd: narrow, and not deep -/
def OddP (d : D) : Prop := d.wid 3 = true ∧ d.py.depth ≤ 5
theorem mul7 {i : Int} : mulD st (.int 7) (.int i) = some (.int (7 * i)) := by simp [mulD, smallI]
def odd0 : List D := [.non, .bl true, .bl false, .int (-1), .int 0, .int 1, .int 2, .int 3, .int 8, .int 9]
def odd1 : List D := [.int 20, .int 21, .int (1000000000 + 1), .str "", .str "a", .str "b", .str "zz", .str "must", .str "truth", .str "Ab"]
def odd2 : List D := [.str "abcdefghi", .tup [], .lst [], .tup [.str "a"], .lst [.str "a"], .tup [.int 1, .int 2]]
def odd3 : List D := [.tup [.str "must"], .tup [.str "else", .int 0], .tup [.str "truth"], .lst [.str "truth"], .tup [.str "truth", .int 1]]
def odd4 : List D := [.tup [.str "whole", .int 0, .int 5], .tup [.str "whole", .int 5, .int 0], .tup [.str "word", .int 3]]
def odd5 : List D := [.tup [.str "one", .tup [.str "a", .str "b"]], .tup [.str "list", .tup []], .tup [.str "record", .tup []]]
def odd6 : List D := [.tup [.str "record", .tup [.tup [.str "a", .int 1]]], .tup [.str "either", .str "a", .int 1], .tup [.str "list", .tup [.int 1, .int 2]]]
def odd7 : List D := [.tup [.str "maybe", .tup [.str "truth"]], .int 1000, .tup [.tup []]]
def oddL : List D := odd0 ++ odd1 ++ odd2 ++ odd3 ++ odd4 ++ odd5 ++ odd6 ++ odd7
theorem oddL_ok : ∀ d ∈ oddL, OddP d := by
  have : oddL.all (fun d => d.wid 3 && decide (d.py.depth ≤ 5)) = true := by decide +kernel
  intro d hd
  have := List.all_eq_true.mp this d hd
  simp only [Bool.and_eq_true, decide_eq_true_eq] at this
  exact this
theorem cut_at (l : List D) (i : Nat) : slD (.lst l) (some (i : Int)) none = some (.lst (l.drop i)) := by simp only [slD, cut_from]
theorem cut_to' (l : List D) (i : Nat) : slD (.lst l) none (some (i : Int)) = some (.lst (l.take i)) := by simp only [slD, cut_to]
/-- what spoiling gives: rows a little longer, not much deeper -/
def SplP (st : Store) (m k : Nat) (d : D) (s : Store) : Prop := s = st ∧ d.wid (m + 1) = true ∧ d.py.depth ≤ k + 5
theorem odd_spl {m k : Nat} (hm : 3 ≤ m) {s : Store} (h : s = st ∧ d ∈ oddL) : SplP st m k d s := by
  obtain ⟨h1, h2⟩ := oddL_ok _ h.2
  exact ⟨h.1, D.wid_mono (by omega) h1, by omega⟩
theorem drop_map (ps : List Int) (i : Nat) : slD (.lst (ps.map D.int)) (some (i : Int)) none = some (.lst ((ps.drop i).map D.int)) := by
  rw [cut_at, List.map_drop]
theorem spl_rows {m k : Nat} {l : List D} {x : D} (tup : Bool) (hm : 3 ≤ m) (hl : l.length ≤ m + 1) (h : ∀ y ∈ l, y.wid (m + 1) = true ∧ y.py.depth < k + 5) : SplP st m k (if tup = true then .tup l else .lst l) st := by
  have h1 : (D.tup l).py.depth ≤ k + 5 := by
    have := depth_tup (l := l) (m := k + 4) fun y hy => by have := (h y hy).2; omega
    omega
  cases tup with
  | true => exact ⟨rfl, wid_tup.mpr ⟨hl, fun y hy => (h y hy).1⟩, h1⟩
  | false => exact ⟨rfl, wid_lst.mpr ⟨hl, fun y hy => (h y hy).1⟩, by show (D.lst l).py.depth ≤ k + 5; rw [depth_lst]; exact h1⟩
theorem get3 {ps : List Int} (h : 3 ≤ ps.length) : ∃ a b c : Int, L2.atI (ps.map D.int) 0 = some (.int a) ∧ L2.atI (ps.map D.int) 1 = some (.int b) ∧ L2.atI (ps.map D.int) 2 = some (.int c) := by
  match ps, h with
  | a :: b :: c :: r, _ => exact ⟨a, b, c, by simp, by simp, by simp⟩
end
end SH

namespace SH
open PySem L2
theorem st0_at {pa : Nat → Addr} : ∀ {qs : List Str} {i j : Nat} {q : Str}, qs[j]? = some q → (st0 qs pa i)[j]? = some (O.tab q (pa (i + j)))
  | [], i, j, q, h => by simp at h
  | x :: r, i, 0, q, h => by simp at h; subst h; simp [st0]
  | x :: r, i, j + 1, q, h => by
    have := st0_at (pa := pa) (qs := r) (i := i + 1) (j := j) (q := q) (by simpa using h)
    simp only [st0, List.getElem?_cons_succ, this]
    rw [show i + 1 + j = i + (j + 1) by omega]
/-- the store of a law's run: tables, then bags -/
def LawSt (pa : Nat → Addr) (k : Nat) (s : Store) : Prop := s.length = lamQs.length + k ∧ (∀ j < lamQs.length, s[j]? = (st0 lamQs pa 0)[j]?) ∧ ∀ b, lamQs.length ≤ b → b < lamQs.length + k → BagIn b s
theorem lawSt_bags {pa : Nat → Addr} {k : Nat} {s : Store} (h : BagsI (st0 lamQs pa 0) k s) : LawSt pa k s := by
  obtain ⟨h1, h2, h3⟩ := h
  rw [st0_len] at h1 h2 h3
  exact ⟨h1, h2, h3⟩
/-- a bag of the run -/
theorem LawSt.bag {pa : Nat → Addr} {k b : Nat} {s : Store} (h : LawSt pa k s) (h1 : lamQs.length ≤ b) (h2 : b < lamQs.length + k) : ∃ (B : Bg) (c : Nat), B.b = b ∧ s = B.at c ∧ TabOk pa B ∧ ∀ c', LawSt pa k (B.at c') := by
  obtain ⟨g1, g2, g3⟩ := h
  obtain ⟨B, c, e1, e2, e3⟩ := (g3 b h1 h2).at
  refine ⟨B, c, e1, e3, fun j q hq c' => ?_, fun c' => ⟨?_, fun j hj => ?_, fun b' hb1 hb2 => ?_⟩⟩
  · have hj : j < lamQs.length := (List.getElem?_eq_some_iff.mp hq).1
    rw [Bg.other (by omega), e2, g2 j hj, st0_at hq, Nat.zero_add]
  · rw [Bg.len_at, e2, g1]
  · rw [Bg.other (by omega), e2]
    exact g2 j hj
  · by_cases hb : b' = B.b
    · subst hb
      exact B.bagIn
    · exact Bg.bagOther (by rw [e2]; exact g3 b' hb1 hb2) hb
theorem pick0 (B : Bg) (c : Nat) : ixD (B.at c) (.ref B.b) (.int 0) = some (.lst (B.ps.map D.int)) := by simp [ixD]
theorem pick1 (B : Bg) (c : Nat) : ixD (B.at c) (.ref B.b) (.int 1) = some (.int c) := by simp [ixD]
theorem pick_sl (B : Bg) {z : Int} (h : 0 ≤ z) : slD (.lst (B.ps.map D.int)) (some z) none = some (.lst ((B.ps.drop z.toNat).map D.int)) := by
  have := drop_map B.ps z.toNat
  rw [show ((z.toNat : Nat) : Int) = z by omega] at this
  exact this
theorem pick_len (B : Bg) {z : Int} (h : z < 390) : 5 ≤ (B.ps.drop z.toNat).length := by
  rw [List.length_drop, B.len]
  omega
theorem add_l {st : Store} {a b : List D} (h : a.length + b.length ≤ 16777216) : addD st (.lst a) (.lst b) = some (.lst (a ++ b)) := add_ll h
theorem rangeL_mem {k : Nat} {x : D} (h : x ∈ rangeL k) : ∃ i < k, x = .int (i : Nat) := by
  obtain ⟨i, hi, rfl⟩ := List.mem_map.mp h
  exact ⟨i, List.mem_range.mp hi, rfl⟩
theorem enums_mem {l : List D} {x : D} (h : x ∈ enums l) : ∃ (i : Nat), ∃ y ∈ l, x = .tup [.int i, y] := by
  obtain ⟨p, hp, rfl⟩ := List.mem_map.mp h
  exact ⟨p.2, p.1, (List.mem_zipIdx' hp).2 ▸ List.getElem_mem _, rfl⟩
end SH

namespace SH
open PySem
structure Rdy (m : Nat) (d : D) : Prop where
  w : d.py.weight ≤ m
  c : d.py.canLay0 = true
  i : d.py.intsShort 13 = true
  s : d.py.showable = true
theorem Rdy.mono {m k : Nat} {d : D} (h : Rdy m d) (hk : m ≤ k) : Rdy k d := ⟨Nat.le_trans h.w hk, h.c, h.i, h.s⟩
theorem rdy_non : Rdy 0 .non := ⟨by simp [D.py, PyData.weight], by simp [D.py, PyData.canLay0], by simp [D.py, PyData.intsShort], by simp [D.py, PyData.showable]⟩
theorem rdy_bl (b : Bool) : Rdy 0 (.bl b) := ⟨by simp [D.py, PyData.weight], by simp [D.py, PyData.canLay0], by simp [D.py, PyData.intsShort], by simp [D.py, PyData.showable]⟩
theorem rdy_str {s : Str} (h : PyData.strOk s = true) : Rdy s.length (.str s) := ⟨by simp [D.py, PyData.weight, Str.length], by simpa [D.py, PyData.canLay0] using h, by simp [D.py, PyData.intsShort], by simp [D.py, PyData.showable]⟩
theorem log2_le {n : Nat} {k : Nat} (h : n < 2 ^ (k + 1)) : n.log2 ≤ k := by
  by_cases h0 : n = 0
  · subst h0; simp
  · have := (Nat.log2_lt h0).mpr h
    omega
theorem rdy_int {i : Int} (h : i.natAbs ≤ 2000000000) : Rdy 31 (.int i) := by
  have hl : i.natAbs.log2 ≤ 30 := log2_le (by omega)
  refine ⟨?_, by simp [D.py, PyData.canLay0], ?_, ?_⟩
  · simp only [D.py, PyData.weight]
    split <;> omega
  · simp only [D.py, PyData.intsShort]
    exact decide_eq_true (PyData.shown_int_le (by omega))
  · simp only [D.py, PyData.showable]
    exact decide_eq_true (by omega)
theorem rdy_nil : Rdy 0 (.tup []) := ⟨by simp [D.py, D.pys, PyData.weight, PyData.weightAll], by simp [D.py, D.pys, PyData.canLay0, PyData.canLayAll0], by simp [D.py, D.pys, PyData.intsShort, PyData.intsShortAll], by simp [D.py, D.pys, PyData.showable, PyData.showableAll]⟩
theorem rdy_cons {m k : Nat} {x : D} {l : List D} (h : Rdy m x) (g : Rdy k (.tup l)) : Rdy (m + 1 + k) (.tup (x :: l)) := by
  have g1 := g.w; have g2 := g.c; have g3 := g.i; have g4 := g.s
  simp only [D.py, PyData.weight, PyData.canLay0, PyData.intsShort, PyData.showable] at g1 g2 g3 g4
  refine ⟨?_, ?_, ?_, ?_⟩
  · simp only [D.py, D.pys, PyData.weight, PyData.weightAll]
    have := h.w
    omega
  · simp only [D.py, D.pys, PyData.canLay0, PyData.canLayAll0, h.c, g2, Bool.and_self]
  · simp only [D.py, D.pys, PyData.intsShort, PyData.intsShortAll, h.i, g3, Bool.and_self]
  · simp only [D.py, D.pys, PyData.showable, PyData.showableAll, h.s, g4, Bool.and_self]
theorem rdy_all {m : Nat} : ∀ {l : List D}, (∀ x ∈ l, Rdy m x) → Rdy (l.length * (m + 1)) (.tup l)
  | [], _ => rdy_nil.mono (by omega)
  | x :: l, h => (rdy_cons (h x List.mem_cons_self) (rdy_all fun y hy => h y (List.mem_cons_of_mem _ hy))).mono (by rw [List.length_cons, Nat.succ_mul]; omega)
theorem rdy_repr {m : Nat} {d : D} {st : Store} (h : Rdy m d) (hm : m ≤ 1048576) (hp : d.plain = true) (hd : d.py.depth ≤ 60) : reprB st d = some (.str d.py.shown) := by
  have hl : d.py.shown.length ≤ sizeLine := PyData.shown_fits (B := 13) (by decide) (by decide) (PyData.leavesShort_of_canLay0 13 d.py h.c h.i) (Nat.le_trans h.w hm)
  have ok : reprOk d = true := by
    unfold reprOk
    rw [hp, h.s, decide_eq_true hd, decide_eq_true hl]
    rfl
  unfold reprB
  split
  · simp only [D.py, PyData.shown]
  · rw [if_pos ok]
theorem letters_strOk {s : Str} (h : lettersS s = true) : PyData.strOk s = true := by
  rw [strOk_iff]
  intro c hc
  unfold lettersS at h
  have h1 := List.all_eq_true.mp h c hc
  have h2 : ∀ c ∈ ("abcdefghijklmnopqrstuvwxyz" : Str).cps.toList, c < 0x110000 := by decide +kernel
  exact h2 c (of_decide_eq_true h1)
theorem rdy_name {s : Str} (h : nameS s = true) : Rdy 8 (.str s) := by
  unfold nameS at h
  simp only [Bool.and_eq_true, decide_eq_true_eq] at h
  exact (rdy_str (letters_strOk (by first | exact h.1 | exact h.1.1))).mono (by omega)
theorem rdy_word {w : Str} (hw : w.length ≤ 6) (h : PyData.strOk w = true) : Rdy 6 (.str w) := (rdy_str h).mono hw
theorem val_rdy : ∀ (k : Nat) (s : S) (v : D), s.ok k → isVal s v = true → ∃ m, Rdy m v ∧ m + 14 ≤ 6 * 8 ^ k
  | 0, s, v, hs, _ => by simp [S.ok] at hs
  | k + 1, s, v, hs, h => by
    have ih := val_rdy k
    have e8 : 6 * 8 ^ (k + 1) = 8 * (6 * 8 ^ k) := by rw [Nat.pow_succ]; omega
    have e1 : 1 ≤ 8 ^ k := Nat.pos_of_ne_zero (by simp)
    cases s with
    | whole lo hi =>
      simp only [S.ok] at hs
      obtain ⟨i, rfl, h1, h2⟩ := within_eq (by simpa only [isVal] using h)
      exact ⟨31, rdy_int (by omega), by omega⟩
    | word n =>
      simp only [S.ok] at hs
      cases v with
      | str s =>
        simp only [isVal, Bool.and_eq_true, decide_eq_true_eq] at h
        exact ⟨_, rdy_str (letters_strOk h.1), by omega⟩
      | _ => simp [isVal] at h
    | truth =>
      cases v with
      | bl b => exact ⟨_, rdy_bl b, by omega⟩
      | _ => simp [isVal, tyBl] at h
    | one ss =>
      simp only [S.ok] at hs
      cases v with
      | str s =>
        simp only [isVal, decide_eq_true_eq] at h
        exact ⟨_, rdy_name (List.all_eq_true.mp hs.2.2.1 s h), by omega⟩
      | _ => simp [isVal] at h
    | list x n =>
      simp only [S.ok] at hs
      obtain ⟨l, rfl, hl, hv⟩ := val_list h
      have key : ∀ y ∈ l, Rdy (6 * 8 ^ k - 14) y := fun y hy => by
        obtain ⟨m, h1, h2⟩ := ih x y hs.2.2 (hv y hy)
        exact h1.mono (by omega)
      refine ⟨_, rdy_cons (rdy_word (w := "list") (by decide +kernel) (by decide +kernel)) (rdy_cons (rdy_all key) rdy_nil), ?_⟩
      have hb : l.length * (6 * 8 ^ k - 14 + 1) ≤ 8 * (6 * 8 ^ k - 14 + 1) := Nat.mul_le_mul_right _ (by omega)
      by_cases hk : 14 ≤ 6 * 8 ^ k
      · omega
      · match l with
        | [] => simp; omega
        | y :: l =>
          obtain ⟨m, h1, h2⟩ := ih x y hs.2.2 (hv y (by simp))
          omega
    | maybe x =>
      simp only [S.ok] at hs
      simp only [isVal, Bool.or_eq_true] at h
      rcases h with h | h
      · cases v with
        | non => exact ⟨_, rdy_non, by omega⟩
        | _ => simp [D.isNon] at h
      · obtain ⟨m, h1, h2⟩ := ih x v hs.2 h
        exact ⟨m, h1, by omega⟩
    | record rows =>
      simp only [S.ok] at hs
      obtain ⟨ps, rfl, hnm, hris, hv, _⟩ := val_pairs h
      have hl : (ps.map (·.1)).length ≤ (rows.map (·.1)).length := sub_len hris.nodup fun z hz => by
        obtain ⟨p, hp, rfl⟩ := List.mem_map.mp hz
        obtain ⟨a, ha, _⟩ := hv p hp
        exact List.mem_map.mpr ⟨_, ha, rfl⟩
      simp only [List.length_map] at hl
      have key : ∀ y ∈ ps.map prD, Rdy (8 + 1 + (6 * 8 ^ k - 14 + 1 + 0)) y := fun y hy => by
        obtain ⟨p, hp, rfl⟩ := List.mem_map.mp hy
        obtain ⟨a, ha, _, hva⟩ := hv p hp
        obtain ⟨m, h1, h2⟩ := ih a.1 p.2 (hs.2.2.2 _ ha).1 hva
        exact rdy_cons (rdy_name (List.all_eq_true.mp hnm _ (List.mem_map_of_mem hp))) (rdy_cons (h1.mono (by omega)) rdy_nil)
      refine ⟨_, rdy_cons (rdy_word (w := "record") (by decide +kernel) (by decide +kernel)) (rdy_cons (rdy_all key) rdy_nil), ?_⟩
      have hb : (ps.map prD).length * (8 + 1 + (6 * 8 ^ k - 14 + 1 + 0) + 1) ≤ 8 * (8 + 1 + (6 * 8 ^ k - 14 + 1 + 0) + 1) := Nat.mul_le_mul_right _ (by rw [List.length_map]; omega)
      by_cases hk : 14 ≤ 6 * 8 ^ k
      · omega
      · match ps with
        | [] => simp; omega
        | p :: ps =>
          obtain ⟨a, ha, _, hva⟩ := hv p (by simp)
          obtain ⟨m, h1, h2⟩ := ih a.1 p.2 (hs.2.2.2 _ ha).1 hva
          omega
    | either rows =>
      simp only [S.ok] at hs
      obtain ⟨g, a, x, rfl, ha, _, hv⟩ := val_either h
      obtain ⟨m, h1, h2⟩ := ih a x (hs.2.2.2.2 _ ha) hv
      exact ⟨_, rdy_cons (rdy_word (w := "either") (by decide +kernel) (by decide +kernel)) (rdy_cons (rdy_name (List.all_eq_true.mp hs.2.2.1 _ (List.mem_map.mpr ⟨_, ha, rfl⟩))) (rdy_cons h1 rdy_nil)), by omega⟩
/-- values are shown -/
theorem val_repr {k : Nat} {s : S} {v : D} {st : Store} (hk : k ≤ 5) (hs : s.ok k) (h : isVal s v = true) : reprB st v = some (.str v.py.shown) := by
  obtain ⟨m, h1, h2⟩ := val_rdy k s v hs h
  have : 6 * 8 ^ k ≤ 6 * 8 ^ 5 := Nat.mul_le_mul_left _ (Nat.pow_le_pow_right (by decide) hk)
  have h3 : m ≤ 1048576 := by omega
  exact rdy_repr h1 h3 (val_plain hs h) (by have := val_depth k s v hs h; omega)
end SH

namespace SH
open PySem
mutual
def S.least : S → D
  | .whole lo hi => .int (if hi < (if lo > 0 then lo else 0) then hi else (if lo > 0 then lo else 0))
  | .word _ => .str ""
  | .truth => .bl false
  | .one ss => .str (ss.headD "")
  | .list _ _ => .tup [.str "list", .tup []]
  | .maybe _ => .non
  | .record rows => .tup [.str "record", .tup (leastF rows)]
  | .either rows => leastE rows
def leastF : List (Str × S × Option D) → List D
  | [] => []
  | (n, s, none) :: r => .tup [.str n, S.least s] :: leastF r
  | (n, s, some _) :: r => leastF r
def leastE : List (Str × S) → D
  | [] => .non
  | (n, s) :: r => .tup [.str "either", .str n, S.least s]
end
def leastP (rows : List Fld) : List (Str × D) := (rows.filter fun r => r.2.2.isNone).map fun r => (r.1, r.2.1.least)
theorem leastF_eq : ∀ rows : List Fld, leastF rows = (leastP rows).map prD
  | [] => rfl
  | (n, s, none) :: r => by
    have := leastF_eq r
    simp [leastF, leastP, prD] at this ⊢
    exact this
  | (n, s, some _) :: r => by
    have := leastF_eq r
    simp [leastF, leastP] at this ⊢
    exact this
theorem least_val : ∀ (k : Nat) (s : S), s.ok k → isVal s s.least = true
  | 0, s, h => by simp [S.ok] at h
  | k + 1, s, h => by
    have ih := least_val k
    cases s with
    | whole lo hi =>
      simp only [S.ok] at h
      have : lo ≤ (if hi < (if lo > 0 then lo else 0) then hi else (if lo > 0 then lo else 0)) ∧ (if hi < (if lo > 0 then lo else 0) then hi else (if lo > 0 then lo else 0)) ≤ hi := by
        split <;> split at * <;> omega
      simp only [S.least, isVal, within]
      simp [this]
    | word n =>
      simp only [S.ok] at h
      have e1 : lettersS "" = true := rfl
      have e2 : ((("" : Str).length : Nat) : Int) = 0 := rfl
      simp [S.least, isVal, e1, e2, h.1]
    | truth => simp [S.least, isVal, tyBl]
    | one ss =>
      simp only [S.ok] at h
      match ss, h with
      | s :: ss, _ => simp [S.least, isVal]
      | [], h => simp at h
    | list x n =>
      simp only [S.ok] at h
      simp [S.least, isVal, strIs, h.1]
    | maybe x => simp [S.least, isVal, D.isNon]
    | record rows =>
      simp only [S.ok] at h
      simp only [S.least, leastF_eq]
      have e : (leastP rows).map (·.1) = (rows.filter fun r => r.2.2.isNone).map (·.1) := by simp [leastP, List.map_map, Function.comp_def]
      refine rec_val h.2.1 (rises_iff.mp h.2.2.1) ?_ (fun p hp => ?_) fun r hr hn => ?_
      · rw [e]
        exact List.filter_sublist.map _
      · obtain ⟨r, hr, rfl⟩ := List.mem_map.mp hp
        have hr' := (List.mem_filter.mp hr).1
        exact ⟨r.2, hr', ih _ (h.2.2.2 r hr').1⟩
      · rw [e]
        exact List.mem_map.mpr ⟨r, List.mem_filter.mpr ⟨hr, by rw [hn]; rfl⟩, rfl⟩
    | either rows =>
      simp only [S.ok] at h
      match rows, h with
      | (n, s) :: r, h =>
        have := ih s (h.2.2.2.2 (n, s) (by simp))
        simp [S.least, leastE, isVal, valE, strIs, this]
      | [], h => simp at h
section
variable {pa : Nat → Addr} {st : Store}
theorem in_two {a b c : Str} : inD false st (.str a) (.tup [.str b, .str c]) = some (.bl (decide (a = b) || decide (a = c))) := by
  have := inD_strs (neg := false) (st := st) (a := a) (ss := [b, c])
  simpa using this
theorem r_least : ∀ (k n : Nat) (s : S), k + 1 ≤ n → s.ok k → callT (T pa) n ix_least_value [s.d] st = .ok s.least st
  | 0, n, s, _, h => by simp [S.ok] at h
  | k + 1, n, s, hn, h => by
    obtain ⟨m, rfl⟩ : ∃ m, n = m + 1 := ⟨n - 1, by omega⟩
    have ih := fun s h => r_least k m s (by omega) h
    have hp := S.ok_plain h
    apply okR.eq
    refine z_run (fn := ⟨1, 5, false, b_least_value⟩) rfl rfl ?_
    cases s with
    | whole lo hi => simp [S.d_whole, ↓b_least_value, startE, S.least]
    | word n => simp [S.d_word, ↓b_least_value, startE, S.least, in_two]
    | truth => simp [S.d_truth, ↓b_least_value, startE, S.least, in_two]
    | one ss =>
      simp only [S.ok] at h
      match ss, h with
      | s :: ss, _ => simp [S.d_one, ↓b_least_value, startE, S.least, in_two]
      | [], h => simp at h
    | list x n => simp [S.d_list, ↓b_least_value, startE, S.least, in_two]
    | maybe x => simp [S.d_maybe, ↓b_least_value, startE, S.least, in_two]
    | record rows =>
      simp only [S.ok] at h
      have hpr := plain_flds hp
      simp [S.d_record, ↓b_least_value, startE, in_two]
      refine w_compIf (xs := rows) fldD (fun r => prD (r.1, r.2.1.least)) (fun r => r.2.2.isNone) (by simp [elems]) (fun r hm => ⟨_, by simp [fldD, wipeE]; rfl, ?_, fun _ => ?_⟩) ?_
      · simp [isMust_nd (hpr _ hm).2.2]
      · simp [ih r.2.1 (h.2.2.2 r hm).1, prD]
      · have e : (leastP rows).map prD = (rows.filter fun r => r.2.2.isNone).map fun r => prD (r.1, r.2.1.least) := by rw [leastP, List.map_map]; rfl
        simp [S.least, leastF_eq, e]
    | either rows =>
      simp only [S.ok] at h
      match rows, h with
      | (n, s) :: r, h =>
        simp [S.d_either, ↓b_least_value, startE, S.least, leastE, in_two, tagD, ih s (h.2.2.2.2 (n, s) (by simp))]
      | [], h => simp at h
end
end SH

namespace SH
open PySem
/-- the first that is strange -/
def fsome : List (D × Option (List D)) → Option (List D)
  | [] => none
  | a :: r => match a.2 with
    | some p => some p
    | none => fsome r
theorem fsome_cons {a : D × Option (List D)} {r : List (D × Option (List D))} : fsome (a :: r) = match a.2 with
    | some p => some p
    | none => fsome r := rfl
theorem fsome_none : ∀ {l : List (D × Option (List D))}, fsome l = none ↔ ∀ a ∈ l, a.2 = none
  | [] => by simp [fsome]
  | a :: r => by
    unfold fsome
    cases h : a.2 with
    | none => simp [h, fsome_none (l := r)]
    | some p => simp [h]
theorem fsome_app {l m : List (D × Option (List D))} (h : ∀ a ∈ l, a.2 = none) : fsome (l ++ m) = fsome m := by
  induction l with
  | nil => rfl
  | cons a l ih =>
    have ha : a.2 = none := h a (by simp)
    have e : fsome (a :: (l ++ m)) = fsome (l ++ m) := by
      rw [fsome, ha]
    rw [List.cons_append, e]
    exact ih fun b hb => h b (by simp [hb])
def lkD (prs : List D) (n : Str) : Option D := lkp (prs.map fun q => (rowKey q, ndD q)) n
theorem lkD_map (ps : List (Str × D)) (n : Str) : lkD (ps.map prD) n = lkp ps n := by
  unfold lkD
  rw [List.map_map]
  congr 1
  exact (List.map_congr_left fun q _ => rfl).trans (List.map_id _)
mutual
/-- what is taken of a thing at a path; the path by which it is strange -/
def tk : S → D → List D → D × Option (List D)
  | .whole lo hi, d, p => if within lo hi d = true then (d, none) else (.non, some p)
  | .word n, d, p => if isVal (.word n) d = true then (d, none) else (.non, some p)
  | .truth, d, p => if tyBl d = true then (d, none) else (.non, some p)
  | .one ss, d, p => if isVal (.one ss) d = true then (d, none) else (.non, some p)
  | .maybe s, d, p => if d.isNon = true then (.non, none) else tk s d p
  | .list s n, d, p => match d with
    | .tup [t, .tup l] => if (strIs "list" t && decide ((l.length : Int) ≤ n)) = true then
        (.tup [.str "list", .tup ((l.zipIdx.map fun q => tk s q.1 (p ++ [.int (q.2 : Nat)])).map (·.1))], fsome (l.zipIdx.map fun q => tk s q.1 (p ++ [.int (q.2 : Nat)]))) else (.non, some p)
    | _ => (.non, some p)
  | .record rows, d, p => match d with
    | .tup [t, .tup prs] => if (strIs "record" t && arePairs (.tup prs)) = true then (.tup [.str "record", .tup ((tkF rows prs p).map fun q => prD (q.1, q.2.1))], fsome ((tkF rows prs p).map (·.2))) else (.non, some p)
    | _ => (.non, some p)
  | .either rows, d, p => match d with
    | .tup [t, .str g, x] => if strIs "either" t = true then tkE rows g x p else (.non, some p)
    | _ => (.non, some p)
def tkF : List (Str × S × Option D) → List D → List D → List (Str × D × Option (List D))
  | [], _, _ => []
  | (n, s, need) :: r, prs, p => (n, match lkD prs n with
      | some x => tk s x (p ++ [.str n])
      | none => match need with
        | none => (.non, some (p ++ [.str n]))
        | some v => tk s v (p ++ [.str n])) :: tkF r prs p
def tkE : List (Str × S) → Str → D → List D → D × Option (List D)
  | [], _, _, p => (.non, some p)
  | (n, s) :: r, g, x, p => if n = g then (.tup [.str "either", .str g, (tk s x (p ++ [.str g])).1], (tk s x (p ++ [.str g])).2) else tkE r g x p
end
/-- a field of a record taken -/
def tkR (prs : List D) (p : List D) (r : Fld) : D × Option (List D) := match lkD prs r.1 with
  | some x => tk r.2.1 x (p ++ [.str r.1])
  | none => match r.2.2 with
    | none => (.non, some (p ++ [.str r.1]))
    | some v => tk r.2.1 v (p ++ [.str r.1])
theorem tkF_eq (prs p : List D) : ∀ rows : List Fld, tkF rows prs p = rows.map fun r => (r.1, tkR prs p r)
  | [] => by simp [tkF]
  | (n, s, x) :: r => by
    simp only [tkF, List.map_cons]
    rw [tkF_eq prs p r]
    rfl
theorem tkE_eq (g : Str) (x : D) (p : List D) : ∀ rows : List (Str × S), tkE rows g x p = match lkp rows g with
    | some s => (.tup [.str "either", .str g, (tk s x (p ++ [.str g])).1], (tk s x (p ++ [.str g])).2)
    | none => (.non, some p)
  | [] => by simp [tkE, lkp]
  | (n, s) :: r => by
    simp only [tkE]
    unfold lkp
    split
    · rfl
    · exact tkE_eq g x p r
theorem tk_whole {lo hi : Int} {d : D} {p : List D} : tk (.whole lo hi) d p = if isVal (.whole lo hi) d = true then (d, none) else (.non, some p) := by simp only [tk, isVal]; rfl
theorem tk_word {n : Int} {d : D} {p : List D} : tk (.word n) d p = if isVal (.word n) d = true then (d, none) else (.non, some p) := by simp only [tk]
theorem tk_truth {d : D} {p : List D} : tk .truth d p = if isVal .truth d = true then (d, none) else (.non, some p) := by simp only [tk, isVal]; rfl
theorem tk_one {ss : List Str} {d : D} {p : List D} : tk (.one ss) d p = if isVal (.one ss) d = true then (d, none) else (.non, some p) := by simp only [tk]
theorem tk_maybe {s : S} {d : D} {p : List D} : tk (.maybe s) d p = if d.isNon = true then (.non, none) else tk s d p := by simp only [tk]
theorem tk_list {s : S} {n : Int} {l : List D} {p : List D} : tk (.list s n) (.tup [.str "list", .tup l]) p = if (l.length : Int) ≤ n then
        (.tup [.str "list", .tup ((l.zipIdx.map fun q => tk s q.1 (p ++ [.int (q.2 : Nat)])).map (·.1))], fsome (l.zipIdx.map fun q => tk s q.1 (p ++ [.int (q.2 : Nat)]))) else (.non, some p) := by
  simp only [tk, strIs]
  simp
theorem tk_record {rows : List Fld} {ps : List (Str × D)} {p : List D} (h : (ps.map (·.1)).all nameS = true) (h2 : Ris (ps.map (·.1))) :
    tk (.record rows) (.tup [.str "record", .tup (ps.map prD)]) p = (.tup [.str "record", .tup (rows.map fun r => prD (r.1, (tkR (ps.map prD) p r).1))], fsome (rows.map (tkR (ps.map prD) p))) := by
  have e : arePairs (.tup (ps.map prD)) = true := by
    rw [arePairs_map, h, rises_iff.mpr h2]
    rfl
  simp only [tk, e, strIs]
  simp [tkF_eq, List.map_map, Function.comp_def]
theorem tk_either {rows : List (Str × S)} {g : Str} {x : D} {p : List D} : tk (.either rows) (.tup [.str "either", .str g, x]) p = match lkp rows g with
    | some s => (.tup [.str "either", .str g, (tk s x (p ++ [.str g])).1], (tk s x (p ++ [.str g])).2)
    | none => (.non, some p) := by
  simp only [tk, strIs]
  rw [tkE_eq]
  simp
/-- the sort of a thing; of a shape that is no maybe -/
def D.cls : D → Nat
  | .int _ => 1
  | .str _ => 2
  | .bl _ => 3
  | .tup [.str w, .tup _] => if w = "list" then 4 else if w = "record" then 5 else 0
  | .tup [.str w, .str _, _] => if w = "either" then 6 else 0
  | _ => 0
def S.cls : S → Nat
  | .whole _ _ => 1
  | .word _ => 2
  | .truth => 3
  | .one _ => 2
  | .list _ _ => 4
  | .maybe _ => 0
  | .record _ => 5
  | .either _ => 6
theorem val_cls {s : S} {v : D} (h : isVal s v = true) (hm : s.isMaybe = false) : v.cls = s.cls := by
  cases s with
  | whole lo hi => obtain ⟨i, rfl, _⟩ := within_eq (by simpa only [isVal] using h); rfl
  | word n => cases v <;> first | rfl | simp [isVal] at h
  | truth => cases v <;> first | rfl | simp [isVal, tyBl] at h
  | one ss => cases v <;> first | rfl | simp [isVal] at h
  | list x n => obtain ⟨l, rfl, _⟩ := val_list h; rfl
  | maybe x => simp [S.isMaybe] at hm
  | record rows => obtain ⟨ps, rfl, _⟩ := val_pairs h; rfl
  | either rows => obtain ⟨g, a, x, rfl, _⟩ := val_either h; rfl
theorem tk_cls {s : S} {v : D} {p : List D} (hm : s.isMaybe = false) (hc : v.cls ≠ s.cls) : tk s v p = (.non, some p) := by
  cases s with
  | whole lo hi => rw [tk_whole, if_neg fun h => hc (val_cls h hm)]
  | word n => rw [tk_word, if_neg fun h => hc (val_cls h hm)]
  | truth => rw [tk_truth, if_neg fun h => hc (val_cls h hm)]
  | one ss => rw [tk_one, if_neg fun h => hc (val_cls h hm)]
  | list x n =>
    simp only [tk]
    split
    · rename_i t l
      rw [if_neg]
      intro h
      simp only [Bool.and_eq_true] at h
      rw [strIs_eq h.1] at hc
      exact hc rfl
    · rfl
  | maybe x => simp [S.isMaybe] at hm
  | record rows =>
    simp only [tk]
    split
    · rename_i t l
      rw [if_neg]
      intro h
      simp only [Bool.and_eq_true] at h
      rw [strIs_eq h.1] at hc
      exact hc rfl
    · rfl
  | either rows =>
    simp only [tk]
    split
    · rename_i t g x
      rw [if_neg]
      intro h
      rw [strIs_eq h] at hc
      exact hc rfl
    · rfl
theorem isNon_eq {d : D} (h : d.isNon = true) : d = .non := by cases d <;> first | rfl | cases h
theorem non_val {s : S} (hm : s.isMaybe = false) : isVal s .non = false := by
  cases h : isVal s .non with
  | false => rfl
  | true =>
    have := val_cls h hm
    cases s <;> first | (cases this; done) | (simp [S.isMaybe] at hm)
/-- a shape takes its own values -/
theorem tk_self : ∀ (k : Nat) (s : S) (v : D) (p : List D), s.ok k → isVal s v = true → (tk s v p).2 = none
  | 0, s, v, p, h, _ => by simp [S.ok] at h
  | k + 1, s, v, p, hs, h => by
    have ih := tk_self k
    cases s with
    | whole lo hi => rw [tk_whole, if_pos h]
    | word n => rw [tk_word, if_pos h]
    | truth => rw [tk_truth, if_pos h]
    | one ss => rw [tk_one, if_pos h]
    | list x n =>
      simp only [S.ok] at hs
      obtain ⟨l, rfl, hl, hv⟩ := val_list h
      rw [tk_list, if_pos hl]
      refine fsome_none.mpr fun a ha => ?_
      obtain ⟨q, hq, rfl⟩ := List.mem_map.mp ha
      exact ih x q.1 _ hs.2.2 (hv _ ((List.mem_zipIdx' hq).2 ▸ List.getElem_mem _))
    | maybe x =>
      simp only [S.ok] at hs
      simp only [isVal, Bool.or_eq_true] at h
      rw [tk_maybe]
      split
      · rfl
      · rename_i hn
        exact ih x v p hs.2 (h.resolve_left hn)
    | record rows =>
      simp only [S.ok] at hs
      obtain ⟨ps, rfl, hnm, hris, hv, hmust⟩ := val_pairs h
      rw [tk_record hnm hris]
      refine fsome_none.mpr fun a ha => ?_
      obtain ⟨r, hr, rfl⟩ := List.mem_map.mp ha
      unfold tkR
      rw [lkD_map]
      cases hl : lkp ps r.1 with
      | some x =>
        obtain ⟨a, _, h2, h3⟩ := hv _ (lkp_mem hl)
        have h4 : lkp rows r.1 = some r.2 := lkp_of_mem (rises_iff.mp hs.2.2.1).nodup hr
        simp only at h2
        rw [h4] at h2
        cases h2
        exact ih _ x _ (hs.2.2.2 r hr).1 h3
      | none =>
        have hnot := lkp_none.mp hl
        cases hx : r.2.2 with
        | none => exact absurd (hmust r hr hx) hnot
        | some v => exact ih _ v _ (hs.2.2.2 r hr).1 ((hs.2.2.2 r hr).2 v hx)
    | either rows =>
      simp only [S.ok] at hs
      obtain ⟨g, a, x, rfl, ha, hl, hv⟩ := val_either h
      rw [tk_either, hl]
      exact ih a x _ (hs.2.2.2.2 _ ha) hv
/-- a step of a path -/
def PthEl (x : D) : Prop := (∃ s, x = .str s ∧ nameS s = true) ∨ ∃ i : Nat, x = .int i ∧ i ≤ 8
theorem PthEl.plain {x : D} (h : PthEl x) : x.plain = true := by
  rcases h with ⟨s, rfl, _⟩ | ⟨i, rfl, _⟩ <;> rfl
theorem fsome_mem : ∀ {l : List (D × Option (List D))} {q : List D}, fsome l = some q → ∃ a ∈ l, a.2 = some q
  | [], _, h => by cases h
  | a :: l, q, h => by
    rw [fsome_cons] at h
    cases h2 : a.2 with
    | some p => rw [h2] at h; exact ⟨a, by simp, by rw [h2]; exact h⟩
    | none =>
      rw [h2] at h
      obtain ⟨b, hb, e⟩ := fsome_mem h
      exact ⟨b, by simp [hb], e⟩
theorem tk_path : ∀ (k : Nat) (s : S) (d : D) (p q : List D), s.ok k → (tk s d p).2 = some q → ∃ r, q = p ++ r ∧ r.length ≤ k ∧ ∀ x ∈ r, PthEl x
  | 0, s, d, p, q, h, _ => by simp [S.ok] at h
  | k + 1, s, d, p, q, hs, h => by
    have ih := tk_path k
    have leaf : some p = some q → ∃ r, q = p ++ r ∧ r.length ≤ k + 1 ∧ ∀ x ∈ r, PthEl x := fun e => by
      cases e
      exact ⟨[], by simp, by simp, by simp⟩
    have step : ∀ (s : S) (d : D) (x : D), s.ok k → PthEl x → (tk s d (p ++ [x])).2 = some q → ∃ r, q = p ++ r ∧ r.length ≤ k + 1 ∧ ∀ x ∈ r, PthEl x := fun s d x hs hx h => by
      obtain ⟨r, rfl, hl, hr⟩ := ih s d _ q hs h
      exact ⟨x :: r, by simp, by simp; omega, fun y hy => (List.mem_cons.mp hy).elim (fun e => e ▸ hx) (hr y)⟩
    have at_ : ∀ x : D, PthEl x → some (p ++ [x]) = some q → ∃ r, q = p ++ r ∧ r.length ≤ k + 1 ∧ ∀ x ∈ r, PthEl x := fun x hx e => by
      cases e
      exact ⟨[x], rfl, by simp, by simpa using hx⟩
    cases s with
    | whole lo hi =>
      rw [tk_whole] at h
      split at h
      · cases h
      · exact leaf h
    | word n =>
      rw [tk_word] at h
      split at h
      · cases h
      · exact leaf h
    | truth =>
      rw [tk_truth] at h
      split at h
      · cases h
      · exact leaf h
    | one ss =>
      rw [tk_one] at h
      split at h
      · cases h
      · exact leaf h
    | maybe x =>
      simp only [S.ok] at hs
      rw [tk_maybe] at h
      split at h
      · cases h
      · obtain ⟨r, e, hl, hr⟩ := ih x d p q hs.2 h
        exact ⟨r, e, by omega, hr⟩
    | list x n =>
      simp only [S.ok] at hs
      simp only [tk] at h
      split at h
      · rename_i t l
        split at h
        · rename_i hc
          simp only [Bool.and_eq_true, decide_eq_true_eq] at hc
          obtain ⟨a, ha, e⟩ := fsome_mem h
          obtain ⟨z, hz, rfl⟩ := List.mem_map.mp ha
          have := (List.mem_zipIdx' hz).1
          exact step x z.1 _ hs.2.2 (.inr ⟨z.2, rfl, by omega⟩) e
        · exact leaf h
      · exact leaf h
    | record rows =>
      simp only [S.ok] at hs
      simp only [tk] at h
      split at h
      · rename_i t l
        split at h
        · rw [tkF_eq] at h
          simp only [List.map_map] at h
          obtain ⟨a, ha, e⟩ := fsome_mem h
          obtain ⟨r, hr, rfl⟩ := List.mem_map.mp ha
          have hn : nameS r.1 = true := List.all_eq_true.mp hs.2.1 _ (List.mem_map_of_mem hr)
          simp only [Function.comp_apply, tkR] at e
          split at e
          · exact step r.2.1 _ _ (hs.2.2.2 r hr).1 (.inl ⟨_, rfl, hn⟩) e
          · split at e
            · exact at_ _ (.inl ⟨_, rfl, hn⟩) e
            · exact step r.2.1 _ _ (hs.2.2.2 r hr).1 (.inl ⟨_, rfl, hn⟩) e
        · exact leaf h
      · exact leaf h
    | either rows =>
      simp only [S.ok] at hs
      simp only [tk] at h
      split at h
      · rename_i t g x
        split at h
        · rw [tkE_eq] at h
          split at h
          · rename_i s hl
            have hm := lkp_mem hl
            exact step s x _ (hs.2.2.2.2 _ hm) (.inl ⟨_, rfl, List.all_eq_true.mp hs.2.2.1 _ (List.mem_map_of_mem hm)⟩) h
          · exact leaf h
        · exact leaf h
      · exact leaf h
end SH

namespace SH
open PySem
/-- a record of must fields, and one field more -/
def fillP (rows : List Fld) (g : S → D) (o : Option (Str × D)) : List (Str × D) := rows.filterMap fun r =>
  match o with
  | some (n, x) => if r.1 = n then some (r.1, x) else if r.2.2.isNone then some (r.1, g r.2.1) else none
  | none => if r.2.2.isNone then some (r.1, g r.2.1) else none
def recD (ps : List (Str × D)) : D := .tup [.str "record", .tup (ps.map prD)]
def aas (n : Int) : D := .str (repS "a" n.toNat)
def agnE (f : S → S → Option (D × List D)) (rs : List (Str × S)) : List (Str × S) → Option (D × List D)
  | [] => none
  | (t, s) :: r => match lkp rs t with
    | none => some (.tup [.str "either", .str t, s.least], [])
    | some s' => match f s' s with
      | some a => some (.tup [.str "either", .str t, a.1], .str t :: a.2)
      | none => agnE f rs r
def agnR (f : S → S → Option (D × List D)) (ws : List Fld) : List Fld → Option (D × List D)
  | [] => none
  | (n, s, need) :: r => match lkp ws n with
    | none => if need.isNone = true then some (recD (fillP ws S.least none), [.str n]) else agnR f ws r
    | some (s', need') => if (need.isNone && need'.isSome) = true then some (recD (fillP ws S.least none), [.str n]) else match f s s' with
      | some a => some (recD (fillP ws S.least (some (n, a.1))), .str n :: a.2)
      | none => agnR f ws r
/-- shapes that are no maybe -/
def agnP (f : S → S → Option (D × List D)) (r w : S) : Option (D × List D) := match r, w with
  | .word m, .one ws => ((ws.filter fun s => decide (m < (s.length : Int))).head?).map fun s => (.str s, [])
  | .whole lo hi, .whole a b => (([a, b].filter fun i => !(decide (lo ≤ i) && decide (i ≤ hi))).head?).map fun i => (.int i, [])
  | .word m', .word m => if m > m' then some (aas m, []) else none
  | .truth, .truth => none
  | .one rs, .one ws => ((ws.filter fun s => !decide (s ∈ rs)).head?).map fun s => (.str s, [])
  | .list r' m', .list w' m => if m > m' then some (.tup [.str "list", .tup (List.replicate m.toNat w'.least)], []) else if m > 0 then (f r' w').map fun a => (.tup [.str "list", .tup [a.1]], .int 0 :: a.2) else none
  | .record rs, .record ws => agnR f ws rs
  | .either rs, .either ws => agnE f rs ws
  | _, w => some (w.least, [])
/-- a value against, and its path -/
def agn : Nat → S → S → Option (D × List D)
  | 0, _, _ => none
  | n + 1, r, w => match w with
    | .maybe w' => (match r with
      | .maybe r' => agn n r' w'
      | _ => some (.non, []))
    | w => (match r with
      | .maybe r' => agn n r' w
      | r => agnP (agn n) r w)
theorem agn_mm {n : Nat} {r w : S} : agn (n + 1) (.maybe r) (.maybe w) = agn n r w := by simp only [agn]
theorem agn_nm {n : Nat} {r w : S} (h : r.isMaybe = false) : agn (n + 1) r (.maybe w) = some (.non, []) := by
  cases r <;> first | (simp [S.isMaybe] at h; done) | simp only [agn]
theorem agn_mn {n : Nat} {r w : S} (h : w.isMaybe = false) : agn (n + 1) (.maybe r) w = agn n r w := by
  cases w <;> first | (simp [S.isMaybe] at h; done) | simp only [agn]
theorem agn_nn {n : Nat} {r w : S} (h : r.isMaybe = false) (g : w.isMaybe = false) : agn (n + 1) r w = agnP (agn n) r w := by
  cases w <;> first | (simp [S.isMaybe] at g; done) | (cases r <;> first | (simp [S.isMaybe] at h; done) | simp only [agn])
theorem lkp_fm {α : Type} (h : Str → α → Option D) (m : Str) : ∀ rows : List (Str × α), (rows.map (·.1)).Nodup → lkp (rows.filterMap fun r => (h r.1 r.2).map fun x => (r.1, x)) m = (lkp rows m).bind (h m)
  | [], _ => rfl
  | (n, a) :: r, hn => by
    simp only [List.map_cons, List.nodup_cons] at hn
    have ih := lkp_fm h m r hn.2
    rw [lkp_cons]
    cases e : h n a with
    | none =>
      rw [List.filterMap_cons_none (by simp [e]), ih]
      by_cases hnm : n = m
      · subst hnm
        rw [if_pos rfl, lkp_none.mpr hn.1]
        simp [e]
      · rw [if_neg hnm]
    | some x =>
      rw [List.filterMap_cons_some (by simp [e]; rfl), lkp_cons, ih]
      by_cases hnm : n = m
      · subst hnm
        rw [if_pos rfl, if_pos rfl]
        simp [e]
      · rw [if_neg hnm, if_neg hnm]
def fillH (g : S → D) (o : Option (Str × D)) (n : Str) (a : S × Option D) : Option D := match o with
  | some (m, x) => if n = m then some x else if a.2.isNone then some (g a.1) else none
  | none => if a.2.isNone then some (g a.1) else none
theorem fillP_eq (rows : List Fld) (g : S → D) (o : Option (Str × D)) : fillP rows g o = rows.filterMap fun r => (fillH g o r.1 r.2).map fun x => (r.1, x) := by
  unfold fillP
  congr 1
  funext r
  unfold fillH
  split
  · rename_i m x
    by_cases h : r.1 = m
    · simp [h]
    · simp only [if_neg h]
      split <;> simp
  · split <;> simp
theorem lkp_fill {rows : List Fld} (hn : (rows.map (·.1)).Nodup) (g : S → D) (o : Option (Str × D)) (m : Str) : lkp (fillP rows g o) m = (lkp rows m).bind (fillH g o m) := by
  rw [fillP_eq, lkp_fm _ _ _ hn]
theorem fill_sub (rows : List Fld) (g : S → D) (o : Option (Str × D)) : ((fillP rows g o).map (·.1)).Sublist (rows.map (·.1)) := by
  rw [fillP_eq]
  induction rows with
  | nil => simp
  | cons r rows ih =>
    cases e : fillH g o r.1 r.2 with
    | none =>
      rw [List.filterMap_cons_none (by simp [e])]
      exact ih.cons _
    | some x =>
      rw [List.filterMap_cons_some (by simp [e]; rfl)]
      exact ih.cons₂ _
theorem fill_ris {rows : List Fld} (h : risesS (rows.map (·.1)) = true) (g : S → D) (o : Option (Str × D)) : Ris ((fillP rows g o).map (·.1)) := (rises_iff.mp h).sub (fill_sub rows g o)
theorem fill_nm {rows : List Fld} (h : (rows.map (·.1)).all nameS = true) (g : S → D) (o : Option (Str × D)) : ((fillP rows g o).map (·.1)).all nameS = true :=
  List.all_eq_true.mpr fun x hx => List.all_eq_true.mp h x ((fill_sub rows g o).subset hx)
theorem fill_val {rows : List Fld} (h1 : (rows.map (·.1)).all nameS = true) (h2 : risesS (rows.map (·.1)) = true) {g : S → D} {o : Option (Str × D)} (hg : ∀ r ∈ rows, r.2.2 = none → isVal r.2.1 (g r.2.1) = true)
    (ho : ∀ n x, o = some (n, x) → ∃ a, lkp rows n = some a ∧ isVal a.1 x = true) : isVal (.record rows) (recD (fillP rows g o)) = true := by
  have nd := (rises_iff.mp h2).nodup
  unfold recD
  rw [isVal_record, fill_nm h1, rises_iff.mpr (fill_ris h2 g o)]
  simp only [Bool.true_and, Bool.and_eq_true]
  refine ⟨List.all_eq_true.mpr fun p hp => ?_, List.all_eq_true.mpr fun r hr => ?_⟩
  · have nd2 := (fill_ris h2 g o).nodup
    have e := lkp_of_mem (l := fillP rows g o) (w := p.1) (a := p.2) nd2 hp
    rw [lkp_fill nd] at e
    obtain ⟨a, e1, e2⟩ := Option.bind_eq_some_iff.mp e
    rw [e1]
    simp only [Option.any_some]
    have hm := lkp_mem e1
    unfold fillH at e2
    split at e2
    · rename_i m x
      split at e2
      · rename_i hpm
        obtain ⟨b, e3, e4⟩ := ho _ _ rfl
        rw [← hpm, e1] at e3
        cases e3
        cases e2
        exact e4
      · split at e2
        · rename_i hN
          rw [← Option.some.inj e2]
          exact hg _ hm (by simpa using hN)
        · cases e2
    · split at e2
      · rename_i hN
        rw [← Option.some.inj e2]
        exact hg _ hm (by simpa using hN)
      · cases e2
  · cases hx : r.2.2 with
    | some v => rfl
    | none =>
      simp only [Option.isSome_none, Bool.false_or, decide_eq_true_eq]
      have e1 : lkp rows r.1 = some r.2 := lkp_of_mem nd hr
      have e2 := lkp_fill nd g o r.1
      rw [e1] at e2
      simp only [Option.bind_some] at e2
      have : (fillH g o r.1 r.2).isSome = true := by
        unfold fillH
        split
        · split
          · rfl
          · simp [hx]
        · simp [hx]
      obtain ⟨y, hy⟩ := Option.isSome_iff_exists.mp this
      rw [hy] at e2
      exact List.mem_map.mpr ⟨_, lkp_mem e2, rfl⟩
def fillQ (l : List (Str × List D × Bool)) (o : Option (Str × D)) : List (Str × D) := l.filterMap fun r =>
  match o with
  | some (n, x) => if r.1 = n then some (r.1, x) else if r.2.2 then some (r.1, r.2.1.headD .non) else none
  | none => if r.2.2 then some (r.1, r.2.1.headD .non) else none
def cornRec (l : List (Str × List D × Bool)) : List D := recD (fillQ l none) :: (l.map fun r => r.2.1.map fun x => recD (fillQ l (some (r.1, x)))).flatten
mutual
def corners : S → List D
  | .whole lo hi => [.int lo, .int hi]
  | .word n => [.str "", aas n]
  | .truth => [.bl true, .bl false]
  | .one ss => ss.map D.str
  | .maybe s => .non :: corners s
  | .list s n => [.tup [.str "list", .tup []], .tup [.str "list", .tup (List.replicate n.toNat ((corners s).take 1)).flatten]] ++ (if n > 0 then (corners s).map fun x => .tup [.str "list", .tup [x]] else [])
  | .either rows => cornE rows
  | .record rows => cornRec (cornL rows)
def cornE : List (Str × S) → List D
  | [] => []
  | (t, s) :: r => ((corners s).map fun x => .tup [.str "either", .str t, x]) ++ cornE r
def cornL : List (Str × S × Option D) → List (Str × List D × Bool)
  | [] => []
  | (n, s, x) :: r => (n, corners s, x.isNone) :: cornL r
end
theorem cornE_eq : ∀ rows : List (Str × S), cornE rows = (rows.map fun r => (corners r.2).map fun x => .tup [.str "either", .str r.1, x]).flatten
  | [] => by simp [cornE]
  | (t, s) :: r => by simp [cornE, cornE_eq r]
theorem cornL_eq : ∀ rows : List Fld, cornL rows = rows.map fun r => (r.1, corners r.2.1, r.2.2.isNone)
  | [] => by simp [cornL]
  | (t, s, x) :: r => by simp [cornL, cornL_eq r]
def cor0 (s : S) : D := (corners s).headD .non
theorem fillQ_eq (rows : List Fld) (o : Option (Str × D)) : fillQ (cornL rows) o = fillP rows cor0 o := by
  unfold fillQ fillP
  rw [cornL_eq, List.filterMap_map]
  rfl
theorem corners_record (rows : List Fld) : corners (.record rows) = recD (fillP rows cor0 none) :: (rows.map fun r => (corners r.2.1).map fun x => recD (fillP rows cor0 (some (r.1, x)))).flatten := by
  simp only [corners, cornRec, fillQ_eq]
  rw [cornL_eq, List.map_map]
  rfl
theorem corners_ne : ∀ (k : Nat) (s : S), s.ok k → ∃ a r, corners s = a :: r
  | 0, s, h => by simp [S.ok] at h
  | k + 1, s, h => by
    cases s with
    | whole lo hi => simp [corners]
    | word n => simp [corners]
    | truth => simp [corners]
    | one ss =>
      simp only [S.ok] at h
      match ss, h with
      | a :: r, _ => simp [corners]
      | [], h => simp at h
    | maybe s => simp [corners]
    | list s n => simp [corners]
    | either rows =>
      simp only [S.ok] at h
      match rows, h with
      | (t, s) :: r, h =>
        obtain ⟨a, l, e⟩ := corners_ne k s (h.2.2.2.2 (t, s) (by simp))
        simp [corners, cornE, e]
      | [], h => simp at h
    | record rows => rw [corners_record]; simp
theorem aas_val {n : Int} (h0 : 0 ≤ n) : isVal (.word n) (aas n) = true ∧ ((repS "a" n.toNat).length : Int) = n := by
  have hl : (repS "a" n.toNat).cps.toList = List.replicate n.toNat 97 := by
    rw [repS_len]
    have e : ("a" : Str).cps.toList = [97] := rfl
    rw [e]
    generalize n.toNat = m
    induction m with
    | zero => rfl
    | succ m ih => rw [List.replicate_succ, List.flatten_cons, ih, List.replicate_succ]; rfl
  have hlen : ((repS "a" n.toNat).length : Int) = n := by
    unfold Str.length
    rw [← Array.length_toList, hl, List.length_replicate]
    omega
  refine ⟨?_, hlen⟩
  simp only [isVal, aas, Bool.and_eq_true, decide_eq_true_eq]
  refine ⟨?_, by omega⟩
  unfold lettersS
  rw [hl]
  refine List.all_eq_true.mpr fun c hc => ?_
  rw [List.eq_of_mem_replicate hc]
  decide +kernel
theorem rep_flat {n : Nat} {l : List D} (x : D) (h : x ∈ (List.replicate n l).flatten) : x ∈ l := by
  obtain ⟨m, hm, hx⟩ := List.mem_flatten.mp h
  rw [List.eq_of_mem_replicate hm] at hx
  exact hx
theorem cor0_mem {k : Nat} {s : S} (h : s.ok k) : cor0 s ∈ corners s := by
  obtain ⟨a, r, e⟩ := corners_ne k s h
  unfold cor0
  rw [e]
  simp
theorem corners_val : ∀ (k : Nat) (s : S), s.ok k → ∀ v ∈ corners s, isVal s v = true
  | 0, s, h => by simp [S.ok] at h
  | k + 1, s, h => by
    have ih := corners_val k
    intro v hv
    cases s with
    | whole lo hi =>
      simp only [S.ok] at h
      simp only [corners, List.mem_cons, List.not_mem_nil, or_false] at hv
      rcases hv with rfl | rfl <;> simp only [isVal, within, Bool.and_eq_true, decide_eq_true_eq] <;> omega
    | word n =>
      simp only [S.ok] at h
      simp only [corners, List.mem_cons, List.not_mem_nil, or_false] at hv
      rcases hv with rfl | rfl
      · have e1 : lettersS "" = true := rfl
        have e2 : ((("" : Str).length : Nat) : Int) = 0 := rfl
        simp [isVal, e1, e2, h.1]
      · exact (aas_val h.1).1
    | truth =>
      simp only [corners, List.mem_cons, List.not_mem_nil, or_false] at hv
      rcases hv with rfl | rfl <;> rfl
    | one ss =>
      simp only [corners] at hv
      obtain ⟨s, hs, rfl⟩ := List.mem_map.mp hv
      simp [isVal, hs]
    | maybe x =>
      simp only [S.ok] at h
      simp only [corners] at hv
      rcases List.mem_cons.mp hv with rfl | hv
      · rfl
      · simp only [isVal, ih x h.2 v hv, Bool.or_true]
    | list x n =>
      simp only [S.ok] at h
      obtain ⟨a, r, e⟩ := corners_ne k x h.2.2
      simp only [corners] at hv
      rcases List.mem_append.mp hv with hv | hv
      · simp only [List.mem_cons, List.not_mem_nil, or_false] at hv
        rcases hv with rfl | rfl
        · simp [isVal, strIs, h.1]
        · rw [e]
          simp only [isVal, strIs]
          simp only [decide_true, Bool.true_and, Bool.and_eq_true, decide_eq_true_eq]
          refine ⟨?_, List.all_eq_true.mpr fun y hy => ?_⟩
          · simp
            omega
          · have := rep_flat y hy
            simp at this
            subst this
            exact ih x h.2.2 y (by rw [e]; simp)
      · split at hv
        · obtain ⟨y, hy, rfl⟩ := List.mem_map.mp hv
          have := ih x h.2.2 y hy
          simp [isVal, strIs, this]
          omega
        · cases hv
    | either rows =>
      simp only [S.ok] at h
      simp only [corners, cornE_eq] at hv
      obtain ⟨l, hl, hv⟩ := List.mem_flatten.mp hv
      obtain ⟨r, hr, rfl⟩ := List.mem_map.mp hl
      obtain ⟨y, hy, rfl⟩ := List.mem_map.mp hv
      simp only [isVal, strIs]
      rw [valE_lkp, lkp_of_mem (a := r.2) (rises_iff.mp h.2.2.2.1).nodup hr]
      simp [ih r.2 (h.2.2.2.2 r hr) y hy]
    | record rows =>
      simp only [S.ok] at h
      rw [corners_record] at hv
      have hg : ∀ r ∈ rows, r.2.2 = none → isVal r.2.1 (cor0 r.2.1) = true := fun r hr _ => ih r.2.1 (h.2.2.2 r hr).1 _ (cor0_mem (h.2.2.2 r hr).1)
      rcases List.mem_cons.mp hv with rfl | hv
      · exact fill_val h.2.1 h.2.2.1 hg fun n x e => by cases e
      · obtain ⟨l, hl, hv⟩ := List.mem_flatten.mp hv
        obtain ⟨r, hr, rfl⟩ := List.mem_map.mp hl
        obtain ⟨y, hy, rfl⟩ := List.mem_map.mp hv
        refine fill_val h.2.1 h.2.2.1 hg fun n x e => ?_
        cases e
        exact ⟨r.2, lkp_of_mem (a := r.2) (rises_iff.mp h.2.2.1).nodup hr, ih r.2.1 (h.2.2.2 r hr).1 y hy⟩
end SH

namespace SH
open PySem
/-- a field of the reader that the writer's records give -/
def goodF (f : S → S → Option (D × List D)) (ws : List Fld) (x : Fld) : Prop := (x.2.2 = none → ∃ s', lkp ws x.1 = some (s', none)) ∧ ∀ a, lkp ws x.1 = some a → f x.2.1 a.1 = none
theorem agnR_cons {f : S → S → Option (D × List D)} {ws : List Fld} {n : Str} {s : S} {need : Option D} {r : List Fld} : agnR f ws ((n, s, need) :: r) = match lkp ws n with
    | none => if need.isNone = true then some (recD (fillP ws S.least none), [.str n]) else agnR f ws r
    | some (s', need') => if (need.isNone && need'.isSome) = true then some (recD (fillP ws S.least none), [.str n]) else match f s s' with
      | some a => some (recD (fillP ws S.least (some (n, a.1))), .str n :: a.2)
      | none => agnR f ws r := rfl
theorem agnE_cons {f : S → S → Option (D × List D)} {rs : List (Str × S)} {t : Str} {s : S} {r : List (Str × S)} : agnE f rs ((t, s) :: r) = match lkp rs t with
    | none => some (.tup [.str "either", .str t, s.least], [])
    | some s' => match f s' s with
      | some a => some (.tup [.str "either", .str t, a.1], .str t :: a.2)
      | none => agnE f rs r := rfl
theorem agnR_none {f : S → S → Option (D × List D)} {ws : List Fld} : ∀ {rs : List Fld}, agnR f ws rs = none ↔ ∀ x ∈ rs, goodF f ws x
  | [] => by simp [agnR]
  | (n, s, need) :: r => by
    have ih := agnR_none (f := f) (ws := ws) (rs := r)
    rw [List.forall_mem_cons, ← ih, agnR_cons]
    unfold goodF
    cases hl : lkp ws n with
    | none =>
      cases need with
      | none => simp [hl]
      | some v => simp [hl]
    | some a =>
      obtain ⟨s', need'⟩ := a
      simp only [hl]
      cases need <;> cases need' <;> cases hf : f s s' <;> simp [hf]
theorem agnR_some {f : S → S → Option (D × List D)} {ws : List Fld} : ∀ {rs : List Fld} {a : D × List D}, agnR f ws rs = some a → ∃ l n s need r, rs = l ++ (n, s, need) :: r ∧ (∀ x ∈ l, goodF f ws x) ∧
    ((need = none ∧ (∀ s' need', lkp ws n = some (s', need') → need'.isSome = true) ∧ a = (recD (fillP ws S.least none), [.str n])) ∨ ∃ s' need' b, lkp ws n = some (s', need') ∧ f s s' = some b ∧ a = (recD (fillP ws S.least (some (n, b.1))), .str n :: b.2))
  | [], a, h => by simp [agnR] at h
  | (n, s, need) :: r, a, h => by
    have step : agnR f ws r = some a → goodF f ws (n, s, need) → ∃ l n' s' need' r', (n, s, need) :: r = l ++ (n', s', need') :: r' ∧ (∀ x ∈ l, goodF f ws x) ∧
        ((need' = none ∧ (∀ s2 need2, lkp ws n' = some (s2, need2) → need2.isSome = true) ∧ a = (recD (fillP ws S.least none), [.str n'])) ∨ ∃ s2 need2 b, lkp ws n' = some (s2, need2) ∧ f s' s2 = some b ∧ a = (recD (fillP ws S.least (some (n', b.1))), .str n' :: b.2)) := fun h g => by
      obtain ⟨l, n', s', need', r', e, hl, hh⟩ := agnR_some h
      exact ⟨(n, s, need) :: l, n', s', need', r', by rw [e]; rfl, fun x hx => (List.mem_cons.mp hx).elim (fun e => e ▸ g) (hl x), hh⟩
    rw [agnR_cons] at h
    cases hl : lkp ws n with
    | none =>
      rw [hl] at h
      cases need with
      | none =>
        simp at h
        exact ⟨[], n, s, none, r, rfl, fun x hx => by simp at hx, .inl ⟨rfl, (fun s' need' e => by rw [hl] at e; cases e), h.symm⟩⟩
      | some v => exact step (by simpa using h) ⟨fun e => by simp at e, fun a e => by simp only [hl] at e; cases e⟩
    | some b =>
      obtain ⟨s', need'⟩ := b
      rw [hl] at h
      simp only at h
      split at h
      · rename_i hc
        simp only [Bool.and_eq_true, Option.isNone_iff_eq_none] at hc
        cases h
        exact ⟨[], n, s, need, r, rfl, fun x hx => by simp at hx, .inl ⟨hc.1, (fun s2 need2 e => by rw [hl] at e; cases e; exact hc.2), rfl⟩⟩
      · rename_i hc
        split at h
        · rename_i b hb
          cases h
          exact ⟨[], n, s, need, r, rfl, fun x hx => by simp at hx, .inr ⟨s', need', b, hl, hb, rfl⟩⟩
        · rename_i hb
          refine step h ⟨fun e => ⟨s', ?_⟩, fun a e => ?_⟩
          · simp only at e
            subst e
            cases need' with
            | none => exact hl
            | some v => simp at hc
          · simp only [hl] at e
            cases e
            exact hb
theorem agnE_none {f : S → S → Option (D × List D)} {rs : List (Str × S)} : ∀ {ws : List (Str × S)}, agnE f rs ws = none ↔ ∀ x ∈ ws, ∃ s', lkp rs x.1 = some s' ∧ f s' x.2 = none
  | [] => by simp [agnE]
  | (t, s) :: r => by
    rw [List.forall_mem_cons, ← agnE_none (f := f) (rs := rs) (ws := r), agnE_cons]
    cases hl : lkp rs t with
    | none => simp [hl]
    | some s' => cases hf : f s' s <;> simp [hl, hf]
theorem agnE_some {f : S → S → Option (D × List D)} {rs : List (Str × S)} : ∀ {ws : List (Str × S)} {a : D × List D}, agnE f rs ws = some a → ∃ t s, (t, s) ∈ ws ∧ ((lkp rs t = none ∧ a = (.tup [.str "either", .str t, s.least], [])) ∨ ∃ s' b, lkp rs t = some s' ∧ f s' s = some b ∧ a = (.tup [.str "either", .str t, b.1], .str t :: b.2))
  | [], a, h => by simp [agnE] at h
  | (t, s) :: r, a, h => by
    rw [agnE_cons] at h
    cases hl : lkp rs t with
    | none =>
      rw [hl] at h
      cases h
      exact ⟨t, s, by simp, .inl ⟨hl, rfl⟩⟩
    | some s' =>
      rw [hl] at h
      simp only at h
      split at h
      · rename_i b hb
        cases h
        exact ⟨t, s, by simp, .inr ⟨s', b, hl, hb, rfl⟩⟩
      · obtain ⟨t', s2, hm, hh⟩ := agnE_some h
        exact ⟨t', s2, by simp [hm], hh⟩
theorem head_none {α : Type} {l : List α} {p : α → Bool} (h : (l.filter p).head? = none) : ∀ x ∈ l, p x = false := by
  rw [List.head?_eq_none_iff, List.filter_eq_nil_iff] at h
  exact fun x hx => by simpa using h x hx
theorem head_some {α : Type} {l : List α} {p : α → Bool} {x : α} (h : (l.filter p).head? = some x) : x ∈ l ∧ p x = true := List.mem_filter.mp (List.mem_of_mem_head? h)
theorem none_of_head {α : Type} {l : List α} {p : α → Bool} (h : ∀ x ∈ l, p x = false) : (l.filter p).head? = none := by
  rw [List.head?_eq_none_iff, List.filter_eq_nil_iff]
  exact fun x hx => by simp [h x hx]
theorem name_letters {s : Str} (h : nameS s = true) : lettersS s = true := by
  unfold nameS at h
  simp only [Bool.and_eq_true] at h
  exact h.1
theorem name_ne : nameS "" = false := by decide +kernel
theorem whole_int {lo hi i : Int} : isVal (.whole lo hi) (.int i) = (decide (lo ≤ i) && decide (i ≤ hi)) := by simp only [isVal, within]
theorem word_str {n : Int} {s : Str} : isVal (.word n) (.str s) = (lettersS s && decide ((s.length : Int) ≤ n)) := by simp only [isVal]
theorem one_str {ss : List Str} {s : Str} : isVal (.one ss) (.str s) = decide (s ∈ ss) := by simp only [isVal]
/-- the fields of a filled record -/
theorem tkR_fill {ws : List Fld} (hn : (ws.map (·.1)).Nodup) {g : S → D} {o : Option (Str × D)} {p : List D} {x : Fld} : tkR ((fillP ws g o).map prD) p x = match (lkp ws x.1).bind (fillH g o x.1) with
    | some y => tk x.2.1 y (p ++ [.str x.1])
    | none => match x.2.2 with
      | none => (.non, some (p ++ [.str x.1]))
      | some v => tk x.2.1 v (p ++ [.str x.1]) := by
  unfold tkR
  rw [lkD_map, lkp_fill hn]
  all_goals rfl
section
variable {f : S → S → Option (D × List D)} {k j : Nat} {r w : S}
theorem agnP_A (hr : r.ok (k + 1)) (hw : w.ok (j + 1)) (rm : r.isMaybe = false) (wm : w.isMaybe = false) (ih : ∀ r' w', S.ok k r' → S.ok j w' → f r' w' = none → ∀ v p, isVal w' v = true → (tk r' v p).2 = none) (h : agnP f r w = none) :
    ∀ v p, isVal w v = true → (tk r v p).2 = none := by
  intro v p hv
  cases r <;> cases w <;> first | (simp [agnP] at h; done) | (simp [S.isMaybe] at rm; done) | (simp [S.isMaybe] at wm; done) | skip
  case whole.whole lo hi a b =>
    simp only [agnP, Option.map_eq_none_iff] at h
    have h := head_none h
    have h1 := h a (by simp)
    have h2 := h b (by simp)
    simp at h1 h2
    obtain ⟨i, rfl, g1, g2⟩ := within_eq (by simpa only [isVal] using hv)
    rw [tk_whole, whole_int, if_pos]
    simp
    omega
  case word.word m' m =>
    simp only [agnP] at h
    split at h
    · cases h
    · rename_i hm
      cases v <;> first | (simp [isVal] at hv; done) | skip
      rename_i s
      rw [word_str] at hv
      simp only [Bool.and_eq_true, decide_eq_true_eq] at hv
      rw [tk_word, word_str, if_pos]
      simp [hv.1]
      omega
  case word.one m ws =>
    simp only [agnP, Option.map_eq_none_iff] at h
    have h := head_none h
    cases v <;> first | (simp [isVal] at hv; done) | skip
    rename_i s
    rw [one_str] at hv
    simp only [S.ok] at hw
    have hs := of_decide_eq_true hv
    have h1 := h s hs
    have h2 := name_letters (List.all_eq_true.mp hw.2.2.1 s hs)
    rw [tk_word, word_str, if_pos]
    simp at h1
    simp [h2]
    omega
  case truth.truth => rw [tk_truth, if_pos hv]
  case one.one rs ws =>
    simp only [agnP, Option.map_eq_none_iff] at h
    have h := head_none h
    cases v <;> first | (simp [isVal] at hv; done) | skip
    rename_i s
    rw [one_str] at hv
    have h1 := h s (of_decide_eq_true hv)
    rw [tk_one, one_str, if_pos]
    simpa using h1
  case list.list r' m' w' m =>
    simp only [S.ok] at hr hw
    simp only [agnP] at h
    split at h
    · cases h
    · rename_i hm
      obtain ⟨l, rfl, hl, hx⟩ := val_list hv
      rw [tk_list, if_pos (by omega)]
      refine fsome_none.mpr fun a ha => ?_
      obtain ⟨q, hq, rfl⟩ := List.mem_map.mp ha
      have hq' := List.mem_zipIdx' hq
      have h0 : 0 < l.length := by omega
      rw [if_pos (by omega)] at h
      simp only [Option.map_eq_none_iff] at h
      exact ih r' w' hr.2.2 hw.2.2 h _ _ (hx _ (hq'.2 ▸ List.getElem_mem _))
  case record.record rs ws =>
    simp only [S.ok] at hr hw
    simp only [agnP] at h
    have h := agnR_none.mp h
    obtain ⟨ps, rfl, hnm, hris, hx, hmust⟩ := val_pairs hv
    rw [tk_record hnm hris]
    refine fsome_none.mpr fun a ha => ?_
    obtain ⟨x, hx1, rfl⟩ := List.mem_map.mp ha
    unfold tkR
    rw [lkD_map]
    obtain ⟨g1, g2⟩ := h x hx1
    cases hl : lkp ps x.1 with
    | some y =>
      obtain ⟨a, b1, b2, b3⟩ := hx _ (lkp_mem hl)
      exact ih _ _ (hr.2.2.2 x hx1).1 (hw.2.2.2 _ b1).1 (g2 a b2) _ _ b3
    | none =>
      have hnot := lkp_none.mp hl
      cases hn : x.2.2 with
      | none =>
        obtain ⟨s', e⟩ := g1 hn
        exact absurd (hmust _ (lkp_mem e) rfl) hnot
      | some v => exact tk_self k _ v _ (hr.2.2.2 x hx1).1 ((hr.2.2.2 x hx1).2 v hn)
  case either.either rs ws =>
    simp only [S.ok] at hr hw
    simp only [agnP] at h
    have h := agnE_none.mp h
    obtain ⟨g, a, x, rfl, ha, hl, hx⟩ := val_either hv
    obtain ⟨s', e1, e2⟩ := h _ ha
    rw [tk_either, e1]
    exact ih s' a (hr.2.2.2.2 _ (lkp_mem e1)) (hw.2.2.2.2 _ ha) e2 _ _ hx
theorem agnP_B (hr : r.ok (k + 1)) (hw : w.ok (j + 1)) (rm : r.isMaybe = false) (wm : w.isMaybe = false) (ihA : ∀ r' w', S.ok k r' → S.ok j w' → f r' w' = none → ∀ v p, isVal w' v = true → (tk r' v p).2 = none)
    (ih : ∀ r' w', S.ok k r' → S.ok j w' → ∀ v q, f r' w' = some (v, q) → isVal w' v = true ∧ ∀ p, (tk r' v p).2 = some (p ++ q)) {v : D} {q : List D} (h : agnP f r w = some (v, q)) :
    isVal w v = true ∧ ∀ p, (tk r v p).2 = some (p ++ q) := by
  have dflt : some (w.least, ([] : List D)) = some (v, q) → r.cls ≠ w.cls → isVal w v = true ∧ ∀ p, (tk r v p).2 = some (p ++ q) := fun e hc => by
    cases e
    have hv := least_val (j + 1) w hw
    exact ⟨hv, fun p => by rw [tk_cls rm (by rw [val_cls hv wm]; exact fun z => hc z.symm), List.append_nil]⟩
  cases r <;> cases w <;> first | (refine dflt ?_ ?_; rotate_left; (simp only [S.cls]; decide); (simpa only [agnP] using h)) | (simp [S.isMaybe] at rm; done) | (simp [S.isMaybe] at wm; done) | skip
  case whole.whole lo hi a b =>
    simp only [S.ok] at hw
    simp only [agnP] at h
    obtain ⟨i, h1, e⟩ := Option.map_eq_some_iff.mp h
    cases e
    obtain ⟨h2, h3⟩ := head_some h1
    simp at h3
    refine ⟨?_, fun p => ?_⟩
    · rw [whole_int]
      simp only [List.mem_cons, List.not_mem_nil, or_false] at h2
      rcases h2 with rfl | rfl <;> simp <;> omega
    · rw [tk_whole, whole_int, if_neg, List.append_nil]
      simp
      omega
  case word.word m' m =>
    simp only [S.ok] at hw hr
    simp only [agnP] at h
    split at h
    · cases h
      obtain ⟨h1, h2⟩ := aas_val hw.1
      refine ⟨h1, fun p => ?_⟩
      rw [tk_word, aas, word_str, if_neg, List.append_nil]
      simp
      omega
    · cases h
  case word.one m ws =>
    simp only [agnP] at h
    obtain ⟨s, h1, e⟩ := Option.map_eq_some_iff.mp h
    cases e
    obtain ⟨h2, h3⟩ := head_some h1
    simp at h3
    refine ⟨by rw [one_str]; exact decide_eq_true h2, fun p => ?_⟩
    rw [tk_word, word_str, if_neg, List.append_nil]
    simp
    omega
  case truth.truth => simp [agnP] at h
  case one.word ss m =>
    simp only [S.ok] at hr
    simp only [agnP, S.least] at h
    cases h
    refine ⟨least_val (j + 1) (.word m) hw, fun p => ?_⟩
    rw [tk_one, one_str, if_neg, List.append_nil]
    intro hc
    have := List.all_eq_true.mp hr.2.2.1 _ (of_decide_eq_true hc)
    rw [name_ne] at this
    cases this
  case one.one rs ws =>
    simp only [agnP] at h
    obtain ⟨s, h1, e⟩ := Option.map_eq_some_iff.mp h
    cases e
    obtain ⟨h2, h3⟩ := head_some h1
    simp at h3
    refine ⟨by rw [one_str]; exact decide_eq_true h2, fun p => ?_⟩
    rw [tk_one, one_str, if_neg (by simpa using h3), List.append_nil]
  case list.list r' m' w' m =>
    simp only [S.ok] at hr hw
    simp only [agnP] at h
    split at h
    · rename_i hm
      cases h
      have hv := least_val j w' hw.2.2
      refine ⟨?_, fun p => ?_⟩
      · simp only [isVal, strIs, decide_true, Bool.true_and, Bool.and_eq_true, decide_eq_true_eq, List.length_replicate]
        refine ⟨by omega, List.all_eq_true.mpr fun x hx => ?_⟩
        rw [List.eq_of_mem_replicate hx]
        exact hv
      · rw [tk_list, if_neg (by rw [List.length_replicate]; omega), List.append_nil]
    · rename_i hm
      split at h
      · rename_i h0
        obtain ⟨b, h1, e⟩ := Option.map_eq_some_iff.mp h
        cases e
        obtain ⟨i1, i2⟩ := ih r' w' hr.2.2 hw.2.2 b.1 b.2 h1
        refine ⟨?_, fun p => ?_⟩
        · simp [isVal, strIs, i1]
          omega
        · rw [tk_list, if_pos (by simp; omega)]
          simp [fsome_cons, i2]
      · cases h
  case record.record rs ws =>
    simp only [S.ok] at hr hw
    simp only [agnP] at h
    obtain ⟨l, n, s, need, r, e, hl, hh⟩ := agnR_some h
    have hndw := (rises_iff.mp hw.2.2.1).nodup
    have hndr := (rises_iff.mp hr.2.2.1).nodup
    have hgood : ∀ x ∈ ws, x.2.2 = none → isVal x.2.1 (S.least x.2.1) = true := fun x hx _ => least_val j _ (hw.2.2.2 x hx).1
    -- the fields ahead
    have ahead : ∀ (o : Option (Str × D)), (∀ y, o = some (n, y) ∨ o = none → True) → ((∃ y, o = some (n, y)) ∨ o = none) → ∀ p, ∀ x ∈ l, (tkR ((fillP ws S.least o).map prD) p x).2 = none := by
      intro o _ ho p x hx
      have hxr : x ∈ rs := by rw [e]; simp [hx]
      have hne : x.1 ≠ n := fun q => by
        rw [e, List.map_append, List.map_cons, List.nodup_append] at hndr
        exact hndr.2.2 x.1 (List.mem_map_of_mem hx) n (by simp) q
      rw [tkR_fill hndw]
      have hfill : ∀ a, fillH S.least o x.1 a = if a.2.isNone then some (S.least a.1) else none := fun a => by
        rcases ho with ⟨y, rfl⟩ | rfl
        · show (if x.1 = n then some y else if a.2.isNone then some (S.least a.1) else none) = _
          rw [if_neg hne]
        · rfl
      obtain ⟨g1, g2⟩ := hl x hx
      cases hlk : lkp ws x.1 with
      | none =>
        simp only [Option.bind_none]
        cases hn : x.2.2 with
        | none =>
          obtain ⟨s', e'⟩ := g1 hn
          rw [hlk] at e'
          cases e'
        | some v => exact tk_self k _ v _ (hr.2.2.2 x hxr).1 ((hr.2.2.2 x hxr).2 v hn)
      | some a =>
        simp only [Option.bind_some, hfill]
        have hma := lkp_mem hlk
        cases hn' : a.2 with
        | none =>
          simp only [Option.isNone_none, if_true]
          exact ihA _ _ (hr.2.2.2 x hxr).1 (hw.2.2.2 _ hma).1 (g2 a hlk) _ _ (least_val j _ (hw.2.2.2 _ hma).1)
        | some z =>
          simp only [Option.isNone_some, Bool.false_eq_true, if_false]
          cases hn : x.2.2 with
          | none =>
            obtain ⟨s', e'⟩ := g1 hn
            rw [hlk] at e'
            cases e'
            cases hn'
          | some v => exact tk_self k _ v _ (hr.2.2.2 x hxr).1 ((hr.2.2.2 x hxr).2 v hn)
    have hmem : (n, s, need) ∈ rs := by rw [e]; simp
    rcases hh with ⟨rfl, h2, e2⟩ | ⟨s', need', b, h2, h3, e2⟩
    · cases e2
      refine ⟨fill_val hw.2.1 hw.2.2.1 hgood (fun n x e => by cases e), fun p => ?_⟩
      rw [recD, tk_record (fill_nm hw.2.1 _ _) (fill_ris hw.2.2.1 _ _)]
      show fsome _ = _
      rw [e, List.map_append, fsome_app, List.map_cons, fsome_cons, tkR_fill hndw]
      · have : (lkp ws n).bind (fillH S.least none n) = none := by
          cases hlk : lkp ws n with
          | none => rfl
          | some a =>
            have := h2 a.1 a.2 hlk
            simp only [Option.bind_some, fillH]
            cases ha : a.2 with
            | none => rw [ha] at this; cases this
            | some z => simp
        simp only [this]
      · intro a ha
        obtain ⟨x, hx, rfl⟩ := List.mem_map.mp ha
        exact ahead none (fun _ _ => trivial) (.inr rfl) p x hx
    · cases e2
      obtain ⟨i1, i2⟩ := ih s s' (hr.2.2.2 _ hmem).1 (hw.2.2.2 _ (lkp_mem h2)).1 b.1 b.2 h3
      refine ⟨fill_val hw.2.1 hw.2.2.1 hgood fun n x e => ?_, fun p => ?_⟩
      · cases e
        exact ⟨_, h2, i1⟩
      rw [recD, tk_record (fill_nm hw.2.1 _ _) (fill_ris hw.2.2.1 _ _)]
      show fsome _ = _
      rw [e, List.map_append, fsome_app, List.map_cons, fsome_cons, tkR_fill hndw]
      · simp [h2, fillH, i2]
      · intro a ha
        obtain ⟨x, hx, rfl⟩ := List.mem_map.mp ha
        exact ahead _ (fun _ _ => trivial) (.inl ⟨_, rfl⟩) p x hx
  case either.either rs ws =>
    simp only [S.ok] at hr hw
    simp only [agnP] at h
    obtain ⟨t, s, hm, hh⟩ := agnE_some h
    have hlw : lkp ws t = some s := lkp_of_mem (rises_iff.mp hw.2.2.2.1).nodup hm
    rcases hh with ⟨h1, e⟩ | ⟨s', b, h1, h2, e⟩
    · cases e
      refine ⟨?_, fun p => ?_⟩
      · simp only [isVal, strIs]
        rw [valE_lkp, hlw]
        simp [least_val j s (hw.2.2.2.2 _ hm)]
      · rw [tk_either, h1, List.append_nil]
    · cases e
      obtain ⟨i1, i2⟩ := ih s' s (hr.2.2.2.2 _ (lkp_mem h1)) (hw.2.2.2.2 _ hm) b.1 b.2 h2
      refine ⟨?_, fun p => ?_⟩
      · simp only [isVal, strIs]
        rw [valE_lkp, hlw]
        simp [i1]
      · rw [tk_either, h1]
        simp [i2]
theorem agnP_C (hr : r.ok (k + 1)) (hw : w.ok (j + 1)) (rm : r.isMaybe = false) (wm : w.isMaybe = false) (ih : ∀ r' w', S.ok k r' → S.ok j w' → (∀ v ∈ corners w', ∃ p, (tk r' v p).2 = none) → f r' w' = none)
    (h : ∀ v ∈ corners w, ∃ p, (tk r v p).2 = none) : agnP f r w = none := by
  have dflt : r.cls ≠ w.cls → False := fun hc => by
    obtain ⟨p, hp⟩ := h _ (cor0_mem hw)
    rw [tk_cls rm (by rw [val_cls (corners_val _ _ hw _ (cor0_mem hw)) wm]; exact fun z => hc z.symm)] at hp
    cases hp
  cases r <;> cases w <;> first | (refine (dflt ?_).elim; simp only [S.cls]; decide) | (simp [S.isMaybe] at rm; done) | (simp [S.isMaybe] at wm; done) | skip
  case whole.whole lo hi a b =>
    simp only [agnP, Option.map_eq_none_iff]
    refine none_of_head fun i hi => ?_
    simp only [List.mem_cons, List.not_mem_nil, or_false] at hi
    obtain ⟨p, hp⟩ := h (.int i) (by simp only [corners]; rcases hi with rfl | rfl <;> simp)
    rw [tk_whole, whole_int] at hp
    split at hp
    · rename_i hc
      simp only [hc, Bool.not_true]
    · cases hp
  case word.word m' m =>
    simp only [S.ok] at hw
    simp only [agnP]
    rw [if_neg]
    intro hm
    obtain ⟨p, hp⟩ := h (aas m) (by simp [corners])
    have := (aas_val hw.1).2
    rw [tk_word, aas, word_str, if_neg] at hp
    · cases hp
    · simp
      omega
  case word.one m ws =>
    simp only [agnP, Option.map_eq_none_iff]
    refine none_of_head fun s hs => ?_
    obtain ⟨p, hp⟩ := h (.str s) (by simp only [corners]; exact List.mem_map_of_mem hs)
    rw [tk_word, word_str] at hp
    split at hp
    · rename_i hc
      simp at hc
      simp
      omega
    · cases hp
  case truth.truth => simp only [agnP]
  case one.word ss m =>
    simp only [S.ok] at hr
    obtain ⟨p, hp⟩ := h (.str "") (by simp [corners])
    rw [tk_one, one_str, if_neg] at hp
    · cases hp
    · intro hc
      have := List.all_eq_true.mp hr.2.2.1 _ (of_decide_eq_true hc)
      rw [name_ne] at this
      cases this
  case one.one rs ws =>
    simp only [agnP, Option.map_eq_none_iff]
    refine none_of_head fun s hs => ?_
    obtain ⟨p, hp⟩ := h (.str s) (by simp only [corners]; exact List.mem_map_of_mem hs)
    rw [tk_one, one_str] at hp
    split at hp
    · rename_i hc
      rw [hc]
      rfl
    · cases hp
  case list.list r' m' w' m =>
    simp only [S.ok] at hr hw
    obtain ⟨a0, r0, e0⟩ := corners_ne j w' hw.2.2
    simp only [agnP]
    split
    · rename_i hm
      obtain ⟨p, hp⟩ := h (.tup [.str "list", .tup (List.replicate m.toNat ((corners w').take 1)).flatten]) (by simp [corners])
      rw [e0] at hp
      rw [tk_list, if_neg] at hp
      · cases hp
      · simp
        omega
    · rename_i hm
      split
      · rename_i h0
        rw [Option.map_eq_none_iff]
        refine ih r' w' hr.2.2 hw.2.2 fun v hv => ?_
        obtain ⟨p, hp⟩ := h (.tup [.str "list", .tup [v]]) (by
          simp only [corners, if_pos h0]
          exact List.mem_append_right _ (List.mem_map_of_mem hv))
        rw [tk_list, if_pos (by simp; omega)] at hp
        exact ⟨_, fsome_none.mp hp _ (by simp; rfl)⟩
      · rfl
  case record.record rs ws =>
    simp only [S.ok] at hr hw
    have hndw := (rises_iff.mp hw.2.2.1).nodup
    simp only [agnP]
    rw [agnR_none]
    intro x hx
    rw [corners_record] at h
    refine ⟨fun hn => ?_, fun a ha => ?_⟩
    · obtain ⟨p, hp⟩ := h _ List.mem_cons_self
      rw [recD, tk_record (fill_nm hw.2.1 _ _) (fill_ris hw.2.2.1 _ _)] at hp
      have := fsome_none.mp hp _ (List.mem_map_of_mem hx)
      rw [tkR_fill hndw] at this
      cases hl : lkp ws x.1 with
      | none => rw [hl] at this; simp [hn] at this
      | some a =>
        obtain ⟨s', need'⟩ := a
        rw [hl] at this
        cases need' with
        | none => exact ⟨s', rfl⟩
        | some z => simp [fillH, hn] at this
    · refine ih _ _ (hr.2.2.2 x hx).1 (hw.2.2.2 _ (lkp_mem ha)).1 fun v hv => ?_
      obtain ⟨p, hp⟩ := h (recD (fillP ws cor0 (some (x.1, v)))) (List.mem_cons_of_mem _ (List.mem_flatten.mpr ⟨_, List.mem_map_of_mem (lkp_mem ha), List.mem_map_of_mem hv⟩))
      rw [recD, tk_record (fill_nm hw.2.1 _ _) (fill_ris hw.2.2.1 _ _)] at hp
      have := fsome_none.mp hp _ (List.mem_map_of_mem hx)
      rw [tkR_fill hndw, ha] at this
      simp [fillH] at this
      exact ⟨_, this⟩
  case either.either rs ws =>
    simp only [S.ok] at hr hw
    simp only [agnP]
    rw [agnE_none]
    intro x hx
    have hc : ∀ v ∈ corners x.2, .tup [.str "either", .str x.1, v] ∈ corners (.either ws) := fun v hv => by
      simp only [corners, cornE_eq]
      exact List.mem_flatten.mpr ⟨_, List.mem_map_of_mem hx, List.mem_map_of_mem hv⟩
    obtain ⟨p, hp⟩ := h _ (hc _ (cor0_mem (hw.2.2.2.2 x hx)))
    rw [tk_either] at hp
    cases hl : lkp rs x.1 with
    | none => rw [hl] at hp; cases hp
    | some s' =>
      refine ⟨s', rfl, ih s' x.2 (hr.2.2.2.2 _ (lkp_mem hl)) (hw.2.2.2.2 x hx) fun v hv => ?_⟩
      obtain ⟨p, hp⟩ := h _ (hc v hv)
      rw [tk_either, hl] at hp
      exact ⟨_, hp⟩
end
/-- nothing against: all values are taken -/
theorem agn_A : ∀ (n k j : Nat) (r w : S), r.ok k → w.ok j → k + j ≤ n → agn n r w = none → ∀ v p, isVal w v = true → (tk r v p).2 = none
  | 0, k, j, r, w, hr, hw, hn, _ => by
    obtain rfl : k = 0 := by omega
    simp [S.ok] at hr
  | n + 1, 0, j, r, w, hr, hw, hn, _ => by simp [S.ok] at hr
  | n + 1, k + 1, 0, r, w, hr, hw, hn, _ => by simp [S.ok] at hw
  | n + 1, k + 1, j + 1, r, w, hr, hw, hn, h => by
    intro v p hv
    cases wm : w.isMaybe with
    | true =>
      cases w <;> simp [S.isMaybe] at wm
      rename_i w'
      simp only [S.ok] at hw
      cases rm : r.isMaybe with
      | true =>
        cases r <;> simp [S.isMaybe] at rm
        rename_i r'
        simp only [S.ok] at hr
        rw [agn_mm] at h
        rw [tk_maybe]
        split
        · rfl
        · rename_i hv0
          simp only [isVal, Bool.or_eq_true] at hv
          exact agn_A n k j r' w' hr.2 hw.2 (by omega) h v p (hv.resolve_left hv0)
      | false => rw [agn_nm rm] at h; cases h
    | false =>
      cases rm : r.isMaybe with
      | true =>
        cases r <;> simp [S.isMaybe] at rm
        rename_i r'
        simp only [S.ok] at hr
        rw [agn_mn wm] at h
        rw [tk_maybe]
        split
        · rfl
        · exact agn_A n k (j + 1) r' w hr.2 hw (by omega) h v p hv
      | false =>
        rw [agn_nn rm wm] at h
        exact agnP_A hr hw rm wm (fun r' w' a b => agn_A n k j r' w' a b (by omega)) h v p hv
theorem agn_B : ∀ (n k j : Nat) (r w : S), r.ok k → w.ok j → k + j ≤ n → ∀ v q, agn n r w = some (v, q) → isVal w v = true ∧ ∀ p, (tk r v p).2 = some (p ++ q)
  | 0, k, j, r, w, hr, hw, hn => by
    obtain rfl : k = 0 := by omega
    simp [S.ok] at hr
  | n + 1, 0, j, r, w, hr, hw, hn => by simp [S.ok] at hr
  | n + 1, k + 1, 0, r, w, hr, hw, hn => by simp [S.ok] at hw
  | n + 1, k + 1, j + 1, r, w, hr, hw, hn => by
    intro v q h
    cases wm : w.isMaybe with
    | true =>
      cases w <;> simp [S.isMaybe] at wm
      rename_i w'
      simp only [S.ok] at hw
      cases rm : r.isMaybe with
      | true =>
        cases r <;> simp [S.isMaybe] at rm
        rename_i r'
        simp only [S.ok] at hr
        rw [agn_mm] at h
        obtain ⟨h1, h2⟩ := agn_B n k j r' w' hr.2 hw.2 (by omega) v q h
        refine ⟨by simp only [isVal, h1, Bool.or_true], fun p => ?_⟩
        rw [tk_maybe, if_neg]
        · exact h2 p
        · intro hv
          rw [isNon_eq hv, non_val hw.1] at h1
          cases h1
      | false =>
        rw [agn_nm rm] at h
        cases h
        refine ⟨rfl, fun p => ?_⟩
        rw [tk_cls rm, List.append_nil]
        cases r <;> first | (simp [S.isMaybe] at rm; done) | (simp only [S.cls, D.cls]; decide)
    | false =>
      cases rm : r.isMaybe with
      | true =>
        cases r <;> simp [S.isMaybe] at rm
        rename_i r'
        simp only [S.ok] at hr
        rw [agn_mn wm] at h
        obtain ⟨h1, h2⟩ := agn_B n k (j + 1) r' w hr.2 hw (by omega) v q h
        refine ⟨h1, fun p => ?_⟩
        rw [tk_maybe, if_neg]
        · exact h2 p
        · intro hv
          rw [isNon_eq hv, non_val wm] at h1
          cases h1
      | false =>
        rw [agn_nn rm wm] at h
        exact agnP_B hr hw rm wm (fun r' w' a b => agn_A n k j r' w' a b (by omega)) (fun r' w' a b => agn_B n k j r' w' a b (by omega)) h
/-- all corners are taken: nothing against -/
theorem agn_C : ∀ (n k j : Nat) (r w : S), r.ok k → w.ok j → k + j ≤ n → (∀ v ∈ corners w, ∃ p, (tk r v p).2 = none) → agn n r w = none
  | 0, k, j, r, w, hr, hw, hn => by
    obtain rfl : k = 0 := by omega
    simp [S.ok] at hr
  | n + 1, 0, j, r, w, hr, hw, hn => by simp [S.ok] at hr
  | n + 1, k + 1, 0, r, w, hr, hw, hn => by simp [S.ok] at hw
  | n + 1, k + 1, j + 1, r, w, hr, hw, hn => by
    intro h
    cases wm : w.isMaybe with
    | true =>
      cases w <;> simp [S.isMaybe] at wm
      rename_i w'
      simp only [S.ok] at hw
      cases rm : r.isMaybe with
      | true =>
        cases r <;> simp [S.isMaybe] at rm
        rename_i r'
        simp only [S.ok] at hr
        rw [agn_mm]
        refine agn_C n k j r' w' hr.2 hw.2 (by omega) fun v hv => ?_
        obtain ⟨p, hp⟩ := h v (by simp only [corners]; exact List.mem_cons_of_mem _ hv)
        rw [tk_maybe, if_neg] at hp
        · exact ⟨p, hp⟩
        · intro hv0
          have := corners_val j w' hw.2 v hv
          rw [isNon_eq hv0, non_val hw.1] at this
          cases this
      | false =>
        obtain ⟨p, hp⟩ := h .non (by simp [corners])
        rw [tk_cls rm] at hp
        · cases hp
        · cases r <;> first | (simp [S.isMaybe] at rm; done) | (simp only [S.cls, D.cls]; decide)
    | false =>
      cases rm : r.isMaybe with
      | true =>
        cases r <;> simp [S.isMaybe] at rm
        rename_i r'
        simp only [S.ok] at hr
        rw [agn_mn wm]
        refine agn_C n k (j + 1) r' w hr.2 hw (by omega) fun v hv => ?_
        obtain ⟨p, hp⟩ := h v hv
        rw [tk_maybe, if_neg] at hp
        · exact ⟨p, hp⟩
        · intro hv0
          have := corners_val (j + 1) w hw v hv
          rw [isNon_eq hv0, non_val wm] at this
          cases this
      | false =>
        rw [agn_nn rm wm]
        exact agnP_C hr hw rm wm (fun r' w' a b => agn_C n k j r' w' a b (by omega)) h
end SH

namespace SH
open PySem L2
theorem kv_ext : ∀ {l m : List (Str × D)}, Ris (l.map (·.1)) → Ris (m.map (·.1)) → (∀ k, lkp l k = lkp m k) → l = m := by
  intro l m hl hm h
  have hk : l.map (·.1) = m.map (·.1) := ris_ext hl hm fun z => by
    have e := h z
    have a := lkp_isSome (l := l) (w := z)
    have b := lkp_isSome (l := m) (w := z)
    rw [e] at a
    rw [a] at b
    exact decide_eq_decide.mp b
  have nl := hl.nodup
  have nm := hm.nodup
  apply List.ext_getElem?
  intro i
  cases e1 : l[i]? with
  | none =>
    have : l.length ≤ i := List.getElem?_eq_none_iff.mp e1
    have h2 := congrArg List.length hk
    simp at h2
    rw [List.getElem?_eq_none (by omega)]
  | some p =>
    have h2 := congrArg List.length hk
    simp at h2
    have hi : i < l.length := (List.getElem?_eq_some_iff.mp e1).1
    have e2 : m[i]? = some m[i] := List.getElem?_eq_getElem (by omega)
    have e3 : p.1 = m[i].1 := by
      have q := congrArg (fun z : List Str => z[i]?) hk
      simp only [List.getElem?_map, e1, e2, Option.map_some] at q
      exact Option.some.inj q
    have p1 : lkp l p.1 = some p.2 := lkp_of_mem nl (List.mem_of_getElem? e1)
    have p2 : lkp m m[i].1 = some m[i].2 := lkp_of_mem nm (List.mem_of_getElem? e2)
    rw [h, e3, p2] at p1
    rw [e2]
    congr 1
    exact Prod.ext e3 (Option.some.inj p1).symm
theorem lkp_perm {l m : List (Str × D)} (hp : l.Perm m) (hn : (m.map (·.1)).Nodup) (k : Str) : lkp l k = lkp m k := by
  have hn' : (l.map (·.1)).Nodup := (hp.map _).nodup_iff.mpr hn
  cases e : lkp m k with
  | some v => exact lkp_of_mem hn' (hp.mem_iff.mpr (lkp_mem e))
  | none =>
    rw [lkp_none] at e ⊢
    exact fun h => e ((hp.map _).mem_iff.mp h)
theorem lkp_app {α : Type} : ∀ (l m : List (Str × α)) (k : Str), lkp (l ++ m) k = match lkp l k with
    | some v => some v
    | none => lkp m k
  | [], m, k => rfl
  | (n, a) :: r, m, k => by
    rw [List.cons_append, lkp_cons, lkp_cons, lkp_app r m k]
    by_cases h : n = k <;> simp [h]
theorem lkp_filter_ne (l : List (Str × D)) (n k : Str) : lkp (l.filter fun p => !decide (p.1 = n)) k = if k = n then none else lkp l k := by
  induction l with
  | nil => simp [lkp]
  | cons p r ih =>
    obtain ⟨m, a⟩ := p
    by_cases h : m = n
    · subst h
      rw [List.filter_cons_of_neg (by simp), ih, lkp_cons]
      by_cases hk : k = m
      · simp [hk]
      · have : ¬ m = k := fun e => hk e.symm
        simp [hk, this]
    · rw [List.filter_cons_of_pos (by simp [h]), lkp_cons, ih, lkp_cons]
      by_cases hk : m = k
      · subst hk; simp [h]
      · simp [hk]
theorem lkp_fill_put {rows : List Fld} (hn : (rows.map (·.1)).Nodup) (g : S → D) {n : Str} {x : D} {a : S × Option D} (ha : lkp rows n = some a) (k : Str) :
    lkp (fillP rows g (some (n, x))) k = if k = n then some x else lkp (fillP rows g none) k := by
  rw [lkp_fill hn, lkp_fill hn]
  by_cases hk : k = n
  · subst hk
    simp [ha, fillH]
  · simp only [if_neg hk]
    congr 1
    funext a
    simp [fillH, hk]
/-- put in at a name -/
def putKV (P : List (Str × D)) (n : Str) (x : D) : List (Str × D) := if n ∈ P.map (·.1) then P.map (fun p => if p.1 = n then (n, x) else p) else P ++ [(n, x)]
theorem lkp_put (P : List (Str × D)) (n : Str) (x : D) (k : Str) : lkp (putKV P n x) k = if k = n then some x else lkp P k := by
  unfold putKV
  by_cases h : n ∈ P.map (·.1)
  · rw [if_pos h]
    have key : ∀ Q : List (Str × D), lkp (Q.map fun p => if p.1 = n then (n, x) else p) k = if k = n then (if n ∈ Q.map (·.1) then some x else none) else lkp Q k := by
      intro Q
      induction Q with
      | nil => simp [lkp]
      | cons p r ih =>
        obtain ⟨m, a⟩ := p
        rw [List.map_cons]
        by_cases hm : m = n
        · subst hm
          simp only [if_true]
          rw [lkp_cons, lkp_cons, ih]
          by_cases hk : k = m
          · simp [hk]
          · have : ¬ m = k := fun e => hk e.symm
            simp [hk, this]
        · simp only [if_neg hm]
          rw [lkp_cons, lkp_cons, ih]
          by_cases hk : k = n
          · subst hk
            have h2 : ¬ k = m := fun e => hm e.symm
            have h3 : (k ∈ List.map (fun x : Str × D => x.1) ((m, a) :: r)) ↔ k ∈ r.map (·.1) := by
              rw [List.map_cons, List.mem_cons]
              exact ⟨fun h => h.resolve_left h2, .inr⟩
            rw [if_neg hm, if_pos rfl, if_pos rfl]
            by_cases h4 : k ∈ r.map (·.1)
            · rw [if_pos h4, if_pos (h3.mpr h4)]
            · rw [if_neg h4, if_neg fun z => h4 (h3.mp z)]
          · simp [hk]
    rw [key P, if_pos h]
  · rw [if_neg h, lkp_app]
    have hn := lkp_none.mpr h
    by_cases hk : k = n
    · subst hk
      simp [hn, lkp]
    · have : ¬ n = k := fun e => hk e.symm
      cases e : lkp P k <;> simp [hk, lkp, this]
theorem put_keys {P : List (Str × D)} {n : Str} {x : D} (h : (P.map (·.1)).Nodup) : ((putKV P n x).map (·.1)).Nodup := by
  unfold putKV
  split
  · rename_i hm
    have e : (P.map fun p => if p.1 = n then (n, x) else p).map (·.1) = P.map (·.1) := by
      rw [List.map_map]
      refine List.map_congr_left fun p _ => ?_
      by_cases hp : p.1 = n <;> simp [hp]
    rw [e]
    exact h
  · rename_i hm
    rw [List.map_append, List.nodup_append]
    refine ⟨h, by simp, fun a ha b hb e => ?_⟩
    simp at hb
    subst e hb
    exact hm ha
theorem dicPut_KV (P : List (Str × D)) (n : Str) (x : D) : dicPut (P.map fun r => (.inr r.1 : Key)) (P.map (·.2)) (.inr n) x = .dic ((putKV P n x).map fun r => (.inr r.1 : Key)) ((putKV P n x).map (·.2)) := by
  unfold dicPut putKV
  rw [hasK_rows]
  by_cases h : n ∈ P.map (·.1)
  · rw [if_pos (decide_eq_true h), if_pos h]
    congr 1
    · rw [List.map_map]
      refine List.map_congr_left fun p _ => ?_
      by_cases hp : p.1 = n <;> simp [hp]
    · rw [List.map_map]
      have : ∀ Q : List (Str × D), (((Q.map fun r => (.inr r.1 : Key)).zip (Q.map (·.2))).map fun p => if p.1 = .inr n then x else p.2) = Q.map ((·.2) ∘ fun p => if p.1 = n then (n, x) else p) := by
        intro Q
        induction Q with
        | nil => rfl
        | cons p r ih =>
          rw [List.map_cons, List.map_cons, List.zip_cons_cons, List.map_cons, ih, List.map_cons]
          congr 1
          by_cases hp : p.1 = n
          · simp [hp]
          · have : ¬ (Sum.inr p.1 : Key) = .inr n := fun e => hp (Sum.inr.inj e)
            simp [hp, this]
      exact this P
  · rw [if_neg (by simpa using h), if_neg h]
    simp
theorem fillP_least (rows : List Fld) : fillP rows S.least none = leastP rows := by
  induction rows with
  | nil => rfl
  | cons r rows ih =>
    have e : fillP (r :: rows) S.least none = (if r.2.2.isNone = true then [(r.1, r.2.1.least)] else []) ++ fillP rows S.least none := by
      unfold fillP
      cases h : r.2.2 with
      | none => rw [List.filterMap_cons_some (b := (r.1, r.2.1.least)) (by simp [h])]; rfl
      | some v => rw [List.filterMap_cons_none (by simp [h])]; rfl
    rw [e, ih]
    unfold leastP
    cases h : r.2.2.isNone <;> simp [h]
theorem least_record (rows : List Fld) : (S.record rows).least = recD (fillP rows S.least none) := by
  rw [fillP_least, S.least, leastF_eq]
  rfl
/-- the keys of a dict of pairs, sorted -/
theorem sorted_keys {P Q : List (Str × D)} (hP : (P.map (·.1)).Nodup) (hQ : Ris (Q.map (·.1))) (h : ∀ k, lkp P k = lkp Q k) : sortS (P.map (·.1)) = Q.map (·.1) := by
  refine ris_ext (ris_sort hP) hQ fun z => ?_
  have hp : (sortS (P.map (·.1))).Perm (P.map (·.1)) := sortS_perm _
  rw [hp.mem_iff]
  have a := lkp_isSome (l := P) (w := z)
  have b := lkp_isSome (l := Q) (w := z)
  rw [h z] at a
  rw [a] at b
  exact decide_eq_decide.mp b
end SH

namespace SH
open PySem L2
section
variable {pa : Nat → Addr} {n : Nat} {st : Store} {d e : D} {f : S → S → Option (D × List D)}
def oA : Option (D × List D) → D
  | none => .non
  | some a => .tup [a.1, .tup a.2]
@[simp] theorem oA_none : oA none = .non := rfl
@[simp] theorem oA_some {a : D × List D} : oA (some a) = .tup [a.1, .tup a.2] := rfl
theorem oA_isNon {o : Option (D × List D)} : (oA o).isNon = o.isNone := by cases o <;> rfl
def AgAt (pa : Nat → Addr) (st : Store) (m n : Nat) : Prop := ∀ (k j : Nat) (r w : S), r.ok k → w.ok j → k + j ≤ m → k ≤ 20 → j ≤ 20 → callT (T pa) n ix_against [r.d, w.d] st = .ok (oA (agn m r w)) st
/-- the table of with_pair's lambda stands -/
def WpTab (pa : Nat → Addr) (st : Store) : Prop := st[0]? = some (O.tab ("with_pair.<locals>." ++ "<lambda>") (pa 0))
theorem mul_a {m : Int} (h0 : 0 ≤ m) (h1 : m ≤ 20) : mulD st (.str "a") (.int m) = some (aas m) := by
  have hl : ("a" : Str).length = 1 := rfl
  unfold aas
  simp only [mulD, hl]
  by_cases h2 : 2 ≤ m
  · have : m ≤ 1000 := by omega
    simp [h2, this]
  · by_cases h3 : m = 1
    · subst h3; rfl
    · have : m = 0 := by omega
      subst this; rfl
theorem mul_t {x : D} {m : Int} (h0 : 1 ≤ m) (h1 : m ≤ 20) : mulD st (.tup [x]) (.int m) = some (.tup (List.replicate m.toNat x)) := by
  have h2 : m ≤ 1000 := by omega
  have e : (List.replicate m.toNat [x]).flatten = List.replicate m.toNat x := by
    generalize m.toNat = k
    induction k with
    | zero => rfl
    | succ k ih => rw [List.replicate_succ, List.flatten_cons, ih, List.replicate_succ]; rfl
  simp [mulD, h0, h2, e]
theorem agn_len {n k j : Nat} {r w : S} {a : D × List D} (hr : r.ok k) (hw : w.ok j) (hn : k + j ≤ n) (h : agn n r w = some a) : a.2.length ≤ k := by
  obtain ⟨_, h2⟩ := agn_B n k j r w hr hw hn a.1 a.2 h
  obtain ⟨q, e, hl, _⟩ := tk_path k r a.1 [] a.2 hr (h2 [])
  simp at e
  rw [e]
  exact hl
theorem plain_tk {p : D} (l : List D) (h : (D.tup l).plain = true) (hp : p ∈ l) : p.plain = true := plain_tup h p hp
theorem pl_whole {lo hi a b : Int} : callT (T pa) (n + 1) ix_against_plain [(S.whole lo hi).d, (S.whole a b).d] st = .ok (oA (agnP f (.whole lo hi) (.whole a b))) st := by
  apply okR.eq
  refine z_run (fn := ⟨2, 5, false, b_against_plain⟩) rfl rfl ?_
  simp [S.d_whole, ↓b_against_plain, startE]
  refine z_to (w_compIf (xs := [a, b]) D.int D.int (fun i => !(decide (lo ≤ i) && decide (i ≤ hi))) (by simp [elems]) (fun i _ => ⟨_, set_nm, ?_, fun _ => by simp [wipeE]⟩) ?_)
  · by_cases h : lo ≤ i <;> simp [wipeE, h]
  · have hp : D.plains (([a, b].filter fun i => !(decide (lo ≤ i) && decide (i ≤ hi))).map D.int) = true := plains_of fun x hx => by
      obtain ⟨i, _, rfl⟩ := List.mem_map.mp hx
      rfl
    have eg : agnP f (.whole lo hi) (.whole a b) = (([a, b].filter fun i => !(decide (lo ≤ i) && decide (i ≤ hi))).head?).map fun i => (.int i, []) := by simp only [agnP]
    generalize [a, b].filter (fun i => !(decide (lo ≤ i) && decide (i ≤ hi))) = l at hp eg
    simp [eqD_nil hp]
    cases l <;> simp [eg]
theorem pl_word {m' m : Int} (h0 : 0 ≤ m) (h1 : m ≤ 20) : callT (T pa) (n + 1) ix_against_plain [(S.word m').d, (S.word m).d] st = .ok (oA (agnP f (.word m') (.word m))) st := by
  apply okR.eq
  refine z_run (fn := ⟨2, 5, false, b_against_plain⟩) rfl rfl ?_
  simp [S.d_word, ↓b_against_plain, startE, mul_a h0 h1]
  refine brB_dec (fun h => ?_) (fun h => ?_) <;> simp [agnP, h, mul_a h0 h1]
theorem pl_truth : callT (T pa) (n + 1) ix_against_plain [S.truth.d, S.truth.d] st = .ok (oA (agnP f .truth .truth)) st := by
  apply okR.eq
  refine z_run (fn := ⟨2, 5, false, b_against_plain⟩) rfl rfl ?_
  simp [S.d_truth, ↓b_against_plain, startE, agnP]
theorem pl_one {rs ws : List Str} : callT (T pa) (n + 1) ix_against_plain [(S.one rs).d, (S.one ws).d] st = .ok (oA (agnP f (.one rs) (.one ws))) st := by
  apply okR.eq
  refine z_run (fn := ⟨2, 5, false, b_against_plain⟩) rfl rfl ?_
  simp [S.d_one, ↓b_against_plain, startE]
  refine z_to (w_compIf (xs := ws) D.str D.str (fun s => !decide (s ∈ rs)) (by simp [elems]) (fun i _ => ⟨_, set_nm, ?_, fun _ => by simp [wipeE]⟩) ?_)
  · simp [wipeE, inD_strs]
  · have hp : D.plains ((ws.filter fun s => !decide (s ∈ rs)).map D.str) = true := plains_strs _
    have eg : agnP f (.one rs) (.one ws) = ((ws.filter fun s => !decide (s ∈ rs)).head?).map fun s => (.str s, []) := by simp only [agnP]
    generalize ws.filter (fun s => !decide (s ∈ rs)) = l at hp eg
    simp [eqD_nil hp]
    cases l <;> simp [eg]
theorem ag_list {k j m : Nat} {r' w' : S} {c' c : Int} (ih : AgAt pa st m n) (hr : (S.list r' c').ok (k + 1)) (hw : (S.list w' c).ok (j + 1)) (hn : k + j ≤ m) (hnn : 22 ≤ n) (hk : k ≤ 19) (hj : j ≤ 19) :
    callT (T pa) (n + 1) ix_against_list [(S.list r' c').d, (S.list w' c).d] st = .ok (oA (agnP (agn m) (.list r' c') (.list w' c))) st := by
  simp only [S.ok] at hr hw
  apply okR.eq
  refine z_run (fn := ⟨2, 3, false, b_against_list⟩) rfl rfl ?_
  have e1 := r_least (pa := pa) (st := st) j n w' (by omega) hw.2.2
  simp [S.d_list, ↓b_against_list, startE, e1]
  refine brB_dec (fun h => ?_) (fun h => ?_)
  · simp [e1, mul_t (x := w'.least) (m := c) (by omega) (by omega), agnP, h]
  · simp
    have ih2 := ih k j r' w' hr.2.2 hw.2.2 hn (by omega) (by omega)
    refine brB_dec (fun h2 => ?_) (fun h2 => ?_)
    · simp [ih2, agnP, h, h2]
      cases ho : agn m r' w' with
      | none => simp [isND, D.isNon, agnP, h, h2, ho]
      | some a =>
        have hl := agn_len hr.2.2 hw.2.2 hn ho
        have e9 : sizeLine = 16777216 := rfl
        simp [isND, D.isNon, addD]
        refine onS_of (if_pos (by omega)) ?_
        simp [agnP, h, h2, ho]
    · simp [agnP, h, h2, isND, D.isNon]
def gE (f : S → S → Option (D × List D)) (rs : List (Str × S)) (r : Str × S) : Option (D × List D) := match lkp rs r.1 with
    | none => some (.tup [.str "either", .str r.1, r.2.least], [])
    | some s' => (f s' r.2).map fun a => (.tup [.str "either", .str r.1, a.1], .str r.1 :: a.2)
theorem agnE_find {f : S → S → Option (D × List D)} {rs : List (Str × S)} : ∀ ws : List (Str × S), agnE f rs ws = ws.findSome? (gE f rs)
  | [] => rfl
  | (t, s) :: r => by
    rw [agnE_cons, List.findSome?_cons, agnE_find r]
    unfold gE
    cases lkp rs t with
    | none => rfl
    | some s' => cases h : f s' s <;> simp [h]
def gR (f : S → S → Option (D × List D)) (ws : List Fld) (r : Fld) : Option (D × List D) := match lkp ws r.1 with
    | none => if r.2.2.isNone = true then some (recD (fillP ws S.least none), [.str r.1]) else none
    | some a => if (r.2.2.isNone && a.2.isSome) = true then some (recD (fillP ws S.least none), [.str r.1]) else (f r.2.1 a.1).map fun b => (recD (fillP ws S.least (some (r.1, b.1))), .str r.1 :: b.2)
theorem agnR_find {f : S → S → Option (D × List D)} {ws : List Fld} : ∀ rs : List Fld, agnR f ws rs = rs.findSome? (gR f ws)
  | [] => rfl
  | (n, s, need) :: r => by
    rw [agnR_cons, List.findSome?_cons, agnR_find r]
    unfold gR
    cases lkp ws n with
    | none => cases need <;> rfl
    | some a =>
      obtain ⟨s', need'⟩ := a
      dsimp only
      split
      · rfl
      · cases h : f s s' <;> simp [h]
theorem find_oA {α : Type} (g : α → Option (D × List D)) : ∀ xs : List α, xs.findSome? (fun x => (g x).map fun a => oA (some a)) = (xs.findSome? g).map fun a => oA (some a)
  | [] => rfl
  | x :: r => by
    rw [List.findSome?_cons, List.findSome?_cons]
    cases g x with
    | none => exact find_oA g r
    | some a => rfl
theorem r_row_flds {rows : List Fld} {w : Str} (h : (S.record rows).d.plain = true) : callT (T pa) (n + 1) ix_row_of [.tup (rows.map fldD), .str w] st = .ok (rowIs fldD w (lkp rows w)) st := by
  rw [← rowOf_map fldD (fun r => rfl) rows w]
  exact r_row_of fun r hr => by
    obtain ⟨x, hx, rfl⟩ := List.mem_map.mp hr
    exact ⟨(plain_flds h x hx).1, rfl⟩
theorem r_row_tags {rows : List (Str × S)} {w : Str} (h : (S.either rows).d.plain = true) : callT (T pa) (n + 1) ix_row_of [.tup (rows.map tagD), .str w] st = .ok (rowIs tagD w (lkp rows w)) st := by
  rw [← rowOf_map tagD (fun r => rfl) rows w]
  exact r_row_of fun r hr => by
    obtain ⟨x, hx, rfl⟩ := List.mem_map.mp hr
    exact ⟨(plain_tags h x hx).1, rfl⟩
theorem ag_either {k j m : Nat} {rs ws : List (Str × S)} (ih : AgAt pa st m n) (hr : (S.either rs).ok (k + 1)) (hw : (S.either ws).ok (j + 1)) (hn : k + j ≤ m) (hnn : 22 ≤ n) (hk : k ≤ 19) (hj : j ≤ 19) :
    callT (T pa) (n + 1) ix_against_either [(S.either rs).d, (S.either ws).d] st = .ok (oA (agnP (agn m) (.either rs) (.either ws))) st := by
  have hpr := S.ok_plain hr
  have hpw := S.ok_plain hw
  simp only [S.ok] at hr hw
  obtain ⟨n', rfl⟩ : ∃ n', n = n' + 1 := ⟨n - 1, by omega⟩
  apply okR.eq
  refine z_run (fn := ⟨2, 6, false, b_against_either⟩) rfl rfl ?_
  simp only [b_against_either, startE]
  have e0 : agnP (agn m) (.either rs) (.either ws) = ws.findSome? (gE (agn m) rs) := by simp only [agnP]; exact agnE_find ws
  rw [e0]
  have e9 : sizeLine = 16777216 := rfl
  simp
  refine z_to (w_forR (xs := ws) (fun ρ => ∃ x2 x3 x4 x5, ρ = [some (S.either rs).d, some (S.either ws).d, x2, x3, x4, x5]) tagD (fun x => (gE (agn m) rs x).map fun a => oA (some a)) (by simp [S.d_either]) ⟨_, _, _, _, rfl⟩ ?_ ?_ ?_)
  · rintro ⟨t, s⟩ hx ρ ⟨x2, x3, x4, x5, rfl⟩
    refine ⟨_, by simp [tagD]; rfl, ?_⟩
    have hs := hw.2.2.2.2 _ hx
    simp [S.d_either, r_row_tags (pa := pa) (n := n') (st := st) (w := t) hpr]
    cases hl : lkp rs t with
    | none =>
      simp [isND, D.isNon, r_least (pa := pa) (st := st) j (n' + 1) s (by omega) hs]
      simp [gE, hl]
    | some s' =>
      have hm := lkp_mem hl
      simp [isND, D.isNon, tagD, ih k j s' s (hr.2.2.2.2 _ hm) hs hn (by omega) (by omega)]
      cases ho : agn m s' s with
      | none =>
        simp [D.isNon, gE, hl, ho, S.d_either]
      | some a =>
        have hlen := agn_len (hr.2.2.2.2 _ hm) hs hn ho
        simp [D.isNon, addD]
        refine onS_of (if_pos (by omega)) ?_
        simp [gE, hl, ho]
  · rw [find_oA]
    intro h ρ' hI
    simp [Option.map_eq_none_iff.mp h]
  · rw [find_oA]
    intro d h ρ'
    obtain ⟨a, ha, rfl⟩ := Option.map_eq_some_iff.mp h
    simp [ha]
theorem r_with_pair {j : Nat} {ws : List Fld} {nm : Str} {x : D} {a : S × Option D} (hT : WpTab pa st) (hw : (S.record ws).ok (j + 1)) (ha : lkp ws nm = some a) :
    callT (T pa) (n + 1) ix_with_pair [recD (fillP ws S.least none), .str nm, x] st = .ok (recD (fillP ws S.least (some (nm, x)))) st := by
  simp only [S.ok] at hw
  have hnd := (rises_iff.mp hw.2.2.1).nodup
  apply okR.eq
  refine z_run (fn := ⟨3, 5, false, b_with_pair pa⟩) rfl rfl ?_
  simp only [b_with_pair, startE, recD]
  simp
  refine z_to (w_compIf (xs := fillP ws S.least none) prD prD (fun p => !decide (p.1 = nm)) (by simp) (fun p hp => ⟨_, set_nm, ?_, fun _ => ?_⟩) ?_)
  · simp [wipeE, prD]
  · simp [wipeE]
  have hln : (fillP ws S.least none).length ≤ 8 := by
    have := (fill_sub ws S.least none).length_le
    simp at this
    omega
  have e9 : sizeLine = 16777216 := rfl
  simp
  have hl2 := List.length_filter_le (fun p : Str × D => !decide (p.1 = nm)) (fillP ws S.least none)
  rw [add_ll (by simp; omega)]
  obtain ⟨L, hL⟩ : ∃ L, L = (fillP ws S.least none).filter (fun p => !decide (p.1 = nm)) ++ [(nm, x)] := ⟨_, rfl⟩
  have e1 : ((fillP ws S.least none).filter (fun p => !decide (p.1 = nm))).map prD ++ [.tup [.str nm, x]] = L.map prD := by rw [hL, List.map_append]; rfl
  rw [e1]
  have hLn : (L.map (·.1)).Nodup := by
    rw [hL, List.map_append, List.nodup_append]
    refine ⟨((fill_ris hw.2.2.1 S.least none).sub ((List.filter_sublist).map _)).nodup, by simp, fun a ha b hb e => ?_⟩
    simp at hb
    subst e hb
    obtain ⟨p, hp, e⟩ := List.mem_map.mp ha
    have := (List.mem_filter.mp hp).2
    simp at this
    exact this e
  obtain ⟨R, r1, r2, r3⟩ := sort_rows prD (fun _ => rfl) (fun _ => rfl) st L hLn
  have hR : R = fillP ws S.least (some (nm, x)) := by
    refine kv_ext r3 (fill_ris hw.2.2.1 _ _) fun k => ?_
    rw [lkp_perm r2 hLn, hL, lkp_app, lkp_filter_ne, lkp_fill_put hnd S.least ha]
    by_cases hk : k = nm
    · subst hk
      simp [lkp]
    · have : ¬ nm = k := fun e => hk e.symm
      simp only [if_neg hk]
      cases h : lkp (fillP ws S.least none) k <;> simp [lkp, this]
  have hT' : st[0]? = some (O.tab ("with_pair.<locals>." ++ "<lambda>") (pa 0)) := hT
  simp [r1, hT', hR]
  rfl
theorem isMust_ndT {nd : Option D} (h : (ndOf nd).plain = true) : eqD true st (ndOf nd) (.tup [.str "must"]) = some (.bl (!nd.isNone)) := by
  have e := isMust_nd (st := st) h
  unfold eqD at e ⊢
  split at e
  · rename_i ok
    rw [if_pos ok]
    simpa using e
  · cases e
theorem ag_record {k j m : Nat} {rs ws : List Fld} (hT : WpTab pa st) (ih : AgAt pa st m n) (hr : (S.record rs).ok (k + 1)) (hw : (S.record ws).ok (j + 1)) (hn : k + j ≤ m) (hnn : 23 ≤ n) (hk : k ≤ 19) (hj : j ≤ 19) :
    callT (T pa) (n + 1) ix_against_record [(S.record rs).d, (S.record ws).d] st = .ok (oA (agnP (agn m) (.record rs) (.record ws))) st := by
  have hpr := S.ok_plain hr
  have hpw := S.ok_plain hw
  have hw0 := hw
  have hfr := plain_flds hpr
  have hfw := plain_flds hpw
  obtain ⟨n', rfl⟩ : ∃ n', n = n' + 1 := ⟨n - 1, by omega⟩
  have e1 : callT (T pa) (n' + 1) ix_least_value [(S.record ws).d] st = .ok (recD (fillP ws S.least none)) st := by
    rw [← least_record]
    exact r_least (j + 1) (n' + 1) _ (by omega) hw
  simp only [S.ok] at hr hw
  apply okR.eq
  refine z_run (fn := ⟨2, 8, false, b_against_record⟩) rfl rfl ?_
  simp only [b_against_record, startE]
  have e0 : agnP (agn m) (.record rs) (.record ws) = rs.findSome? (gR (agn m) ws) := by simp only [agnP]; exact agnR_find rs
  rw [e0]
  have e9 : sizeLine = 16777216 := rfl
  simp [e1]
  refine z_to (w_forR (xs := rs) (fun ρ => ∃ x3 x4 x5 x6 x7, ρ = [some (S.record rs).d, some (S.record ws).d, some (recD (fillP ws S.least none)), x3, x4, x5, x6, x7]) fldD (fun x => (gR (agn m) ws x).map fun a => oA (some a)) (by simp [S.d_record]) ⟨_, _, _, _, _, rfl⟩ ?_ ?_ ?_)
  · rintro ⟨t, s, need⟩ hx ρ ⟨x3, x4, x5, x6, x7, rfl⟩
    refine ⟨_, by simp [fldD]; rfl, ?_⟩
    have hs := hr.2.2.2 _ hx
    have hp := (hfr _ hx).2.2
    simp [S.d_record, r_row_flds (pa := pa) (n := n') (st := st) (w := t) hpw, isMust_nd hp]
    cases hl : lkp ws t with
    | none =>
      cases need with
      | none => simp [isND, D.isNon, gR, hl]
      | some v => simp [isND, D.isNon, gR, hl, S.d_record]
    | some a =>
      obtain ⟨s', need'⟩ := a
      have hm := lkp_mem hl
      have hp' := (hfw _ hm).2.2
      have hs' := hw.2.2.2 _ hm
      have ih2 := ih k j s s' hs.1 hs'.1 hn (by omega) (by omega)
      have hwp : ∀ x, callT (T pa) (n' + 1) ix_with_pair [recD (fillP ws S.least none), .str t, x] st = .ok (recD (fillP ws S.least (some (t, x)))) st := fun x => r_with_pair (j := j) hT hw0 hl
      cases hb : need.isNone && need'.isSome with
      | true =>
        have eg : gR (agn m) ws (t, s, need) = some (recD (fillP ws S.least none), [.str t]) := by simp [gR, hl, hb]
        simp only [Bool.and_eq_true] at hb
        cases need <;> cases need' <;> simp at hb
        have q1 := isMust_ndT (st := st) hp'
        simp [fldD, q1, isND, D.isNon, eg]
      | false =>
        have eg : gR (agn m) ws (t, s, need) = (agn m s s').map fun b => (recD (fillP ws S.least (some (t, b.1))), .str t :: b.2) := by simp [gR, hl, hb]
        have q1 := isMust_ndT (st := st) hp'
        cases ho : agn m s s' with
        | none =>
          rw [ho] at eg
          cases need <;> cases need' <;> first | (simp at hb; done) | simp [fldD, q1, isND, D.isNon, eg, ih2, ho, S.d_record]
        | some b =>
          rw [ho] at eg
          have hlen := agn_len hs.1 hs'.1 hn ho
          have ea : ∀ st, addD st (.tup [.str t]) (.tup b.2) = some (.tup (.str t :: b.2)) := fun st => by
            simp [addD]
            omega
          cases need <;> cases need' <;> first | (simp at hb; done) | simp [fldD, q1, isND, D.isNon, eg, ih2, ho, hwp, ea]
  · rw [find_oA]
    intro h ρ' hI
    simp [Option.map_eq_none_iff.mp h]
  · rw [find_oA]
    intro d h ρ'
    obtain ⟨a, ha, rfl⟩ := Option.map_eq_some_iff.mp h
    simp [ha]
theorem hd_ne {s : S} (h : s.isMaybe = false) : ∃ w r, s.d = .tup (.str w :: r) ∧ w ≠ "maybe" := by
  obtain ⟨w, r, e⟩ := S.hd s
  have h2 := S.hd_maybe s
  rw [e, h] at h2
  exact ⟨w, r, e, fun z => by simp [hdD, strIs, z] at h2⟩
theorem r_against (hT : WpTab pa st) : ∀ (m n : Nat), 2 * m + 23 ≤ n → AgAt pa st m n
  | 0, n, _ => fun k j r w hr hw hn => by
    obtain rfl : k = 0 := by omega
    simp [S.ok] at hr
  | m + 1, n, hn => fun k j r w hr hw hkj hk hj => by
    obtain ⟨n', rfl⟩ : ∃ n', n = n' + 2 := ⟨n - 2, by omega⟩
    have ih : ∀ i, n' ≤ i → AgAt pa st m i := fun i hi => r_against hT m i (by omega)
    obtain ⟨k, rfl⟩ : ∃ k', k = k' + 1 := by
      cases k with
      | zero => simp [S.ok] at hr
      | succ k => exact ⟨k, rfl⟩
    obtain ⟨j, rfl⟩ : ∃ j', j = j' + 1 := by
      cases j with
      | zero => simp [S.ok] at hw
      | succ j => exact ⟨j, rfl⟩
    have hl := r_least (pa := pa) (st := st) (j + 1) (n' + 1) w (by omega) hw
    have hr0 := hr
    have hw0 := hw
    cases wm : w.isMaybe with
    | true =>
      cases w <;> simp [S.isMaybe] at wm
      rename_i w'
      simp only [S.ok] at hw
      apply okR.eq
      refine z_run (fn := ⟨2, 4, false, b_against⟩) rfl rfl ?_
      cases rm : r.isMaybe with
      | true =>
        cases r <;> simp [S.isMaybe] at rm
        rename_i r'
        simp only [S.ok] at hr
        simp [S.d_maybe, ↓b_against, startE, ih (n' + 1) (by omega) k j r' w' hr.2 hw.2 (by omega) (by omega) (by omega), agn_mm]
      | false =>
        obtain ⟨v, q, e, hv⟩ := hd_ne rm
        simp [e, S.d_maybe, ↓b_against, startE, hv, agn_nm rm]
    | false =>
      obtain ⟨vw, qw, ew, hvw⟩ := hd_ne wm
      cases rm : r.isMaybe with
      | true =>
        cases r <;> simp [S.isMaybe] at rm
        rename_i r'
        simp only [S.ok] at hr
        apply okR.eq
        refine z_run (fn := ⟨2, 4, false, b_against⟩) rfl rfl ?_
        have h2 := ih (n' + 1) (by omega) k (j + 1) r' w hr.2 hw (by omega) (by omega) (by omega)
        rw [ew] at h2
        simp [S.d_maybe, ew, ↓b_against, startE, hvw, h2, agn_mn wm]
      | false =>
        rw [agn_nn rm wm]
        apply okR.eq
        refine z_run (fn := ⟨2, 4, false, b_against⟩) rfl rfl ?_
        cases r <;> cases w <;> first | (simp [S.isMaybe] at rm; done) | (simp [S.isMaybe] at wm; done) | skip
        case word.one c ws =>
          simp [S.d_word, S.d_one, ↓b_against, startE]
          refine z_to (w_compIf (xs := ws) D.str D.str (fun s => decide (c < (s.length : Int))) (by simp [elems]) (fun i _ => ⟨_, set_nm, ?_, fun _ => by simp [wipeE]⟩) ?_)
          · simp [wipeE]
          · have hp : D.plains ((ws.filter fun s => decide (c < (s.length : Int))).map D.str) = true := plains_strs _
            have eg : agnP (agn m) (.word c) (.one ws) = ((ws.filter fun s => decide (c < (s.length : Int))).head?).map fun s => (.str s, []) := by simp only [agnP]
            generalize ws.filter (fun s => decide (c < (s.length : Int))) = l at hp eg
            simp [eqD_nil hp]
            cases l <;> simp [eg]
        case whole.whole lo hi a b =>
          have e := pl_whole (pa := pa) (n := n') (st := st) (f := agn m) (lo := lo) (hi := hi) (a := a) (b := b)
          simp only [S.d_whole] at e
          simp [S.d_whole, ↓b_against, startE, e]
        case word.word m' m2 =>
          simp only [S.ok] at hw
          have e := pl_word (pa := pa) (n := n') (st := st) (f := agn m) (m' := m') (m := m2) hw.1 hw.2
          simp only [S.d_word] at e
          simp [S.d_word, ↓b_against, startE, e]
        case truth.truth =>
          have e := pl_truth (pa := pa) (n := n') (st := st) (f := agn m)
          simp only [S.d_truth] at e
          simp [S.d_truth, ↓b_against, startE, e]
        case one.one rs ws =>
          have e := pl_one (pa := pa) (n := n') (st := st) (f := agn m) (rs := rs) (ws := ws)
          simp only [S.d_one] at e
          simp [S.d_one, ↓b_against, startE, e]
        case list.list r' c' w' c =>
          have e := ag_list (pa := pa) (n := n') (st := st) (m := m) (ih n' (by omega)) hr0 hw0 (by omega) (by omega) (by omega) (by omega)
          simp only [S.d_list] at e
          simp [S.d_list, ↓b_against, startE, e]
        case record.record rs ws =>
          have e := ag_record (pa := pa) (n := n') (st := st) (m := m) hT (ih n' (by omega)) hr0 hw0 (by omega) (by omega) (by omega) (by omega)
          simp only [S.d_record] at e
          simp [S.d_record, ↓b_against, startE, e]
        case either.either rs ws =>
          have e := ag_either (pa := pa) (n := n') (st := st) (m := m) (ih n' (by omega)) hr0 hw0 (by omega) (by omega) (by omega) (by omega)
          simp only [S.d_either] at e
          simp [S.d_either, ↓b_against, startE, e]
        all_goals
          simp only [S.d_whole, S.d_word, S.d_truth, S.d_one, S.d_list, S.d_record, S.d_either] at hl
          simp [S.d_whole, S.d_word, S.d_truth, S.d_one, S.d_list, S.d_record, S.d_either, ↓b_against, startE, hl, agnP]
theorem r_reads (hT : WpTab pa st) {k j n m : Nat} {r w : S} (hr : r.ok k) (hw : w.ok j) (hk : k ≤ 20) (hj : j ≤ 20) (hm : k + j ≤ m) (hn : 2 * m + 24 ≤ n) : callT (T pa) n ix_reads [r.d, w.d] st = .ok (.bl (agn m r w).isNone) st := by
  obtain ⟨n', rfl⟩ : ∃ n', n = n' + 1 := ⟨n - 1, by omega⟩
  apply okR.eq
  refine z_run (fn := ⟨2, 2, false, b_reads⟩) rfl rfl ?_
  simp [b_reads, startE, r_against hT m n' (by omega) k j r w hr hw hm hk hj, isND, oA_isNon]
end
end SH

namespace SH
open PySem L2
section
variable {pa : Nat → Addr} {n : Nat} {st : Store} {d e : D}
def oP : Option (List D) → D
  | none => .non
  | some p => .tup p
def tkD (a : D × Option (List D)) : D := .tup [a.1, oP a.2]
@[simp] theorem oP_none : oP none = .non := rfl
@[simp] theorem oP_some {p : List D} : oP (some p) = .tup p := rfl
/-- the law's reading of what is taken, at depth k with m calls -/
def TkAt (pa : Nat → Addr) (st : Store) (m k : Nat) : Prop := ∀ (s : S) (d : D) (p : List D), s.ok k → d.nar = true → p.length + k ≤ 100 → (∀ x ∈ p, PthEl x) → callT (T pa) m ix__law_taken [s.d, d, .tup p] st = .ok (tkD (tk s d p)) st
theorem add_tt {a b : List D} (h : a.length + b.length ≤ 1000) : addD st (.tup a) (.tup b) = some (.tup (a ++ b)) := by
  have e9 : sizeLine = 16777216 := rfl
  simp [addD]
  omega
/-- the strange ones of some rows, as the law gathers them -/
def odds (l : List (D × Option (List D))) : List D := (l.filter fun a => a.2.isSome).map fun a => oP a.2
theorem odds_cons {a : D × Option (List D)} {l : List (D × Option (List D))} : odds (a :: l) = (if a.2.isSome = true then [oP a.2] else []) ++ odds l := by
  unfold odds
  cases h : a.2.isSome <;> simp [h]
theorem odds_app {l m : List (D × Option (List D))} : odds (l ++ m) = odds l ++ odds m := by simp [odds]
theorem odds_head : ∀ l : List (D × Option (List D)), odds l = [] ∧ fsome l = none ∨ ∃ p r, odds l = oP (some p) :: r ∧ fsome l = some p
  | [] => .inl ⟨rfl, rfl⟩
  | a :: l => by
    rw [odds_cons, fsome_cons]
    cases h : a.2 with
    | some p => exact .inr ⟨p, odds l, by simp, by simp⟩
    | none => simpa using odds_head l
theorem odds_plain {k : Nat} {l : List (D × Option (List D))} {p : List D} (hp : ∀ x ∈ p, PthEl x) (h : ∀ a ∈ l, ∀ q, a.2 = some q → ∃ r, q = p ++ r ∧ r.length ≤ k ∧ ∀ x ∈ r, PthEl x) : D.plains (odds l) = true :=
  plains_of fun x hx => by
    obtain ⟨a, ha, rfl⟩ := List.mem_map.mp hx
    obtain ⟨ha, hs⟩ := List.mem_filter.mp ha
    obtain ⟨q, hq⟩ := Option.isSome_iff_exists.mp hs
    obtain ⟨r, rfl, _, hr⟩ := h a ha q hq
    rw [hq]
    simp only [oP_some, D.plain]
    exact plains_of fun y hy => (List.mem_append.mp hy).elim (fun h => (hp y h).plain) fun h => (hr y h).plain
theorem l_taken_list {k : Nat} {x : S} {c : Int} {l : List D} {p : List D} (ih : TkAt pa st n k) (hx : x.ok k) (hc8 : c ≤ 8) (h : (D.tup l).nar = true) (hp : p.length + k ≤ 99) (hpp : ∀ x ∈ p, PthEl x) :
    callT (T pa) (n + 1) ix__law_taken_list [(S.list x c).d, .tup [.str "list", .tup l], .tup p] st = .ok (tkD (tk (.list x c) (.tup [.str "list", .tup l]) p)) st := by
  apply okR.eq
  refine z_run (fn := ⟨3, 8, false, b__law_taken_list⟩) rfl rfl ?_
  simp [S.d_list, ↓b__law_taken_list, startE, tk_list]
  refine brB_dec (fun hc => ?_) (fun hc => ?_)
  · have : ¬ (l.length : Int) ≤ c := by omega
    simp [this, tkD, tk_list]
  have hc' : (l.length : Int) ≤ c := by omega
  have hext : ∀ q ∈ l.zipIdx, ∀ x ∈ p ++ [.int (q.2 : Nat)], PthEl x := fun q hq x hx => by
    rcases List.mem_append.mp hx with h | h
    · exact hpp x h
    · have := (List.mem_zipIdx' hq).1
      exact .inr ⟨q.2, List.mem_singleton.mp h, by omega⟩
  simp [hc']
  refine z_to (w_comp (xs := l.zipIdx) (fun q => .tup [.int (q.2 : Nat), q.1]) (fun q => tkD (tk x q.1 (p ++ [.int (q.2 : Nat)]))) (by simp [enums]) (fun q hq => ?_) ?_)
  · have hq1 : q.1 ∈ l := (List.mem_zipIdx' hq).2 ▸ List.getElem_mem _
    refine ⟨_, by simp [wipeE]; rfl, ?_⟩
    simp [wipeE, add_tt (a := p) (b := [.int (q.2 : Nat)]) (by simp; omega), ih x q.1 (p ++ [.int (q.2 : Nat)]) hx (nar_mem h hq1) (by simp; omega) (hext q hq)]
  obtain ⟨L, hL⟩ : ∃ L, L = l.zipIdx.map fun q => tk x q.1 (p ++ [.int (q.2 : Nat)]) := ⟨_, rfl⟩
  have e1 : (l.zipIdx.map fun q => tkD (tk x q.1 (p ++ [.int (q.2 : Nat)]))) = L.map tkD := by rw [hL, List.map_map]; rfl
  rw [e1]
  simp
  refine z_to (w_compIf (xs := L) tkD (fun a => oP a.2) (fun a => a.2.isSome) (by simp [elems]) (fun a ha => ⟨_, set_nm, ?_, fun hs => ?_⟩) ?_)
  · cases h2 : a.2 <;> simp [wipeE, tkD, h2, isND, D.isNon]
  · simp [wipeE, tkD]
  simp
  refine z_to (w_comp (xs := L) tkD (fun a => a.1) (by simp [elems]) (fun a ha => ⟨_, set_nm, by simp [wipeE, tkD]⟩) ?_)
  have e2 : (L.filter fun a => a.2.isSome).map (fun a => oP a.2) = odds L := rfl
  rw [e2]
  have hpl : D.plains (odds L) = true := odds_plain (k := k + 1) hpp fun a ha q hq => by
    rw [hL] at ha
    obtain ⟨z, hz, rfl⟩ := List.mem_map.mp ha
    obtain ⟨r, rfl, hl, hr⟩ := tk_path k x z.1 _ q hx hq
    have := (List.mem_zipIdx' hz).1
    exact ⟨.int (z.2 : Nat) :: r, by simp, by simp; omega, fun y hy => (List.mem_cons.mp hy).elim (fun e => e ▸ .inr ⟨z.2, rfl, by omega⟩) (hr y)⟩
  simp [eqD_nil hpl]
  rcases odds_head L with ⟨h1, h2⟩ | ⟨q, r, h1, h2⟩
  · simp [h1, tk_list, hc', ← hL, h2, tkD]
  · simp [h1, tk_list, hc', ← hL, h2, tkD]
theorem dictD_tup {ps : List (Str × D)} (h : (ps.map (·.1)).Nodup) : dictD st (.tup (ps.map prD)) = some (.dic (ps.map fun r => (.inr r.1 : Key)) (ps.map (·.2))) := by
  have e1 : pairsD (ps.map prD) = some (ps.map fun r => ((.inr r.1 : Key), r.2)) := pairsD_rows (fun x => x) ps
  have e2 := dictD_rows (st := st) (fun x : D => x) h
  simp only [dictD, e1, Option.map_some] at e2 ⊢
  have e3 : pairsD (ps.map fun r => D.tup [.str r.1, r.2]) = some (ps.map fun r => ((.inr r.1 : Key), r.2)) := e1
  rw [e3] at e2
  exact e2
theorem inD_dic {ps : List (Str × D)} {w : Str} : inD false st (.str w) (.dic (ps.map fun r => (.inr r.1 : Key)) (ps.map (·.2))) = some (.bl (lkp ps w).isSome) := by
  rw [lkp_isSome]
  show some (D.bl (if false = true then !hasK (.inr w) _ else hasK (.inr w) _)) = _
  rw [hasK_rows]
  rfl
theorem ixD_dic {ps : List (Str × D)} {w : Str} {x : D} (h : lkp ps w = some x) : ixD st (.dic (ps.map fun r => (.inr r.1 : Key)) (ps.map (·.2))) (.str w) = some x := by
  have := getK_rows (fun x : D => x) w ps
  rw [h] at this
  exact this
theorem mul_01 {x : D} {b : Bool} : mulD st (.lst [x]) (.int (if b = true then 1 else 0)) = some (.lst (if b = true then [x] else [])) := by
  cases b <;> simp [mulD, sizeLine]
/-- between two fields -/
def TkI (rows : List Fld) (prs p : List D) (F : Fld → D × Option (List D)) (g : D) (i : Nat) (ρ : Env) (s st : Store) : Prop := s = st ∧ ∃ x6 x7 x8 x9 x10 : Option D,
  ρ = [some (S.record rows).d, some (.tup [.str "record", .tup prs]), some (.tup p), some g, some (.lst ((rows.map fun r => prD (r.1, (F r).1)).take i)), some (.lst (odds ((rows.map F).take i))), x6, x7, x8, x9, x10]
theorem TkI.of {rows : List Fld} {prs p : List D} {F : Fld → D × Option (List D)} {g : D} {i : Nat} {l4 l5 : List D} {x6 x7 x8 x9 x10 : Option D} (h4 : l4 = (rows.map fun r => prD (r.1, (F r).1)).take i) (h5 : l5 = odds ((rows.map F).take i)) :
    TkI rows prs p F g i [some (S.record rows).d, some (.tup [.str "record", .tup prs]), some (.tup p), some g, some (.lst l4), some (.lst l5), x6, x7, x8, x9, x10] st st := by
  subst h4 h5
  exact ⟨rfl, _, _, _, _, _, rfl⟩
theorem l_taken_record {k : Nat} {rows : List Fld} {prs : List D} {p : List D} (ih : TkAt pa st (n + 2) k) (hr : rows.length ≤ 8) (hnm : (rows.map (·.1)).all nameS = true) (hx : ∀ r ∈ rows, r.2.1.ok k ∧ ∀ v, r.2.2 = some v → isVal r.2.1 v = true)
    (h : (D.tup prs).nar = true) (hpl : ∀ r ∈ rows, (ndOf r.2.2).plain = true) (hp : p.length + k ≤ 99) (hpp : ∀ x ∈ p, PthEl x) :
    callT (T pa) (n + 3) ix__law_taken_record [(S.record rows).d, .tup [.str "record", .tup prs], .tup p] st = .ok (tkD (tk (.record rows) (.tup [.str "record", .tup prs]) p)) st := by
  apply okR.eq
  refine z_run (fn := ⟨3, 11, false, b__law_taken_record⟩) rfl rfl ?_
  have e0 : callT (T pa) (n + 2) ix__law_rows_right [.tup prs, .int 0, .int 300, .int 2] st = .ok (.bl (arePairs (.tup prs))) st := by
    rw [← areRows_pairs h]
    exact l_rows_right (pa := pa) (n := n) (st := st) (lo := 0) (hi := 300) (m := 2) h (by decide)
  simp only [b__law_taken_record, startE]
  simp [e0]
  refine brB_of (fun hb => ?_) (fun hb => ?_)
  · obtain ⟨ps, rfl⟩ := pairs_eq hb
    rw [arePairs_map, Bool.and_eq_true] at hb
    have hris := rises_iff.mp hb.2
    simp [dictD_tup hris.nodup]
    refine z_to (w_forI (st1 := st) (xs := rows.map fldD) (fun i ρ s => TkI rows (ps.map prD) p (tkR (ps.map prD) p) (.dic (ps.map fun r => (.inr r.1 : Key)) (ps.map (·.2))) i ρ s st) ?_ ?_ ?_ ?_)
    · simp [S.d_record]
    · exact ⟨rfl, _, _, _, _, _, rfl⟩
    · rintro j x hj ρ s ⟨rfl, x6, x7, x8, x9, x10, rfl⟩
      rw [List.getElem?_map] at hj
      obtain ⟨r, hgr, rfl⟩ := Option.map_eq_some_iff.mp hj
      have hm := List.mem_of_getElem? hgr
      have hjl : j < rows.length := (List.getElem?_eq_some_iff.mp hgr).1
      have htk : ∀ {α : Type} (g : Fld → α), (rows.map g).take (j + 1) = (rows.map g).take j ++ [g r] := fun g => by
        rw [List.take_succ, List.getElem?_map, hgr]
        rfl
      have hnr : nameS r.1 = true := List.all_eq_true.mp hnm _ (List.mem_map_of_mem hm)
      have hpx : ∀ y ∈ p ++ [.str r.1], PthEl y := fun y hy => (List.mem_append.mp hy).elim (hpp y) fun e => .inl ⟨r.1, List.mem_singleton.mp e, hnr⟩
      have fin : ∀ (a : D × Option (List D)) (x7 x8 : Option D), a = tkR (ps.map prD) p r → @okZ _ ((mSeq (mApp 4 (mTup [(mVar 6), (mVar 9)]))
  (mAsg (.nm 5) (mOp2 addD (mVar 5) (mOp2 mulD (mLst [(mVar 10)]) (mOp1 intD (mOp2 (isND true) (mVar 10) (mLit .non))))))) [some (S.record rows).d, some (.tup [.str "record", .tup (ps.map prD)]), some (.tup p), some (.dic (ps.map fun r => (.inr r.1 : Key)) (ps.map (·.2))), some (.lst ((rows.map fun r => prD (r.1, (tkR (ps.map prD) p r).1)).take j)), some (.lst (odds ((rows.map (tkR (ps.map prD) p)).take j))), some (.str r.1), x7, x8, some a.1, some (oP a.2)] s)
            ⟨fun q s' => q.1 = .next ∧ TkI rows (ps.map prD) p (tkR (ps.map prD) p) (.dic (ps.map fun r => (.inr r.1 : Key)) (ps.map (·.2))) (j + 1) q.2 s' s⟩ := by
        rintro a x7 x8 rfl
        have e9 : sizeLine = 16777216 := rfl
        have hlen : (odds ((rows.map (tkR (ps.map prD) p)).take j)).length ≤ 8 := by
          unfold odds
          rw [List.length_map]
          refine Nat.le_trans (List.length_filter_le _ _) ?_
          rw [List.length_take, List.length_map]
          omega
        have hlen2 : min j rows.length < sizeLine := by omega
        simp [hlen2]
        cases ho : (tkR (ps.map prD) p r).2 with
        | none =>
          have e1 : mulD s (.lst [.non]) (.int 0) = some (.lst []) := by simp [mulD, sizeLine]
          have e2 : odds ((rows.map (tkR (ps.map prD) p)).take (j + 1)) = odds ((rows.map (tkR (ps.map prD) p)).take j) := by
            rw [htk, odds_app]
            simp [odds_cons, ho, odds]
          simp [D.isNon, e1]
          rw [add_ll (by simp; omega)]
          simp
          refine TkI.of ?_ e2.symm
          rw [htk]
          rfl
        | some q =>
          have e1 : mulD s (.lst [.tup q]) (.int 1) = some (.lst [.tup q]) := by simp [mulD, sizeLine]
          have e2 : odds ((rows.map (tkR (ps.map prD) p)).take (j + 1)) = odds ((rows.map (tkR (ps.map prD) p)).take j) ++ [.tup q] := by
            rw [htk, odds_app]
            simp [odds_cons, ho, odds]
          simp [D.isNon, e1]
          rw [add_ll (by simp; omega)]
          simp
          refine TkI.of ?_ e2.symm
          rw [htk]
          rfl
      refine ⟨_, by simp [fldD]; rfl, ?_⟩
      simp [inD_dic]
      have e10 : ∀ s, addD s (.tup p) (.tup [.str r.1]) = some (.tup (p ++ [.str r.1])) := fun s => add_tt (by simp; omega)
      refine brB_of (fun hs => ?_) (fun hs => ?_)
      · obtain ⟨x, hx1⟩ := Option.isSome_iff_exists.mp hs
        have hxn : x.nar = true := by
          have h1 : (prD (r.1, x)).nar = true := nar_mem h (List.mem_map_of_mem (lkp_mem hx1))
          exact nar_mem (l := [.str r.1, x]) h1 (by simp)
        have et : tkR (ps.map prD) p r = tk r.2.1 x (p ++ [.str r.1]) := by
          unfold tkR
          rw [lkD_map, hx1]
        simp [ixD_dic hx1, e10, ih r.2.1 x (p ++ [.str r.1]) (hx r hm).1 hxn (by simp; omega) hpx, tkD]
        simpa using fin _ (some r.2.1.d) (some (ndOf r.2.2)) et.symm
      · have hx1 : lkp ps r.1 = none := by simpa using hs
        simp [isMust_nd (hpl r hm)]
        refine brB_of (fun hs2 => ?_) (fun hs2 => ?_)
        · have et : tkR (ps.map prD) p r = (.non, some (p ++ [.str r.1])) := by
            unfold tkR
            rw [lkD_map, hx1]
            simp at hs2
            simp [hs2]
          simp [e10]
          simpa using fin (.non, some (p ++ [.str r.1])) (some r.2.1.d) (some (ndOf r.2.2)) et.symm
        · cases hv : r.2.2 with
          | none => rw [hv] at hs2; cases hs2
          | some v =>
            have et : tkR (ps.map prD) p r = tk r.2.1 v (p ++ [.str r.1]) := by
              unfold tkR
              rw [lkD_map, hx1, hv]
            have hvn : v.nar = true := D.wid_nar (m := 8) (by decide) (val_wid (by decide) k r.2.1 v (hx r hm).1 ((hx r hm).2 v hv))
            simp [ndOf, e10, ih r.2.1 v (p ++ [.str r.1]) (hx r hm).1 hvn (by simp; omega) hpx, tkD]
            simpa [ndOf] using fin _ (some r.2.1.d) (some (ndOf (some v))) et.symm
    · rintro ρ' s ⟨rfl, x6, x7, x8, x9, x10, rfl⟩
      have hop : D.plains (odds (rows.map (tkR (ps.map prD) p))) = true := odds_plain (k := k + 1) hpp fun a ha q hq => by
        obtain ⟨r, hr', rfl⟩ := List.mem_map.mp ha
        have hnr : PthEl (.str r.1) := .inl ⟨r.1, rfl, List.all_eq_true.mp hnm _ (List.mem_map_of_mem hr')⟩
        have go : ∀ d, (tk r.2.1 d (p ++ [.str r.1])).2 = some q → ∃ r', q = p ++ r' ∧ r'.length ≤ k + 1 ∧ ∀ x ∈ r', PthEl x := fun d hq => by
          obtain ⟨r', rfl, hl, hr2⟩ := tk_path k r.2.1 d _ q (hx r hr').1 hq
          exact ⟨.str r.1 :: r', by simp, by simp; omega, fun y hy => (List.mem_cons.mp hy).elim (fun e => e ▸ hnr) (hr2 y)⟩
        unfold tkR at hq
        split at hq
        · exact go _ hq
        · split at hq
          · cases hq
            exact ⟨[.str r.1], rfl, by simp, by simpa using hnr⟩
          · exact go _ hq
      have htl : ∀ {α : Type} (g : Fld → α), (rows.map g).take rows.length = rows.map g := fun g => List.take_of_length_le (by simp)
      simp [htl, eqD_nil hop]
      have e5 := tk_record (rows := rows) (p := p) hb.1 hris
      rcases odds_head (rows.map (tkR (ps.map prD) p)) with ⟨h1, h2⟩ | ⟨q, r, h1, h2⟩
      · simp [h1, htl, e5, h2, tkD]
      · simp [h1, htl, e5, h2, tkD]
  · simp [tk, hb, tkD, strIs]
theorem in_three {a b c e : Str} {neg : Bool} : inD neg st (.str a) (.tup [.str b, .str c, .str e]) = some (.bl (neg ^^ (decide (a = b) || decide (a = c) || decide (a = e)))) := by
  have e1 : ∀ x y : Str, eqF (.str x) (.str y) = decide (y = x) := fun x y => by
    simp only [eqF, beqd]
    exact decide_eq_decide.mpr ⟨fun h => h.symm, fun h => h.symm⟩
  show (if (D.str a).flat && [D.str b, D.str c, D.str e].all D.flat then some (D.bl (if neg = true then !([D.str b, D.str c, D.str e].any fun z => eqF z (.str a)) else [D.str b, D.str c, D.str e].any fun z => eqF z (.str a))) else none) = _
  simp only [List.any_cons, List.any_nil, e1, Bool.or_false, ifn]
  simp [D.flat, Bool.or_assoc]
theorem l_taken_bad {s : S} {w : Str} {r p : List D} (hs : s.d = .tup (.str w :: r)) (hw : w = "list" ∨ w = "record" ∨ w = "either") (h : d.nar = true) (hb : ∀ y l, d ≠ .tup (.str w :: y :: l)) :
    callT (T pa) (n + 1) ix__law_taken [s.d, d, .tup p] st = .ok (.tup [.non, .tup p]) st := by
  apply okR.eq
  have hp := D.nar_plain h
  refine z_run (fn := ⟨3, 7, false, b__law_taken⟩) rfl rfl ?_
  have hm : w ≠ "maybe" := by rcases hw with rfl | rfl | rfl <;> simp
  have hi : ∀ st, inD true st (.str w) (.tup [.str "list", .str "record", .str "either"]) = some (.bl false) := fun st => by
    rw [in_three]
    rcases hw with rfl | rfl | rfl <;> simp
  simp [hs, ↓b__law_taken, startE, hm, hi]
  cases d with
  | tup l =>
    match l, hb, hp with
    | [], _, _ => simp
    | [a], _, _ => simp
    | a :: y :: l, hb, hp =>
      have ha : a.plain = true := plain_tup hp a (by simp)
      have h2 : ¬ ((l.length : Int) + 1 + 1 < 2) := by omega
      simp [h2]
      cases a <;> first | (simp [D.plain] at ha; done) | simp
      rename_i t
      by_cases ht : t = w
      · subst ht
        exact absurd rfl (hb y l)
      · simp [ht]
  | _ => first | simp | (simp [D.plain] at hp)
theorem tk_bad {s : S} {w : Str} {r p : List D} (hs : s.d = .tup (.str w :: r)) (hm : s.isMaybe = false) (hb : ∀ y l, d ≠ .tup (.str w :: y :: l)) (hl : s.isLeaf = false) : tk s d p = (.non, some p) := by
  cases s with
  | list x n =>
    rw [S.d_list] at hs
    cases hs
    simp only [tk]
    split
    · rename_i t l
      rw [if_neg]
      intro h
      simp only [Bool.and_eq_true] at h
      rw [strIs_eq h.1] at hb
      exact hb _ _ rfl
    · rfl
  | record rows =>
    rw [S.d_record] at hs
    cases hs
    simp only [tk]
    split
    · rename_i t l
      rw [if_neg]
      intro h
      simp only [Bool.and_eq_true] at h
      rw [strIs_eq h.1] at hb
      exact hb _ _ rfl
    · rfl
  | either rows =>
    rw [S.d_either] at hs
    cases hs
    simp only [tk]
    split
    · rename_i t g x
      rw [if_neg]
      intro h
      rw [strIs_eq h] at hb
      exact hb _ _ rfl
    · rfl
  | maybe x => simp [S.isMaybe] at hm
  | _ => simp [S.isLeaf] at hl
theorem l_taken : ∀ (k n : Nat), 2 * k + 4 ≤ n → TkAt pa st n k
  | 0, n, _ => fun s d p hs => by simp [S.ok] at hs
  | k + 1, n, hn => fun s d p hs hd hl hpp => by
    obtain ⟨m, rfl⟩ : ∃ m, n = m + 4 := ⟨n - 4, by omega⟩
    have ih : ∀ j, m + 2 ≤ j → TkAt pa st j k := fun j hj => l_taken k j (by omega)
    have hp := D.nar_plain hd
    have hsp := S.ok_plain hs
    have lv := l_is_value (pa := pa) (st := st) (k + 1) (m + 3) (by omega) s d hs hsp hd
    have bad : ∀ (w : Str) (r : List D), s.d = .tup (.str w :: r) → (w = "list" ∨ w = "record" ∨ w = "either") → s.isMaybe = false → s.isLeaf = false → (¬ ∃ y l, d = .tup (.str w :: y :: l)) → callT (T pa) (m + 4) ix__law_taken [s.d, d, .tup p] st = .ok (tkD (tk s d p)) st := fun w r h1 h2 h3 h4 h5 => by
      have h6 : ∀ y l, d ≠ .tup (.str w :: y :: l) := fun y l e => h5 ⟨y, l, e⟩
      rw [l_taken_bad h1 h2 hd h6, tk_bad h1 h3 h6 h4]
      rfl
    cases s with
    | maybe x =>
      simp only [S.ok] at hs
      apply okR.eq
      refine z_run (fn := ⟨3, 7, false, b__law_taken⟩) rfl rfl ?_
      have := ih (m + 3) (by omega) x d p hs.2 hd (by omega) hpp
      simp [S.d_maybe, ↓b__law_taken, startE, tk_maybe]
      cases hn : d.isNon <;> simp [this, tkD, hn, tk_maybe]
    | list x c =>
      by_cases hf : ∃ y l, d = .tup (.str "list" :: y :: l)
      · simp only [S.ok] at hs
        obtain ⟨y, l, rfl⟩ := hf
        apply okR.eq
        refine z_run (fn := ⟨3, 7, false, b__law_taken⟩) rfl rfl ?_
        have h2 : ¬ ((l.length : Int) + 1 + 1 < 2) := by omega
        have hy : y.nar = true := nar_mem hd (by simp)
        simp [S.d_list, ↓b__law_taken, startE, h2, in_three]
        cases l with
        | cons a l =>
          have h3 : ¬ ((l.length : Int) + 1 + 1 + 1 = 2) := by omega
          simp [h3, tk, tkD]
        | nil =>
          simp [isi_tup (D.nar_plain hy)]
          cases y with
          | tup z =>
            have e1 := l_taken_list (pa := pa) (n := m + 2) (st := st) (c := c) (p := p) (ih (m + 2) (by omega)) hs.2.2 hs.2.1 hy (by omega) hpp
            rw [S.d_list] at e1
            simp [e1]
          | _ => simp [tyTup, tk, tkD]
      · exact bad _ _ S.d_list (.inl rfl) rfl rfl hf
    | record rows =>
      by_cases hf : ∃ y l, d = .tup (.str "record" :: y :: l)
      · simp only [S.ok] at hs
        obtain ⟨y, l, rfl⟩ := hf
        apply okR.eq
        refine z_run (fn := ⟨3, 7, false, b__law_taken⟩) rfl rfl ?_
        have h2 : ¬ ((l.length : Int) + 1 + 1 < 2) := by omega
        have hy : y.nar = true := nar_mem hd (by simp)
        simp [S.d_record, ↓b__law_taken, startE, h2, in_three]
        cases l with
        | cons a l =>
          have h3 : ¬ ((l.length : Int) + 1 + 1 + 1 = 2) := by omega
          simp [h3, tk, tkD]
        | nil =>
          simp [isi_tup (D.nar_plain hy)]
          cases y with
          | tup z =>
            have e1 := l_taken_record (pa := pa) (n := m) (st := st) (rows := rows) (p := p) (ih (m + 2) (by omega)) hs.1 hs.2.1 hs.2.2.2 hy (fun r hr => (plain_flds hsp r hr).2.2) (by omega) hpp
            rw [S.d_record] at e1
            simp [e1]
          | _ => simp [tyTup, tk, tkD]
      · exact bad _ _ S.d_record (.inr (.inl rfl)) rfl rfl hf
    | either rows =>
      by_cases hf : ∃ y l, d = .tup (.str "either" :: y :: l)
      · simp only [S.ok] at hs
        obtain ⟨y, l, rfl⟩ := hf
        apply okR.eq
        refine z_run (fn := ⟨3, 7, false, b__law_taken⟩) rfl rfl ?_
        have h2 : ¬ ((l.length : Int) + 1 + 1 < 2) := by omega
        have hy : y.nar = true := nar_mem hd (by simp)
        have hpr := plain_tags hsp
        simp [S.d_either, ↓b__law_taken, startE, h2, in_three]
        by_cases hg : ∃ g, y = .str g
        · obtain ⟨g, rfl⟩ := hg
          refine z_to (w_compIf (xs := rows) tagD tagD (fun r => decide (r.1 = g)) (by simp [elems]) (fun r hm => ⟨_, set_nm, ?_, fun _ => ?_⟩) ?_)
          · simp [wipeE, tagD]
          · simp [wipeE]
          match l with
          | [] => simp [tk, tkD]
          | a :: b :: l =>
            have h3 : ¬ ((l.length : Int) + 1 + 1 + 1 + 1 = 3) := by omega
            simp [h3, tk, tkD]
          | [x] =>
            have hx : x.nar = true := nar_mem hd (by simp)
            have hpl : D.plains ((rows.filter fun r => decide (r.1 = g)).map tagD) = true := plains_of fun z hz => by
              obtain ⟨q, hq, rfl⟩ := List.mem_map.mp hz
              exact (hpr q (List.mem_filter.mp hq).1).1
            have key : lkp rows g = none ∧ (rows.filter fun r => decide (r.1 = g)) = [] ∨ ∃ a r, lkp rows g = some a ∧ (rows.filter fun r => decide (r.1 = g)) = (g, a) :: r := by
              clear hpl hpr hs hsp lv bad
              induction rows with
              | nil => exact .inl ⟨rfl, rfl⟩
              | cons r rs ih =>
                obtain ⟨n, a⟩ := r
                rw [lkp_cons]
                by_cases he : n = g
                · subst he; exact .inr ⟨a, _, by simp, by simp; rfl⟩
                · simp [he]; simpa using ih
            simp [eqD_nil hpl]
            rcases key with ⟨k1, k2⟩ | ⟨a, r, k1, k2⟩
            · simp [k2, tk_either, k1, tkD]
            · have hm := lkp_mem k1
              have hpx : ∀ y ∈ p ++ [.str g], PthEl y := fun y hy => (List.mem_append.mp hy).elim (hpp y) fun e => .inl ⟨g, List.mem_singleton.mp e, List.all_eq_true.mp hs.2.2.1 _ (List.mem_map_of_mem hm)⟩
              simp [k2, tagD, add_tt (a := p) (b := [.str g]) (by simp; omega), ih (m + 3) (by omega) a x (p ++ [.str g]) (hs.2.2.2.2 _ hm) hx (by simp; omega) hpx, tkD, tk_either, k1]
        · have hy2 : tyStr y = false := by cases y <;> first | rfl | exact absurd ⟨_, rfl⟩ hg
          refine z_to (w_compIf (xs := rows) tagD tagD (fun r => false) (by simp [elems]) (fun r hm => ⟨_, set_nm, ?_, fun z => by cases z⟩) ?_)
          · simp [wipeE, isi_str (D.nar_plain hy), hy2]
          · have e : tk (.either rows) (.tup (.str "either" :: y :: l)) p = (.non, some p) := by
              cases y <;> first | (exact absurd ⟨_, rfl⟩ hg) | (simp only [tk])
            have e0 : rows.filter (fun _ => false) = [] := by simp
            by_cases h3 : ((l.length : Int) + 1 + 1 = 3)
            · simp [h3, e0, eqD_nil (l := []) rfl, tkD, e]
            · simp [h3, tkD, e]
      · exact bad _ _ S.d_either (.inr (.inr rfl)) rfl rfl hf
    | whole lo hi =>
      apply okR.eq
      refine z_run (fn := ⟨3, 7, false, b__law_taken⟩) rfl rfl ?_
      rw [S.d_whole] at lv
      simp [S.d_whole, ↓b__law_taken, startE, in_three, lv, tk_whole]
      cases hv : isVal (.whole lo hi) d <;> simp [hv, tkD, tk_whole]
    | word c =>
      apply okR.eq
      refine z_run (fn := ⟨3, 7, false, b__law_taken⟩) rfl rfl ?_
      rw [S.d_word] at lv
      simp [S.d_word, ↓b__law_taken, startE, in_three, lv, tk_word]
      cases hv : isVal (.word c) d <;> simp [hv, tkD, tk_word]
    | truth =>
      apply okR.eq
      refine z_run (fn := ⟨3, 7, false, b__law_taken⟩) rfl rfl ?_
      rw [S.d_truth] at lv
      simp [S.d_truth, ↓b__law_taken, startE, in_three, lv, tk_truth]
      cases hv : isVal .truth d <;> simp [hv, tkD, tk_truth]
    | one ss =>
      apply okR.eq
      refine z_run (fn := ⟨3, 7, false, b__law_taken⟩) rfl rfl ?_
      rw [S.d_one] at lv
      simp [S.d_one, ↓b__law_taken, startE, in_three, lv, tk_one]
      cases hv : isVal (.one ss) d <;> simp [hv, tkD, tk_one]
end
end SH

namespace SH
open PySem L2
theorem pow9_ge (k : Nat) : 1 ≤ 9 ^ k := Nat.pos_of_ne_zero (by simp)
theorem flat_len {α β : Type} {f : α → List β} {m : Nat} : ∀ {l : List α}, (∀ a ∈ l, (f a).length ≤ m) → ((l.map f).flatten).length ≤ l.length * m
  | [], _ => by simp
  | a :: r, h => by
    have h1 := h a (by simp)
    have h2 := flat_len (l := r) fun b hb => h b (by simp [hb])
    rw [List.map_cons, List.flatten_cons, List.length_append, List.length_cons, Nat.succ_mul]
    omega
theorem corners_len : ∀ (k : Nat) (s : S), s.ok k → (corners s).length ≤ 9 ^ k
  | 0, s, h => by simp [S.ok] at h
  | k + 1, s, h => by
    have e9 : 9 ^ (k + 1) = 9 * 9 ^ k := by rw [Nat.pow_succ]; omega
    have e1 := pow9_ge k
    cases s with
    | whole lo hi => simp only [corners, List.length_cons, List.length_nil]; omega
    | word n => simp only [corners, List.length_cons, List.length_nil]; omega
    | truth => simp only [corners, List.length_cons, List.length_nil]; omega
    | one ss =>
      simp only [S.ok] at h
      simp only [corners, List.length_map]
      omega
    | maybe s =>
      simp only [S.ok] at h
      have := corners_len k s h.2
      simp only [corners, List.length_cons]
      omega
    | list s n =>
      simp only [S.ok] at h
      have := corners_len k s h.2.2
      simp only [corners, List.length_append, List.length_cons, List.length_nil]
      split
      · rw [List.length_map]; omega
      · simp; omega
    | either rows =>
      simp only [S.ok] at h
      simp only [corners, cornE_eq]
      refine Nat.le_trans (flat_len (m := 9 ^ k) fun r hr => ?_) ?_
      · rw [List.length_map]
        exact corners_len k r.2 (h.2.2.2.2 r hr)
      · have : rows.length * 9 ^ k ≤ 6 * 9 ^ k := Nat.mul_le_mul_right _ h.2.1
        omega
    | record rows =>
      simp only [S.ok] at h
      rw [corners_record, List.length_cons]
      have h2 : ((rows.map fun r => (corners r.2.1).map fun x => recD (fillP rows cor0 (some (r.1, x)))).flatten).length ≤ rows.length * 9 ^ k := flat_len fun r hr => by
        rw [List.length_map]
        exact corners_len k r.2.1 (h.2.2.2 r hr).1
      have : rows.length * 9 ^ k ≤ 8 * 9 ^ k := Nat.mul_le_mul_right _ h.1
      refine Nat.le_trans (Nat.succ_le_succ h2) ?_
      omega
section
variable {pa : Nat → Addr} {n : Nat} {st : Store} {d e : D}
theorem sl_take {l : List D} {k : Nat} : slD (.lst l) none (some (k : Int)) = some (.lst (l.take k)) := by
  unfold slD cutL
  simp only
  rw [HT.sIx_none, HT.sIx_nat]
  simp
theorem l_corners : ∀ (k n : Nat) (s : S), k + 1 ≤ n → k ≤ 5 → s.ok k → callT (T pa) n ix__law_corners [s.d] st = .ok (.lst (corners s)) st
  | 0, n, s, _, _, h => by simp [S.ok] at h
  | k + 1, n, s, hn, hk, h => by
    obtain ⟨m, rfl⟩ : ∃ m, n = m + 1 := ⟨n - 1, by omega⟩
    have ih := fun s h => l_corners k m s (by omega) (by omega) h
    have hlen := fun s h => Nat.le_trans (corners_len k s h) (Nat.pow_le_pow_right (by decide) (show k ≤ 4 by omega))
    have e94 : 9 ^ 4 = 6561 := rfl
    have e9 : sizeLine = 16777216 := rfl
    have hp := S.ok_plain h
    apply okR.eq
    refine z_run (fn := ⟨1, 12, false, b__law_corners⟩) rfl rfl ?_
    cases s with
    | whole lo hi => simp [S.d_whole, ↓b__law_corners, startE, in_two, corners]
    | word c =>
      simp only [S.ok] at h
      simp [S.d_word, ↓b__law_corners, startE, in_two, corners, mul_a h.1 h.2]
    | truth => simp [S.d_truth, ↓b__law_corners, startE, in_two, corners]
    | one ss => simp [S.d_one, ↓b__law_corners, startE, in_two, corners]
    | maybe x =>
      simp only [S.ok] at h
      have hl := hlen x h.2
      simp [S.d_maybe, ↓b__law_corners, startE, in_two, ih x h.2]
      rw [add_ll (by simp; omega)]
      simp [corners]
    | list x c =>
      simp only [S.ok] at h
      have hl := hlen x h.2.2
      obtain ⟨a, r, ec⟩ := corners_ne k x h.2.2
      have hsl := sl_take (l := corners x) (k := 1)
      have e1 : mulD st (.lst ((corners x).take 1)) (.int c) = some (.lst (List.replicate c.toNat ((corners x).take 1)).flatten) := by
        have h1 : 0 ≤ c := h.1
        have h2 : c ≤ 1000000 := by omega
        have h3 : ((corners x).take 1).length * c.toNat ≤ sizeLine := by
          rw [List.length_take]
          have : min 1 (corners x).length * c.toNat ≤ 1 * 8 := Nat.mul_le_mul (by omega) (by omega)
          omega
        simp only [mulD, h1, h2, h3]
        simp
      have hsl' : slD (.lst (corners x)) none (some 1) = some (.lst ((corners x).take 1)) := hsl
      simp [S.d_list, ↓b__law_corners, startE, in_two, ih x h.2.2, hsl', e1]
      refine z_to (w_compIf (xs := corners x) (fun y => y) (fun y => .tup [.str "list", .tup [y]]) (fun _ => decide (0 < c)) (by simp [elems]) (fun y hy => ⟨_, set_nm, by simp [wipeE], fun _ => by simp [wipeE]⟩) ?_)
      have ef : ((corners x).filter fun _ => decide (0 < c)).map (fun y => D.tup [.str "list", .tup [y]]) = if c > 0 then (corners x).map fun y => .tup [.str "list", .tup [y]] else [] := by
        by_cases hc : 0 < c
        · have : (corners x).filter (fun _ => decide (0 < c)) = corners x := List.filter_eq_self.mpr fun _ _ => decide_eq_true hc
          rw [this, if_pos hc]
        · simp [hc]
      have el : (if c > 0 then (corners x).map fun y => D.tup [.str "list", .tup [y]] else []).length ≤ 6561 := by
        split
        · rw [List.length_map]; omega
        · simp
      rw [ef]
      simp
      rw [add_ll (by simp at el ⊢; omega)]
      simp [corners]
    | either rows =>
      simp only [S.ok] at h
      have hl6 := h.2.1
      simp [S.d_either, ↓b__law_corners, startE, in_two]
      obtain ⟨g, hg⟩ : ∃ g : Str × S → List D, g = fun r => (corners r.2).map fun x => .tup [.str "either", .str r.1, x] := ⟨_, rfl⟩
      have hpre : ∀ i, (((rows.map g).take i).flatten).length ≤ 6 * 6561 := fun i => by
        rw [← List.map_take]
        refine Nat.le_trans (flat_len (m := 6561) fun r hr => ?_) ?_
        · rw [hg, List.length_map]
          exact hlen r.2 (h.2.2.2.2 r (List.mem_of_mem_take hr))
        · have : (rows.take i).length ≤ 6 := by rw [List.length_take]; omega
          exact Nat.mul_le_mul_right _ this
      refine z_to (w_forI (st1 := st) (xs := rows.map tagD) (fun i ρ s => s = st ∧ ∃ x2 x4 x5 x6 x7 x8 x9 x10 x11 : Option D, ρ = [some (.tup [.str "either", .tup (rows.map tagD)]), some (.str "either"), x2, some (.lst ((rows.map g).take i).flatten), x4, x5, x6, x7, x8, x9, x10, x11]) (by simp) ⟨rfl, _, _, _, _, _, _, _, _, _, rfl⟩ ?_ ?_)
      · rintro i x hi ρ s ⟨rfl, x2, x4, x5, x6, x7, x8, x9, x10, x11, rfl⟩
        rw [List.getElem?_map] at hi
        obtain ⟨r, hgr, rfl⟩ := Option.map_eq_some_iff.mp hi
        have hm := List.mem_of_getElem? hgr
        refine ⟨_, by simp [tagD]; rfl, ?_⟩
        have hc := hlen r.2 (h.2.2.2.2 r hm)
        simp
        refine z_to (w_comp (xs := corners r.2) (fun y => y) (fun y => .tup [.str "either", .str r.1, y]) (by simp [ih r.2 (h.2.2.2.2 r hm)]) (fun y hy => ⟨_, set_nm, by simp [wipeE]⟩) ?_)
        have h1 := hpre i
        have e2 : ((rows.map g).take (i + 1)).flatten = ((rows.map g).take i).flatten ++ (corners r.2).map fun y => .tup [.str "either", .str r.1, y] := by
          rw [List.take_succ, List.getElem?_map, hgr, List.flatten_append, hg]
          simp
        rw [add_ll (by rw [List.length_map]; omega), ← e2]
        simp
      · rintro ρ' s ⟨rfl, x2, x4, x5, x6, x7, x8, x9, x10, x11, rfl⟩
        have e2 : ((rows.map g).take (rows.map tagD).length).flatten = corners (.either rows) := by
          rw [List.length_map, List.take_of_length_le (by simp), hg]
          simp only [corners, cornE_eq]
        rw [e2]
        simp
    | record rows =>
      simp only [S.ok] at h
      have hr8 := h.1
      have hnd := (rises_iff.mp h.2.2.1).nodup
      have hpr := plain_flds hp
      obtain ⟨P, hP⟩ : ∃ P, P = fillP rows cor0 none := ⟨_, rfl⟩
      have hPris : Ris (P.map (·.1)) := by rw [hP]; exact fill_ris h.2.2.1 _ _
      have hPl : P.length ≤ 8 := by
        have := (fill_sub rows cor0 none).length_le
        rw [← hP] at this
        simp at this
        omega
      have c0 : ∀ r ∈ rows, ixD st (.lst (corners r.2.1)) (.int 0) = some (cor0 r.2.1) := fun r hr => by
        obtain ⟨a, l, e⟩ := corners_ne k r.2.1 (h.2.2.2 r hr).1
        rw [e]
        simp [cor0, e]
      have hfP : ((rows.filter fun r => r.2.2.isNone).map fun r => prD (r.1, cor0 r.2.1)) = P.map prD := by
        rw [hP]
        clear hp hpr hP hPris hPl c0 h hnd hr8
        induction rows with
        | nil => rfl
        | cons r rows ih =>
          have e : fillP (r :: rows) cor0 none = (if r.2.2.isNone = true then [(r.1, cor0 r.2.1)] else []) ++ fillP rows cor0 none := by
            unfold fillP
            cases h : r.2.2 with
            | none => rw [List.filterMap_cons_some (b := (r.1, cor0 r.2.1)) (by simp [h])]; rfl
            | some v => rw [List.filterMap_cons_none (by simp [h])]; rfl
          rw [e, List.map_append, ← ih]
          cases h : r.2.2.isNone <;> simp [h]
      -- a record of a dict of pairs
      have recs : ∀ (A Q : List (Str × D)), (A.map (·.1)).Nodup → Ris (Q.map (·.1)) → (∀ k, lkp A k = lkp Q k) → A.length < 64 → sortedD st (.dic (A.map fun r => (.inr r.1 : Key)) (A.map (·.2))) = some (.lst (Q.map fun p => .str p.1)) ∧ ∀ p ∈ Q, ixD st (.dic (A.map fun r => (.inr r.1 : Key)) (A.map (·.2))) (.str p.1) = some p.2 := fun A Q hA hQ hk hl => by
        refine ⟨?_, fun p hp => ixD_dic (by rw [hk]; exact lkp_of_mem hQ.nodup hp)⟩
        have e : (A.map fun r => (.inr r.1 : Key)) = (A.map (·.1)).map Sum.inr := by rw [List.map_map]; rfl
        have hl' : (A.map (·.1)).length < 64 := by simpa using hl
        simp only [sortedD, e, keyStrs_map, Option.bind_some, if_pos hl', sorted_keys hA hQ hk]
        rw [List.map_map]
        rfl
      obtain ⟨s1, s2⟩ := recs P P hPris.nodup hPris (fun _ => rfl) (by omega)
      simp [S.d_record, ↓b__law_corners, startE, in_two]
      refine z_to (w_compIf (xs := rows) fldD (fun r => prD (r.1, cor0 r.2.1)) (fun r => r.2.2.isNone) (by simp) (fun r hm => ⟨_, set_nm, ?_, fun _ => ?_⟩) ?_)
      · simp [wipeE, fldD, isMust_nd (hpr _ hm).2.2]
      · simp [wipeE, fldD, ih r.2.1 (h.2.2.2 r hm).1, c0 r hm, prD]
      rw [hfP]
      have d1 : dictD st (.lst (P.map prD)) = some (.dic (P.map fun r => (.inr r.1 : Key)) (P.map (·.2))) := dictD_rows (fun x => x) hPris.nodup
      have d2 : dictD st (.dic (P.map fun r => (.inr r.1 : Key)) (P.map (·.2))) = some (.dic (P.map fun r => (.inr r.1 : Key)) (P.map (·.2))) := rfl
      simp [d1, s1]
      refine z_to (w_comp (xs := P) (fun p => .str p.1) prD (by simp [s1]) (fun p hp => ⟨_, set_nm, by simp [wipeE, s2 p hp, prD]⟩) ?_)
      obtain ⟨g, hg⟩ : ∃ g : Fld → List D, g = fun r => (corners r.2.1).map fun x => recD (fillP rows cor0 (some (r.1, x))) := ⟨_, rfl⟩
      have hpre : ∀ i, (((rows.map g).take i).flatten).length ≤ 8 * 6561 := fun i => by
        rw [← List.map_take]
        refine Nat.le_trans (flat_len (m := 6561) fun r hr => ?_) ?_
        · rw [hg, List.length_map]
          exact hlen r.2.1 (h.2.2.2 r (List.mem_of_mem_take hr)).1
        · have : (rows.take i).length ≤ 8 := by rw [List.length_take]; omega
          exact Nat.mul_le_mul_right _ this
      simp
      refine z_to (w_forI (st1 := st) (xs := rows.map fldD) (fun i ρ s => s = st ∧ ∃ x2 x4 x5 x7 x8 x9 x10 x11 : Option D, ρ = [some (.tup [.str "record", .tup (rows.map fldD)]), some (.str "record"), x2, some (.lst (recD P :: ((rows.map g).take i).flatten)), x4, x5, some (.dic (P.map fun r => (.inr r.1 : Key)) (P.map (·.2))), x7, x8, x9, x10, x11]) (by simp) ⟨rfl, _, _, _, _, _, _, _, _, rfl⟩ ?_ ?_)
      · rintro i x hi ρ s ⟨rfl, x2, x4, x5, x7, x8, x9, x10, x11, rfl⟩
        rw [List.getElem?_map] at hi
        obtain ⟨r, hgr, rfl⟩ := Option.map_eq_some_iff.mp hi
        have hm := List.mem_of_getElem? hgr
        refine ⟨_, by simp [fldD]; rfl, ?_⟩
        have hc := hlen r.2.1 (h.2.2.2 r hm).1
        have hlk : lkp rows r.1 = some r.2 := lkp_of_mem hnd hm
        have h1 := hpre i
        have e2 : ((rows.map g).take (i + 1)).flatten = ((rows.map g).take i).flatten ++ (corners r.2.1).map fun x => recD (fillP rows cor0 (some (r.1, x))) := by
          rw [List.take_succ, List.getElem?_map, hgr, List.flatten_append, hg]
          simp
        refine z_to (w_forI (st1 := s) (xs := corners r.2.1) (fun j ρ s' => s' = s ∧ ∃ x4 x5 x7 x8 x11 : Option D, ρ = [some (.tup [.str "record", .tup (rows.map fldD)]), some (.str "record"), some r.2.1.d, some (.lst (recD P :: (((rows.map g).take i).flatten ++ ((corners r.2.1).map fun x => recD (fillP rows cor0 (some (r.1, x)))).take j))), x4, x5, some (.dic (P.map fun r => (.inr r.1 : Key)) (P.map (·.2))), x7, x8, some (.str r.1), some (ndOf r.2.2), x11]) (by simp [ih r.2.1 (h.2.2.2 r hm).1]) ⟨rfl, _, _, _, _, _, by simp; exact ⟨rfl, rfl, rfl, rfl, rfl⟩⟩ ?_ ?_)
        · rintro j y hj ρ s' ⟨rfl, x4, x5, x7, x8, x11, rfl⟩
          refine ⟨_, set_nm, ?_⟩
          have hjl : j < (corners r.2.1).length := (List.getElem?_eq_some_iff.mp hj).1
          obtain ⟨t1, t2⟩ := recs (putKV P r.1 y) (fillP rows cor0 (some (r.1, y))) (put_keys hPris.nodup) (fill_ris h.2.2.1 _ _) (fun k => by rw [lkp_put, lkp_fill_put hnd cor0 hlk, hP]) (by
            have : (putKV P r.1 y).length ≤ P.length + 1 := by
              unfold putKV
              split <;> simp
            omega)
          have hPs : P.length < sizeLine := by omega
          simp [d2, hPs, dicPut_KV]
          refine z_to (w_comp (xs := fillP rows cor0 (some (r.1, y))) (fun p => .str p.1) prD (by simp [t1]) (fun p hp => ⟨_, set_nm, by simp [wipeE, t2 p hp, prD]⟩) ?_)
          have e3 : ((corners r.2.1).map fun x => recD (fillP rows cor0 (some (r.1, x)))).take (j + 1) = ((corners r.2.1).map fun x => recD (fillP rows cor0 (some (r.1, x)))).take j ++ [recD (fillP rows cor0 (some (r.1, y)))] := by
            rw [List.take_succ, List.getElem?_map, hj]
            rfl
          have hsz : (((rows.map g).take i).flatten).length + min j (corners r.2.1).length + 1 < sizeLine := by omega
          simp [e3]
          exact ⟨by simpa using hsz, rfl⟩
        · rintro ρ' s' ⟨rfl, x4, x5, x7, x8, x11, rfl⟩
          have e3 : ((corners r.2.1).map fun x => recD (fillP rows cor0 (some (r.1, x)))).take (corners r.2.1).length = (corners r.2.1).map fun x => recD (fillP rows cor0 (some (r.1, x))) := List.take_of_length_le (by simp)
          rw [e3, ← e2]
          exact ⟨rfl, rfl, _, _, _, _, _, _, _, _, rfl⟩
      · rintro ρ' s ⟨rfl, x2, x4, x5, x7, x8, x9, x10, x11, rfl⟩
        have e2 : recD P :: ((rows.map g).take (rows.map fldD).length).flatten = corners (.record rows) := by
          rw [List.length_map, List.take_of_length_le (by simp), hg, corners_record, hP]
        rw [e2]
        simp
end
end SH

namespace SH
open PySem L2
section
variable {pa : Nat → Addr} {n : Nat} {st : Store} {d e : D} {B : Bg} {c : Nat} {m : Int}
theorem eqv_path : ∀ {q : List D}, (∀ x ∈ q, PthEl x) → PyData.eqvAll (D.pys q) (D.pys q) = true
  | [], _ => by simp [D.pys, PyData.eqvAll]
  | x :: r, h => by
    have h1 := eqv_path (q := r) fun y hy => h y (by simp [hy])
    rcases h x (by simp) with ⟨s, rfl, _⟩ | ⟨i, rfl, _⟩ <;> simp [D.pys, D.py, PyData.eqvAll, PyData.eqv, h1]
theorem depth_path {q : List D} (h : ∀ x ∈ q, PthEl x) : (D.tup q).py.depth ≤ 2 := depth_tup fun x hx => by
  rcases h x hx with ⟨s, rfl, _⟩ | ⟨i, rfl, _⟩
  · exact dp_str s
  · exact dp_int _
theorem eqD_path {q : List D} {neg : Bool} (h : ∀ x ∈ q, PthEl x) : eqD neg st (.tup q) (.tup q) = some (.bl (!neg)) := by
  have hp : (D.tup q).plain = true := by
    simp only [D.plain]
    exact plains_of fun x hx => (h x hx).plain
  have hd := depth_path h
  have ok : eqOk (.tup q) (.tup q) = true := by
    unfold eqOk
    rw [hp]
    exact decide_eq_true (by omega)
  have he : D.eq (.tup q) (.tup q) = true := by
    simp only [D.eq, D.py, PyData.eqv]
    exact eqv_path h
  unfold eqD
  rw [if_pos ok, he]
  cases neg <;> rfl
theorem l_reads {r w : S} (hr : r.ok 5) (hw : w.ok 5) (hn : 20 ≤ n) : callT (T pa) n ix__law_reads [r.d, w.d] st = .ok (.bl (agn 10 r w).isNone) st := by
  obtain ⟨n', rfl⟩ : ∃ n', n = n' + 1 := ⟨n - 1, by omega⟩
  apply okR.eq
  refine z_run (fn := ⟨2, 3, false, b__law_reads⟩) rfl rfl ?_
  have hnar : ∀ v ∈ corners w, v.nar = true := fun v hv => D.wid_nar (m := 8) (by decide) (val_wid (by decide) 5 w v hw (corners_val 5 w hw v hv))
  simp [b__law_reads, startE]
  refine z_to (w_comp (xs := corners w) (fun y => y) (fun v => .bl (tk r v []).2.isNone) (by simp [l_corners (pa := pa) (st := st) 5 n' w (by omega) (by omega) hw]) (fun v hv => ⟨_, set_nm, ?_⟩) ?_)
  · have e := l_taken (pa := pa) (st := st) 5 n' (by omega) r v [] hr (hnar v hv) (by simp) (by simp)
    simp [wipeE, e, tkD]
    cases h : (tk r v []).2 <;> simp [D.isNon]
  · simp only [allD_map]
    simp
    rw [Bool.eq_iff_iff, List.all_eq_true, Option.isNone_iff_eq_none]
    constructor
    · intro h
      exact agn_C 10 5 5 r w hr hw (by omega) fun v hv => ⟨[], by simpa using h v hv⟩
    · intro h v hv
      simpa using agn_A 10 5 5 r w hr hw (by omega) h v [] (corners_val 5 w hw v hv)
theorem wpTab_at (hT : TabOk pa B) : WpTab pa (B.at c) := hT 0 _ rfl c
/-- the environment between two turns -/
def LawI (pa : Nat → Addr) (ns : List Int) (k : Nat) (i : Nat) (ρ : Env) (s : Store) : Prop := LawSt pa k s ∧ ∃ x1 x2 x3 x4 x5 x6 x7 x8 x9 x10 : Option D, ρ = [some (.scr ns), x1, x2, x3, x4, x5, x6, x7, x8, x9, x10]
def TurnI (ns : List Int) (B : Bg) (i : Nat) (ρ : Env) (s : Store) : Prop := (∃ c, s = B.at c) ∧ ∃ x2 x3 x4 x5 x6 x7 x8 x9 x10 : Option D, ρ = [some (.scr ns), some (.ref B.b), x2, x3, x4, x5, x6, x7, x8, x9, x10]
/-- one other shape, either way -/
def PairI (x0 x1 x2 x3 x4 x5 x6 : Option D) (st : Store) (i : Nat) (ρ : Env) (s : Store) : Prop := s = st ∧ ∃ x7 x8 x9 x10 : Option D, ρ = [x0, x1, x2, x3, x4, x5, x6, x7, x8, x9, x10]
theorem k04_pair (hT : WpTab pa st) {a b : S} (ha : a.ok 5) (hb : b.ok 5) {x0 x1 x2 x4 x5 x7 x8 x9 x10 : Option D} :
    okR (mFor (.tup [(.nm 7), (.nm 8)]) (iSeq (mTup [(mTup [(mVar 3), (mVar 6)]), (mTup [(mVar 6), (mVar 3)])]))
        (mSeq (mPar 9 10 (mCall (callT (T pa) 199) ix__law_reads [(mVar 7), (mVar 8)]) (mCall (callT (T pa) 199) ix_against [(mVar 7), (mVar 8)]))
        (mSeq (mIf (mOr (mOp2 (eqD true) (mOp1 reprB (mCall (callT (T pa) 199) ix_reads [(mVar 7), (mVar 8)])) (mOp1 reprB (mVar 9))) (mOp2 (eqD true) (mOp2 (isND false) (mVar 10) (mLit .non)) (mVar 9)))
          (mRet (mLit (.bl false)))
          mSkip)
        (mIf (mOp2 (isND true) (mVar 10) (mLit .non))
          (mSeq (mIf (mOr (mOp1 notD (mOp1 (isiD [.tuple]) (mVar 10))) (mOr (mOp2 (eqD true) (mOp1 lenD (mVar 10)) (mLit (.int 2))) (mOp1 notD (mCall (callT (T pa) 199) ix__law_is_value [(mVar 8), (mOp2 ixD (mVar 10) (mLit (.int 0)))]))))
            (mRet (mLit (.bl false)))
            mSkip)
          (mIf (mOr (mOp2 (eqD true) (mOp2 ixD (mCall (callT (T pa) 199) ix__law_taken [(mVar 7), (mOp2 ixD (mVar 10) (mLit (.int 0))), (mTup [])]) (mLit (.int 1))) (mOp2 ixD (mVar 10) (mLit (.int 1)))) (mOp1 notD (mOp1 (isiD [.tuple]) (mOp2 ixD (mVar 10) (mLit (.int 1))))))
            (mRet (mLit (.bl false)))
            mSkip))
          mSkip))) [x0, x1, x2, some a.d, x4, x5, some b.d, x7, x8, x9, x10] st) fun q s => q.1 = .next ∧ PairI x0 x1 x2 (some a.d) x4 x5 (some b.d) st 0 q.2 s := by
  refine w_forI (st1 := st) (xs := [(a, b), (b, a)].map fun p : S × S => .tup [p.1.d, p.2.d]) (PairI x0 x1 x2 (some a.d) x4 x5 (some b.d) st) (by simp) ⟨rfl, _, _, _, _, rfl⟩ ?_ ?_
  · rintro j x hj ρ s ⟨rfl, x7, x8, x9, x10, rfl⟩
    rw [List.getElem?_map] at hj
    obtain ⟨⟨r, w⟩, hg, rfl⟩ := Option.map_eq_some_iff.mp hj
    have hrw : r.ok 5 ∧ w.ok 5 := by
      have := List.mem_of_getElem? hg
      simp at this
      rcases this with ⟨rfl, rfl⟩ | ⟨rfl, rfl⟩
      · exact ⟨ha, hb⟩
      · exact ⟨hb, ha⟩
    obtain ⟨hr, hw⟩ := hrw
    refine ⟨_, by simp; rfl, ?_⟩
    have e1 := l_reads (pa := pa) (st := s) (n := 199) hr hw (by omega)
    have e2 := r_against (pa := pa) (st := s) hT 10 199 (by omega) 5 5 r w hr hw (by omega) (by omega) (by omega)
    have e3 := r_reads (pa := pa) (st := s) hT (n := 199) (m := 10) hr hw (by omega) (by omega) (by omega) (by omega)
    simp [e1, e2, e3, eqD_bb, oA_isNon]
    cases ho : agn 10 r w with
    | none => simp [D.isNon]; exact ⟨rfl, _, _, _, _, rfl⟩
    | some v =>
      obtain ⟨h1, h2⟩ := agn_B 10 5 5 r w hr hw (by omega) v.1 v.2 ho
      have hnar : v.1.nar = true := D.wid_nar (m := 8) (by decide) (val_wid (by decide) 5 w v.1 hw h1)
      have e4 := l_is_value (pa := pa) (st := s) 5 199 (by omega) w v.1 hw (S.ok_plain hw) hnar
      rw [h1] at e4
      have e5 := l_taken (pa := pa) (st := s) 5 199 (by omega) r v.1 [] hr hnar (by simp) (by simp)
      have h3 := h2 []
      simp at h3
      obtain ⟨q, e6, _, hq⟩ := tk_path 5 r v.1 [] v.2 hr (by rw [h3])
      simp at e6
      have e7 := fun st neg => eqD_path (st := st) (q := v.2) (neg := neg) (by rw [e6]; exact hq)
      simp [D.isNon, e4, e5, tkD, h3, e7]
      exact ⟨rfl, _, _, _, _, rfl⟩
  · rintro ρ' s ⟨rfl, x7, x8, x9, x10, rfl⟩
    exact ⟨rfl, rfl, _, _, _, _, rfl⟩
theorem law_true (pa : Nat → Addr) (ns : List Int) (hl : ns.length ≤ 63) : ∃ st', callT (T pa) 200 ix_law [.scr ns] (st0 lamQs pa 0) = .ok (.bl true) st' := by
  have key : okR (callT (T pa) 200 ix_law [.scr ns] (st0 lamQs pa 0)) fun d _ => d = .bl true := by
    refine z_run (fn := ⟨1, 11, false, b_law⟩) rfl rfl ?_
    obtain ⟨k, st1, eb, hk⟩ := l_bags (pa := pa) (n := 196) (st := st0 lamQs pa 0) (lim := 8) hl
    rw [st0_len] at eb
    simp only [b_law, startE]
    rw [z_seq]
    refine z_to (w_forI (st1 := st1) (xs := (List.range' lamQs.length k).map D.ref) (LawI pa ns k) ?_ ?_ ?_ ?_)
    · have eb' : callT (T pa) 199 ix__law_bags [.scr ns, .int 8] (st0 lamQs pa 0) = _ := eb
      simp [eb']
    · exact ⟨lawSt_bags hk, _, _, _, _, _, _, _, _, _, _, rfl⟩
    · rintro j x hx ρ s ⟨hs, x1, x2, x3, x4, x5, x6, x7, x8, x9, x10, rfl⟩
      rw [List.getElem?_map] at hx
      cases hg : (List.range' lamQs.length k)[j]? with
      | none => rw [hg] at hx; cases hx
      | some b =>
        rw [hg] at hx
        cases hx
        have hm := List.mem_range'_1.mp (List.mem_of_getElem? hg)
        obtain ⟨B, c, rfl, rfl, hT, hst⟩ := hs.bag hm.1 hm.2
        refine ⟨_, set_nm, ?_⟩
        have e9 : sizeLine = 16777216 := rfl
        refine w_forI (st1 := B.at c) (xs := rangeL 3) (TurnI ns B) ?_ ?_ ?_ ?_
        · simp [e9]
        · exact ⟨⟨_, rfl⟩, _, _, _, _, _, _, _, _, _, rfl⟩
        · rintro j x hx ρ s ⟨⟨c, rfl⟩, x2, x3, x4, x5, x6, x7, x8, x9, x10, rfl⟩
          refine ⟨_, set_nm, ?_⟩
          simp
          refine z_mono (l_shape (pa := pa) (B := B) 3 199 (by decide) (by decide) c) ?_
          rintro d s ⟨⟨c1, rfl⟩, sh, rfl, hn⟩
          have hok := S.ok_le (S.nice_ok (by decide) hn) (j := 5) (by decide)
          simp
          refine z_to (w_compT (st1 := B.at c1) (xs := rangeL 3) (fun s => ∃ c, s = B.at c) (fun _ d => ∃ nr : S, d = S.d nr ∧ nr.ok 5) (by simp [e9]) ⟨_, rfl⟩ ?_ ?_)
          · rintro x hx s ⟨c2, rfl⟩
            refine ⟨_, set_nm, ?_⟩
            simp [wipeE]
            refine z_mono (l_near (pa := pa) (B := B) hT 3 199 (by decide) (by decide) sh c2 (S.nice_up (by decide) hn)) ?_
            rintro d s ⟨⟨c3, rfl⟩, nr, rfl, hnn⟩
            exact ⟨⟨_, rfl⟩, nr, rfl, S.ok_le (S.nice_ok (by decide) hnn) (by decide)⟩
          · rintro ds s ⟨c2, rfl⟩ ha
            obtain ⟨rs, rfl, hrs⟩ := ha.map (g := S.d) (R := fun _ nr => nr.ok 5)
            have hrok : ∀ r ∈ rs, S.ok 5 r := hrs.right fun _ _ h => h
            have hrl : rs.length = 3 := by
              have := hrs.length
              simp [rangeL] at this
              omega
            simp
            refine z_mono (l_shape (pa := pa) (B := B) 2 199 (by decide) (by decide) c2) ?_
            rintro d s ⟨⟨c4, rfl⟩, sh2, rfl, hn2⟩
            have hok2 := S.ok_le (S.nice_ok (by decide) hn2) (j := 5) (by decide)
            have hok3 : (S.maybe (.word 20)).ok 5 := by simp [S.ok, S.isMaybe]
            simp
            rw [add_ll (by simp; omega)]
            have el : rs.map S.d ++ [sh.d, sh2.d, .tup [.str "maybe", .tup [.str "word", .int 20]]] = (rs ++ [sh, sh2, S.maybe (.word 20)]).map S.d := by simp [S.d_maybe, S.d_word]
            rw [el]
            have hall : ∀ r ∈ rs ++ [sh, sh2, S.maybe (.word 20)], S.ok 5 r := by
              intro r hr
              rcases List.mem_append.mp hr with h | h
              · exact hrok r h
              · simp at h
                rcases h with rfl | rfl | rfl
                · exact hok
                · exact hok2
                · exact hok3
            generalize rs ++ [sh, sh2, S.maybe (.word 20)] = L at hall
            simp
            refine z_to (w_forI (st1 := B.at c4) (xs := L.map S.d) (fun i ρ s => s = B.at c4 ∧ ∃ x2 x5 x6 x7 x8 x9 x10 : Option D, ρ = [some (.scr ns), some (.ref B.b), x2, some sh.d, some (.lst (L.map S.d)), x5, x6, x7, x8, x9, x10]) (by simp) ⟨rfl, _, _, _, _, _, _, _, rfl⟩ ?_ ?_)
            · rintro i x hx ρ s ⟨rfl, x2, x5, x6, x7, x8, x9, x10, rfl⟩
              rw [List.getElem?_map] at hx
              obtain ⟨o, ho, rfl⟩ := Option.map_eq_some_iff.mp hx
              refine ⟨_, set_nm, ?_⟩
              refine (k04_pair (pa := pa) (wpTab_at hT) hok (hall o (List.mem_of_getElem? ho))).mono ?_
              rintro q s ⟨h1, rfl, y7, y8, y9, y10, h2⟩
              exact ⟨h1, rfl, _, _, _, _, _, _, _, h2⟩
            · rintro ρ' s ⟨rfl, x2, x5, x6, x7, x8, x9, x10, rfl⟩
              exact ⟨rfl, ⟨_, rfl⟩, _, _, _, _, _, _, _, _, _, rfl⟩
        · rintro ρ' s ⟨⟨c, rfl⟩, x2, x3, x4, x5, x6, x7, x8, x9, x10, rfl⟩
          exact ⟨rfl, hst _, _, _, _, _, _, _, _, _, _, _, rfl⟩
    · rintro ρ' s ⟨hs, x1, x2, x3, x4, x5, x6, x7, x8, x9, x10, rfl⟩
      have hT : WpTab pa s := by
        have h := hs.2.1 0 (by decide)
        unfold WpTab
        rw [h]
        rfl
      have e1 := r_reads (pa := pa) (st := s) hT (n := 199) (m := 4) (k := 2) (j := 2) (r := .list .truth 0) (w := .list (.whole 0 1) 0) (by simp [S.ok]) (by simp [S.ok]) (by omega) (by omega) (by omega) (by omega)
      have a1 : agn 4 (.list .truth 0) (.list (.whole 0 1) 0) = none := by simp [agn, agnP]
      have hab : risesS ["ab"] = true ∧ (["ab"] : List Str).all nameS = true := by decide +kernel
      have e2 := fun (c : Int) (h : 0 ≤ c ∧ c ≤ 20) => r_reads (pa := pa) (st := s) hT (n := 199) (m := 2) (k := 1) (j := 1) (r := .word c) (w := .one ["ab"]) (by simp [S.ok, h]) (by simp only [S.ok]; exact ⟨by decide, by decide, hab.2, hab.1⟩) (by omega) (by omega) (by omega) (by omega)
      have a2 : agn 2 (.word 2) (.one ["ab"]) = none := by decide +kernel
      have a3 : (agn 2 (.word 1) (.one ["ab"])).isNone = false := by decide +kernel
      have e3 := e2 2 (by omega)
      have e4 := e2 1 (by omega)
      simp only [S.d_list, S.d_truth, S.d_whole, S.d_word, S.d_one, List.map_cons, List.map_nil] at e1 e3 e4
      rw [a1] at e1
      rw [a2] at e3
      rw [a3] at e4
      simp [e1, e3, e4]
  obtain ⟨d, s, e, rfl⟩ := key
  exact ⟨s, e⟩
end
end SH

namespace SH
open PySem PySem.Spec PyProof.Rows L2
def CG : Gam := ⟨[], [], gFns, gFree, gCons, false, gTabs, none⟩
def ds (pa : Nat → Addr) : List DS := [⟨"row_of", top 1, G_row_of pa, ["rows", "name"]⟩,
  ⟨"least_value", top 2, G_least_value pa, ["shape"]⟩,
  ⟨"reads", top 4, G_reads pa, ["reader", "writer"]⟩,
  ⟨"against", top 5, G_against pa, ["reader", "writer"]⟩,
  ⟨"against_plain", top 6, G_against_plain pa, ["reader", "writer"]⟩,
  ⟨"against_list", top 7, G_against_list pa, ["reader", "writer"]⟩,
  ⟨"against_either", top 8, G_against_either pa, ["reader", "writer"]⟩,
  ⟨"with_pair", top 9, G_with_pair pa, ["value", "name", "thing"]⟩,
  ⟨"against_record", top 10, G_against_record pa, ["reader", "writer"]⟩,
  ⟨"_law_cell_at", top 12, G__law_cell_at pa, ["_law_script", "_law_k"]⟩,
  ⟨"_law_draws", top 13, G__law_draws pa, ["_law_cell", "_law_many", "_law_size"]⟩,
  ⟨"_law_from", top 14, G__law_from pa, ["_law_thing", "_law_least", "_law_top"]⟩,
  ⟨"_law_bag", top 15, G__law_bag pa, ["_law_script", "_law_k"]⟩,
  ⟨"_law_bags", top 16, G__law_bags pa, ["_law_script", "_law_limit"]⟩,
  ⟨"_law_take", top 17, G__law_take pa, ["_law_bag_here", "_law_many"]⟩,
  ⟨"_law_names", top 18, G__law_names pa, ["_law_bag_here", "_law_some", "_law_most"]⟩,
  ⟨"_law_leaf", top 19, G__law_leaf pa, ["_law_bag_here"]⟩,
  ⟨"_law_shape", top 20, G__law_shape pa, ["_law_bag_here", "_law_deep"]⟩,
  ⟨"_law_value", top 21, G__law_value pa, ["_law_bag_here", "_law_shape_here"]⟩,
  ⟨"_law_near_leaf", top 22, G__law_near_leaf pa, ["_law_bag_here", "_law_shape_here"]⟩,
  ⟨"_law_near", top 23, G__law_near pa, ["_law_bag_here", "_law_shape_here"]⟩,
  ⟨"_law_near_fields", top 24, G__law_near_fields pa, ["_law_bag_here", "_law_fields"]⟩,
  ⟨"_law_is_name", top 25, G__law_is_name pa, ["_law_thing"]⟩,
  ⟨"_law_rows_right", top 26, G__law_rows_right pa, ["_law_thing", "_law_least", "_law_most", "_law_many"]⟩,
  ⟨"_law_is_value", top 27, G__law_is_value pa, ["_law_shape_here", "_law_thing"]⟩,
  ⟨"_law_letters", top 28, G__law_letters pa, ["_law_text"]⟩,
  ⟨"_law_taken", top 29, G__law_taken pa, ["_law_shape_here", "_law_thing", "_law_path"]⟩,
  ⟨"_law_taken_list", top 30, G__law_taken_list pa, ["_law_shape_here", "_law_thing", "_law_path"]⟩,
  ⟨"_law_taken_record", top 31, G__law_taken_record pa, ["_law_shape_here", "_law_thing", "_law_path"]⟩,
  ⟨"_law_corners", top 32, G__law_corners pa, ["_law_shape_here"]⟩,
  ⟨"_law_reads", top 33, G__law_reads pa, ["_law_reader", "_law_writer"]⟩,
  ⟨"law", top 34, G_law pa, ["_law_script"]⟩]
theorem sc_row_of : FnScope ["rows", "name", "some", "row"] ["rows", "name"] (defScope (top 1)) := ⟨rfl, rfl, rfl, by decide +kernel, rfl, by decide +kernel, by decide +kernel⟩
theorem ok_row_of (pa : Nat → Addr) : DOk (T pa) CG 0 ⟨"row_of", top 1, G_row_of pa, ["rows", "name"]⟩ := ⟨⟨_, rfl, rfl, rfl, rfl, fun F => d_row_of pa F⟩, sc_row_of, fun i hi => by simp [G_row_of] at hi, rfl, rfl, rfl, rfl, fun n P q h => by cases h⟩
theorem sc_least_value : FnScope ["shape", "word", "name", "inner", "need"] ["shape"] (defScope (top 2)) := ⟨rfl, rfl, rfl, by decide +kernel, rfl, by decide +kernel, by decide +kernel⟩
theorem ok_least_value (pa : Nat → Addr) : DOk (T pa) CG 1 ⟨"least_value", top 2, G_least_value pa, ["shape"]⟩ := ⟨⟨_, rfl, rfl, rfl, rfl, fun F => d_least_value pa F⟩, sc_least_value, fun i hi => by simp [G_least_value] at hi, rfl, rfl, rfl, rfl, fun n P q h => by cases h⟩
theorem sc_reads : FnScope ["reader", "writer"] ["reader", "writer"] (defScope (top 4)) := ⟨rfl, rfl, rfl, by decide +kernel, rfl, by decide +kernel, by decide +kernel⟩
theorem ok_reads (pa : Nat → Addr) : DOk (T pa) CG 2 ⟨"reads", top 4, G_reads pa, ["reader", "writer"]⟩ := ⟨⟨_, rfl, rfl, rfl, rfl, fun F => d_reads pa F⟩, sc_reads, fun i hi => by simp [G_reads] at hi, rfl, rfl, rfl, rfl, fun n P q h => by cases h⟩
theorem sc_against : FnScope ["reader", "writer", "long", "name"] ["reader", "writer"] (defScope (top 5)) := ⟨rfl, rfl, rfl, by decide +kernel, rfl, by decide +kernel, by decide +kernel⟩
theorem ok_against (pa : Nat → Addr) : DOk (T pa) CG 3 ⟨"against", top 5, G_against pa, ["reader", "writer"]⟩ := ⟨⟨_, rfl, rfl, rfl, rfl, fun F => d_against pa F⟩, sc_against, fun i hi => by simp [G_against] at hi, rfl, rfl, rfl, rfl, fun n P q h => by cases h⟩
theorem sc_against_plain : FnScope ["reader", "writer", "some", "number", "name"] ["reader", "writer"] (defScope (top 6)) := ⟨rfl, rfl, rfl, by decide +kernel, rfl, by decide +kernel, by decide +kernel⟩
theorem ok_against_plain (pa : Nat → Addr) : DOk (T pa) CG 4 ⟨"against_plain", top 6, G_against_plain pa, ["reader", "writer"]⟩ := ⟨⟨_, rfl, rfl, rfl, rfl, fun F => d_against_plain pa F⟩, sc_against_plain, fun i hi => by simp [G_against_plain] at hi, rfl, rfl, rfl, rfl, fun n P q h => by cases h⟩
theorem sc_against_list : FnScope ["reader", "writer", "inner"] ["reader", "writer"] (defScope (top 7)) := ⟨rfl, rfl, rfl, by decide +kernel, rfl, by decide +kernel, by decide +kernel⟩
theorem ok_against_list (pa : Nat → Addr) : DOk (T pa) CG 5 ⟨"against_list", top 7, G_against_list pa, ["reader", "writer"]⟩ := ⟨⟨_, rfl, rfl, rfl, rfl, fun F => d_against_list pa F⟩, sc_against_list, fun i hi => by simp [G_against_list] at hi, rfl, rfl, rfl, rfl, fun n P q h => by cases h⟩
theorem sc_against_either : FnScope ["reader", "writer", "tag", "shape", "row", "inner"] ["reader", "writer"] (defScope (top 8)) := ⟨rfl, rfl, rfl, by decide +kernel, rfl, by decide +kernel, by decide +kernel⟩
theorem ok_against_either (pa : Nat → Addr) : DOk (T pa) CG 6 ⟨"against_either", top 8, G_against_either pa, ["reader", "writer"]⟩ := ⟨⟨_, rfl, rfl, rfl, rfl, fun F => d_against_either pa F⟩, sc_against_either, fun i hi => by simp [G_against_either] at hi, rfl, rfl, rfl, rfl, fun n P q h => by cases h⟩
theorem sc_with_pair : FnScope ["value", "name", "thing", "pairs", "pair"] ["value", "name", "thing"] (defScope (top 9)) := ⟨rfl, rfl, rfl, by decide +kernel, rfl, by decide +kernel, by decide +kernel⟩
theorem ok_with_pair (pa : Nat → Addr) : DOk (T pa) CG 7 ⟨"with_pair", top 9, G_with_pair pa, ["value", "name", "thing"]⟩ := ⟨⟨_, rfl, rfl, rfl, rfl, fun F => d_with_pair pa F⟩, sc_with_pair, fun i hi => by simp [G_with_pair] at hi, rfl, rfl, rfl, rfl, fun n P q h => by cases h; rfl⟩
theorem sc_against_record : FnScope ["reader", "writer", "least", "name", "inner", "need", "field", "odd"] ["reader", "writer"] (defScope (top 10)) := ⟨rfl, rfl, rfl, by decide +kernel, rfl, by decide +kernel, by decide +kernel⟩
theorem ok_against_record (pa : Nat → Addr) : DOk (T pa) CG 8 ⟨"against_record", top 10, G_against_record pa, ["reader", "writer"]⟩ := ⟨⟨_, rfl, rfl, rfl, rfl, fun F => d_against_record pa F⟩, sc_against_record, fun i hi => by simp [G_against_record] at hi, rfl, rfl, rfl, rfl, fun n P q h => by cases h⟩
theorem sc__law_cell_at : FnScope ["_law_script", "_law_k"] ["_law_script", "_law_k"] (defScope (top 12)) := ⟨rfl, rfl, rfl, by decide +kernel, rfl, by decide +kernel, by decide +kernel⟩
theorem ok__law_cell_at (pa : Nat → Addr) : DOk (T pa) CG 9 ⟨"_law_cell_at", top 12, G__law_cell_at pa, ["_law_script", "_law_k"]⟩ := ⟨⟨_, rfl, rfl, rfl, rfl, fun F => d__law_cell_at pa F⟩, sc__law_cell_at, fun i hi => by simp [G__law_cell_at] at hi, rfl, rfl, rfl, rfl, fun n P q h => by cases h⟩
theorem sc__law_draws : FnScope ["_law_cell", "_law_many", "_law_size", "_law_found", "_law_rest", "_law_stirred", "_law_k"] ["_law_cell", "_law_many", "_law_size"] (defScope (top 13)) := ⟨rfl, rfl, rfl, by decide +kernel, rfl, by decide +kernel, by decide +kernel⟩
theorem ok__law_draws (pa : Nat → Addr) : DOk (T pa) CG 10 ⟨"_law_draws", top 13, G__law_draws pa, ["_law_cell", "_law_many", "_law_size"]⟩ := ⟨⟨_, rfl, rfl, rfl, rfl, fun F => d__law_draws pa F⟩, sc__law_draws, fun i hi => by simp [G__law_draws] at hi; subst hi; exact Nat.le_of_ble_eq_true rfl, rfl, rfl, rfl, rfl, fun n P q h => by cases h⟩
theorem sc__law_from : FnScope ["_law_thing", "_law_least", "_law_top"] ["_law_thing", "_law_least", "_law_top"] (defScope (top 14)) := ⟨rfl, rfl, rfl, by decide +kernel, rfl, by decide +kernel, by decide +kernel⟩
theorem ok__law_from (pa : Nat → Addr) : DOk (T pa) CG 11 ⟨"_law_from", top 14, G__law_from pa, ["_law_thing", "_law_least", "_law_top"]⟩ := ⟨⟨_, rfl, rfl, rfl, rfl, fun F => d__law_from pa F⟩, sc__law_from, fun i hi => by simp [G__law_from] at hi, rfl, rfl, rfl, rfl, fun n P q h => by cases h⟩
theorem sc__law_bag : FnScope ["_law_script", "_law_k"] ["_law_script", "_law_k"] (defScope (top 15)) := ⟨rfl, rfl, rfl, by decide +kernel, rfl, by decide +kernel, by decide +kernel⟩
theorem ok__law_bag (pa : Nat → Addr) : DOk (T pa) CG 12 ⟨"_law_bag", top 15, G__law_bag pa, ["_law_script", "_law_k"]⟩ := ⟨⟨_, rfl, rfl, rfl, rfl, fun F => d__law_bag pa F⟩, sc__law_bag, fun i hi => by simp [G__law_bag] at hi, rfl, rfl, rfl, rfl, fun n P q h => by cases h⟩
theorem sc__law_bags : FnScope ["_law_script", "_law_limit", "_law_k"] ["_law_script", "_law_limit"] (defScope (top 16)) := ⟨rfl, rfl, rfl, by decide +kernel, rfl, by decide +kernel, by decide +kernel⟩
theorem ok__law_bags (pa : Nat → Addr) : DOk (T pa) CG 13 ⟨"_law_bags", top 16, G__law_bags pa, ["_law_script", "_law_limit"]⟩ := ⟨⟨_, rfl, rfl, rfl, rfl, fun F => d__law_bags pa F⟩, sc__law_bags, fun i hi => by simp [G__law_bags] at hi, rfl, rfl, rfl, rfl, fun n P q h => by cases h⟩
theorem sc__law_take : FnScope ["_law_bag_here", "_law_many"] ["_law_bag_here", "_law_many"] (defScope (top 17)) := ⟨rfl, rfl, rfl, by decide +kernel, rfl, by decide +kernel, by decide +kernel⟩
theorem ok__law_take (pa : Nat → Addr) : DOk (T pa) CG 14 ⟨"_law_take", top 17, G__law_take pa, ["_law_bag_here", "_law_many"]⟩ := ⟨⟨_, rfl, rfl, rfl, rfl, fun F => d__law_take pa F⟩, sc__law_take, fun i hi => by simp [G__law_take] at hi, rfl, rfl, rfl, rfl, fun n P q h => by cases h⟩
theorem sc__law_names : FnScope ["_law_bag_here", "_law_some", "_law_most", "_law_found", "_law_turn"] ["_law_bag_here", "_law_some", "_law_most"] (defScope (top 18)) := ⟨rfl, rfl, rfl, by decide +kernel, rfl, by decide +kernel, by decide +kernel⟩
theorem ok__law_names (pa : Nat → Addr) : DOk (T pa) CG 15 ⟨"_law_names", top 18, G__law_names pa, ["_law_bag_here", "_law_some", "_law_most"]⟩ := ⟨⟨_, rfl, rfl, rfl, rfl, fun F => d__law_names pa F⟩, sc__law_names, fun i hi => by simp [G__law_names] at hi; subst hi; exact Nat.le_of_ble_eq_true rfl, rfl, rfl, rfl, rfl, fun n P q h => by cases h⟩
theorem sc__law_leaf : FnScope ["_law_bag_here", "_law_how", "_law_low"] ["_law_bag_here"] (defScope (top 19)) := ⟨rfl, rfl, rfl, by decide +kernel, rfl, by decide +kernel, by decide +kernel⟩
theorem ok__law_leaf (pa : Nat → Addr) : DOk (T pa) CG 16 ⟨"_law_leaf", top 19, G__law_leaf pa, ["_law_bag_here"]⟩ := ⟨⟨_, rfl, rfl, rfl, rfl, fun F => d__law_leaf pa F⟩, sc__law_leaf, fun i hi => by simp [G__law_leaf] at hi, rfl, rfl, rfl, rfl, fun n P q h => by cases h⟩
theorem sc__law_shape : FnScope ["_law_bag_here", "_law_deep", "_law_how", "_law_inner", "_law_names_here", "_law_name", "_law_fields", "_law_must"] ["_law_bag_here", "_law_deep"] (defScope (top 20)) := ⟨rfl, rfl, rfl, by decide +kernel, rfl, by decide +kernel, by decide +kernel⟩
theorem ok__law_shape (pa : Nat → Addr) : DOk (T pa) CG 17 ⟨"_law_shape", top 20, G__law_shape pa, ["_law_bag_here", "_law_deep"]⟩ := ⟨⟨_, rfl, rfl, rfl, rfl, fun F => d__law_shape pa F⟩, sc__law_shape, fun i hi => by simp [G__law_shape] at hi; subst hi; exact Nat.le_of_ble_eq_true rfl, rfl, rfl, rfl, rfl, fun n P q h => by cases h⟩
theorem sc__law_value : FnScope ["_law_bag_here", "_law_shape_here", "_law_word", "_law_turn", "_law_tag", "_law_inner", "_law_pairs", "_law_name", "_law_need"] ["_law_bag_here", "_law_shape_here"] (defScope (top 21)) := ⟨rfl, rfl, rfl, by decide +kernel, rfl, by decide +kernel, by decide +kernel⟩
theorem ok__law_value (pa : Nat → Addr) : DOk (T pa) CG 18 ⟨"_law_value", top 21, G__law_value pa, ["_law_bag_here", "_law_shape_here"]⟩ := ⟨⟨_, rfl, rfl, rfl, rfl, fun F => d__law_value pa F⟩, sc__law_value, fun i hi => by simp [G__law_value] at hi; subst hi; exact Nat.le_of_ble_eq_true rfl, rfl, rfl, rfl, rfl, fun n P q h => by cases h⟩
theorem sc__law_near_leaf : FnScope ["_law_bag_here", "_law_shape_here", "_law_how", "_law_low", "_law_high"] ["_law_bag_here", "_law_shape_here"] (defScope (top 22)) := ⟨rfl, rfl, rfl, by decide +kernel, rfl, by decide +kernel, by decide +kernel⟩
theorem ok__law_near_leaf (pa : Nat → Addr) : DOk (T pa) CG 19 ⟨"_law_near_leaf", top 22, G__law_near_leaf pa, ["_law_bag_here", "_law_shape_here"]⟩ := ⟨⟨_, rfl, rfl, rfl, rfl, fun F => d__law_near_leaf pa F⟩, sc__law_near_leaf, fun i hi => by simp [G__law_near_leaf] at hi, rfl, rfl, rfl, rfl, fun n P q h => by cases h⟩
theorem sc__law_near : FnScope ["_law_bag_here", "_law_shape_here", "_law_word", "_law_inner", "_law_rows", "_law_tag", "_law_row"] ["_law_bag_here", "_law_shape_here"] (defScope (top 23)) := ⟨rfl, rfl, rfl, by decide +kernel, rfl, by decide +kernel, by decide +kernel⟩
theorem ok__law_near (pa : Nat → Addr) : DOk (T pa) CG 20 ⟨"_law_near", top 23, G__law_near pa, ["_law_bag_here", "_law_shape_here"]⟩ := ⟨⟨_, rfl, rfl, rfl, rfl, fun F => d__law_near pa F⟩, sc__law_near, fun i hi => by simp [G__law_near] at hi, rfl, rfl, rfl, rfl, fun n P q h => by cases h; rfl⟩
theorem sc__law_near_fields : FnScope ["_law_bag_here", "_law_fields", "_law_found", "_law_name", "_law_inner", "_law_need", "_law_how", "_law_other", "_law_row"] ["_law_bag_here", "_law_fields"] (defScope (top 24)) := ⟨rfl, rfl, rfl, by decide +kernel, rfl, by decide +kernel, by decide +kernel⟩
theorem ok__law_near_fields (pa : Nat → Addr) : DOk (T pa) CG 21 ⟨"_law_near_fields", top 24, G__law_near_fields pa, ["_law_bag_here", "_law_fields"]⟩ := ⟨⟨_, rfl, rfl, rfl, rfl, fun F => d__law_near_fields pa F⟩, sc__law_near_fields, fun i hi => by simp [G__law_near_fields] at hi; subst hi; exact Nat.le_of_ble_eq_true rfl, rfl, rfl, rfl, rfl, fun n P q h => by cases h; rfl⟩
theorem sc__law_is_name : FnScope ["_law_thing", "_law_sign"] ["_law_thing"] (defScope (top 25)) := ⟨rfl, rfl, rfl, by decide +kernel, rfl, by decide +kernel, by decide +kernel⟩
theorem ok__law_is_name (pa : Nat → Addr) : DOk (T pa) CG 22 ⟨"_law_is_name", top 25, G__law_is_name pa, ["_law_thing"]⟩ := ⟨⟨_, rfl, rfl, rfl, rfl, fun F => d__law_is_name pa F⟩, sc__law_is_name, fun i hi => by simp [G__law_is_name] at hi, rfl, rfl, rfl, rfl, fun n P q h => by cases h⟩
theorem sc__law_rows_right : FnScope ["_law_thing", "_law_least", "_law_most", "_law_many", "_law_row", "_law_names_here"] ["_law_thing", "_law_least", "_law_most", "_law_many"] (defScope (top 26)) := ⟨rfl, rfl, rfl, by decide +kernel, rfl, by decide +kernel, by decide +kernel⟩
theorem ok__law_rows_right (pa : Nat → Addr) : DOk (T pa) CG 23 ⟨"_law_rows_right", top 26, G__law_rows_right pa, ["_law_thing", "_law_least", "_law_most", "_law_many"]⟩ := ⟨⟨_, rfl, rfl, rfl, rfl, fun F => d__law_rows_right pa F⟩, sc__law_rows_right, fun i hi => by simp [G__law_rows_right] at hi, rfl, rfl, rfl, rfl, fun n P q h => by cases h⟩
theorem sc__law_is_value : FnScope ["_law_shape_here", "_law_thing", "_law_word", "_law_row", "_law_one", "_law_inner", "_law_name", "_law_value_here", "_law_names_here"] ["_law_shape_here", "_law_thing"] (defScope (top 27)) := ⟨rfl, rfl, rfl, by decide +kernel, rfl, by decide +kernel, by decide +kernel⟩
theorem ok__law_is_value (pa : Nat → Addr) : DOk (T pa) CG 24 ⟨"_law_is_value", top 27, G__law_is_value pa, ["_law_shape_here", "_law_thing"]⟩ := ⟨⟨_, rfl, rfl, rfl, rfl, fun F => d__law_is_value pa F⟩, sc__law_is_value, fun i hi => by simp [G__law_is_value] at hi, rfl, rfl, rfl, rfl, fun n P q h => by cases h⟩
theorem sc__law_letters : FnScope ["_law_text", "_law_sign"] ["_law_text"] (defScope (top 28)) := ⟨rfl, rfl, rfl, by decide +kernel, rfl, by decide +kernel, by decide +kernel⟩
theorem ok__law_letters (pa : Nat → Addr) : DOk (T pa) CG 25 ⟨"_law_letters", top 28, G__law_letters pa, ["_law_text"]⟩ := ⟨⟨_, rfl, rfl, rfl, rfl, fun F => d__law_letters pa F⟩, sc__law_letters, fun i hi => by simp [G__law_letters] at hi, rfl, rfl, rfl, rfl, fun n P q h => by cases h⟩
theorem sc__law_taken : FnScope ["_law_shape_here", "_law_thing", "_law_path", "_law_word", "_law_row", "_law_value_here", "_law_odd"] ["_law_shape_here", "_law_thing", "_law_path"] (defScope (top 29)) := ⟨rfl, rfl, rfl, by decide +kernel, rfl, by decide +kernel, by decide +kernel⟩
theorem ok__law_taken (pa : Nat → Addr) : DOk (T pa) CG 26 ⟨"_law_taken", top 29, G__law_taken pa, ["_law_shape_here", "_law_thing", "_law_path"]⟩ := ⟨⟨_, rfl, rfl, rfl, rfl, fun F => d__law_taken pa F⟩, sc__law_taken, fun i hi => by simp [G__law_taken] at hi, rfl, rfl, rfl, rfl, fun n P q h => by cases h⟩
theorem sc__law_taken_list : FnScope ["_law_shape_here", "_law_thing", "_law_path", "_law_rows", "_law_at", "_law_one", "_law_odd", "_law_row"] ["_law_shape_here", "_law_thing", "_law_path"] (defScope (top 30)) := ⟨rfl, rfl, rfl, by decide +kernel, rfl, by decide +kernel, by decide +kernel⟩
theorem ok__law_taken_list (pa : Nat → Addr) : DOk (T pa) CG 27 ⟨"_law_taken_list", top 30, G__law_taken_list pa, ["_law_shape_here", "_law_thing", "_law_path"]⟩ := ⟨⟨_, rfl, rfl, rfl, rfl, fun F => d__law_taken_list pa F⟩, sc__law_taken_list, fun i hi => by simp [G__law_taken_list] at hi, rfl, rfl, rfl, rfl, fun n P q h => by cases h⟩
theorem sc__law_taken_record : FnScope ["_law_shape_here", "_law_thing", "_law_path", "_law_given", "_law_pairs", "_law_odd", "_law_name", "_law_inner", "_law_need", "_law_value_here", "_law_strange_at"] ["_law_shape_here", "_law_thing", "_law_path"] (defScope (top 31)) := ⟨rfl, rfl, rfl, by decide +kernel, rfl, by decide +kernel, by decide +kernel⟩
theorem ok__law_taken_record (pa : Nat → Addr) : DOk (T pa) CG 28 ⟨"_law_taken_record", top 31, G__law_taken_record pa, ["_law_shape_here", "_law_thing", "_law_path"]⟩ := ⟨⟨_, rfl, rfl, rfl, rfl, fun F => d__law_taken_record pa F⟩, sc__law_taken_record, fun i hi => by simp [G__law_taken_record] at hi; subst hi; exact Nat.le_of_ble_eq_true rfl, rfl, rfl, rfl, rfl, fun n P q h => by cases h⟩
theorem sc__law_corners : FnScope ["_law_shape_here", "_law_word", "_law_inner", "_law_found", "_law_one", "_law_tag", "_law_first", "_law_row", "_law_label", "_law_name", "_law_need", "_law_other"] ["_law_shape_here"] (defScope (top 32)) := ⟨rfl, rfl, rfl, by decide +kernel, rfl, by decide +kernel, by decide +kernel⟩
theorem ok__law_corners (pa : Nat → Addr) : DOk (T pa) CG 29 ⟨"_law_corners", top 32, G__law_corners pa, ["_law_shape_here"]⟩ := ⟨⟨_, rfl, rfl, rfl, rfl, fun F => d__law_corners pa F⟩, sc__law_corners, fun i hi => by simp [G__law_corners] at hi; rcases hi with rfl | rfl <;> exact Nat.le_of_ble_eq_true rfl, rfl, rfl, rfl, rfl, fun n P q h => by cases h⟩
theorem sc__law_reads : FnScope ["_law_reader", "_law_writer", "_law_value_here"] ["_law_reader", "_law_writer"] (defScope (top 33)) := ⟨rfl, rfl, rfl, by decide +kernel, rfl, by decide +kernel, by decide +kernel⟩
theorem ok__law_reads (pa : Nat → Addr) : DOk (T pa) CG 30 ⟨"_law_reads", top 33, G__law_reads pa, ["_law_reader", "_law_writer"]⟩ := ⟨⟨_, rfl, rfl, rfl, rfl, fun F => d__law_reads pa F⟩, sc__law_reads, fun i hi => by simp [G__law_reads] at hi, rfl, rfl, rfl, rfl, fun n P q h => by cases h⟩
theorem sc_law : FnScope ["_law_script", "_law_bag_here", "_law_turn", "_law_shape_here", "_law_others", "_law_k", "_law_other", "_law_reader", "_law_writer", "_law_due", "_law_told"] ["_law_script"] (defScope (top 34)) := ⟨rfl, rfl, rfl, by decide +kernel, rfl, by decide +kernel, by decide +kernel⟩
theorem ok_law (pa : Nat → Addr) : DOk (T pa) CG 31 ⟨"law", top 34, G_law pa, ["_law_script"]⟩ := ⟨⟨_, rfl, rfl, rfl, rfl, fun F => d_law pa F⟩, sc_law, fun i hi => by simp [G_law] at hi, rfl, rfl, rfl, rfl, fun n P q h => by cases h⟩
theorem dOk (pa : Nat → Addr) : ∀ j d, (ds pa)[j]? = some d → DOk (T pa) CG j d
  | 0, d, h => by cases h; exact ok_row_of pa
  | 1, d, h => by cases h; exact ok_least_value pa
  | 2, d, h => by cases h; exact ok_reads pa
  | 3, d, h => by cases h; exact ok_against pa
  | 4, d, h => by cases h; exact ok_against_plain pa
  | 5, d, h => by cases h; exact ok_against_list pa
  | 6, d, h => by cases h; exact ok_against_either pa
  | 7, d, h => by cases h; exact ok_with_pair pa
  | 8, d, h => by cases h; exact ok_against_record pa
  | 9, d, h => by cases h; exact ok__law_cell_at pa
  | 10, d, h => by cases h; exact ok__law_draws pa
  | 11, d, h => by cases h; exact ok__law_from pa
  | 12, d, h => by cases h; exact ok__law_bag pa
  | 13, d, h => by cases h; exact ok__law_bags pa
  | 14, d, h => by cases h; exact ok__law_take pa
  | 15, d, h => by cases h; exact ok__law_names pa
  | 16, d, h => by cases h; exact ok__law_leaf pa
  | 17, d, h => by cases h; exact ok__law_shape pa
  | 18, d, h => by cases h; exact ok__law_value pa
  | 19, d, h => by cases h; exact ok__law_near_leaf pa
  | 20, d, h => by cases h; exact ok__law_near pa
  | 21, d, h => by cases h; exact ok__law_near_fields pa
  | 22, d, h => by cases h; exact ok__law_is_name pa
  | 23, d, h => by cases h; exact ok__law_rows_right pa
  | 24, d, h => by cases h; exact ok__law_is_value pa
  | 25, d, h => by cases h; exact ok__law_letters pa
  | 26, d, h => by cases h; exact ok__law_taken pa
  | 27, d, h => by cases h; exact ok__law_taken_list pa
  | 28, d, h => by cases h; exact ok__law_taken_record pa
  | 29, d, h => by cases h; exact ok__law_corners pa
  | 30, d, h => by cases h; exact ok__law_reads pa
  | 31, d, h => by cases h; exact ok_law pa
  | n + 32, d, h => by cases h
def tf : List He.Defn := [("with_pair", none), ("_law_near", none), ("_law_near_fields", none)]
def paOf (K : Frag) : Nat → Addr := fun i => ((tf.map (He.cT K)).getD i (0, 0)).2
abbrev dd (x : Str) (i : Nat) : He.DefD := ⟨(x, none), x, x, defArgs (top i), defBody (top i), defScope (top i), [], []⟩
def fnL : List He.DefD := [dd "row_of" 1, dd "least_value" 2, dd "reads" 4, dd "against" 5, dd "against_plain" 6, dd "against_list" 7, dd "against_either" 8, dd "with_pair" 9, dd "against_record" 10, dd "_law_cell_at" 12, dd "_law_draws" 13, dd "_law_from" 14, dd "_law_bag" 15, dd "_law_bags" 16, dd "_law_take" 17, dd "_law_names" 18, dd "_law_leaf" 19, dd "_law_shape" 20, dd "_law_value" 21, dd "_law_near_leaf" 22, dd "_law_near" 23, dd "_law_near_fields" 24, dd "_law_is_name" 25, dd "_law_rows_right" 26, dd "_law_is_value" 27, dd "_law_letters" 28, dd "_law_taken" 29, dd "_law_taken_list" 30, dd "_law_taken_record" 31, dd "_law_corners" 32, dd "_law_reads" 33, dd "law" 34]
def faA : List He.Fa := [.glo "row_of", .glo "least_value", .glo "reads", .glo "against", .glo "against_plain", .glo "against_list", .glo "against_either", .glo "with_pair", .glo "against_record", .glo "_law_cell_at", .glo "_law_draws", .glo "_law_from", .glo "_law_bag", .glo "_law_bags", .glo "_law_take", .glo "_law_names", .glo "_law_leaf", .glo "_law_shape", .glo "_law_value", .glo "_law_near_leaf", .glo "_law_near", .glo "_law_near_fields", .glo "_law_is_name", .glo "_law_rows_right", .glo "_law_is_value", .glo "_law_letters", .glo "_law_taken", .glo "_law_taken_list", .glo "_law_taken_record", .glo "_law_corners", .glo "_law_reads", .glo "law"]
def faB : List He.Fa := []
def fa : List He.Fa := faA ++ (faB ++ gFree.map .free)
def ts : List He.Tab := []
def exB (K : Frag) : Bool := decide ((f0 tf.length (paOf K) 0).Nodup)
abbrev R0 : PySem.W.OpenRow := PySem.W.OpenLaw.row PySem.Challenge.rw_shapehall_k04_which_shapes_read
abbrev hk : PySem.W.Hook := He.hookX 4 fa fnL ts tf exB
def ob (s : PySem.W.SharedT) : He.AlX := He.obsX 4 fa fnL ts tf exB (HandSHeadRun.getT s)
theorem ob_eq (s : PySem.W.SharedT) : ob s = hk.obs s.abs := He.obsX_eq (HandSHeadRun.getT_eq s)
def loose0 : List Str := ["row_of", "least_value", "reads", "against", "against_plain", "against_list", "against_either", "with_pair", "against_record", "_law_cell_at", "_law_draws", "_law_from", "_law_bag", "_law_bags", "_law_take", "_law_names", "_law_leaf", "_law_shape", "_law_value", "_law_near_leaf", "_law_near", "_law_near_fields", "_law_is_name", "_law_rows_right", "_law_is_value", "_law_letters", "_law_taken", "_law_taken_list", "_law_taken_record", "_law_corners"]
def loose1 : List Str := ["_law_reads"]
abbrev loose : List Str := loose0 ++ loose1
theorem run (w : World) : HandSHeadRun.RunEq R0 (PySem.W.view R0.prog [34]) hk ob 4000 loose w   := PySem.W.byRow2 "special-get-raises" (P := fun w => HandSHeadRun.RunEq R0 (PySem.W.view R0.prog [34]) hk ob 4000 loose w) (fun w => by intro os; kernel_rfl) (fun w => by intro os; kernel_rfl) w
section
variable {w : World} {K : Frag} {h base : Heap} {mg : Str → Option Value}
theorem hd_row_of (X : K.In h) (G : h.Ns mainGlobals mg) (c : He.SaysX fa fnL ts tf exB w h K) (TB : ∀ p ∈ tf.map (He.cT K), LamX.TabB base mg p.1 p.2) : ∃ f fd, DHd K mg base ⟨"row_of", top 1, G_row_of (paOf K), ["rows", "name"]⟩ f fd := by
  obtain ⟨fd, F⟩ := c.t.d.def_ 0 (d := dd "row_of" 1) rfl
  exact ⟨_, fd, F, He.glo_ok X G (c.t.d.fact 0 (f := .glo "row_of") rfl), F.bindsN fun _ _ _ _ _ _ us hl => match us, hl with | [_, _], _ => rfl, fun n P q h => by cases h⟩
theorem hd_least_value (X : K.In h) (G : h.Ns mainGlobals mg) (c : He.SaysX fa fnL ts tf exB w h K) (TB : ∀ p ∈ tf.map (He.cT K), LamX.TabB base mg p.1 p.2) : ∃ f fd, DHd K mg base ⟨"least_value", top 2, G_least_value (paOf K), ["shape"]⟩ f fd := by
  obtain ⟨fd, F⟩ := c.t.d.def_ 1 (d := dd "least_value" 2) rfl
  exact ⟨_, fd, F, He.glo_ok X G (c.t.d.fact 1 (f := .glo "least_value") rfl), F.bindsN fun _ _ _ _ _ _ us hl => match us, hl with | [_], _ => rfl, fun n P q h => by cases h⟩
theorem hd_reads (X : K.In h) (G : h.Ns mainGlobals mg) (c : He.SaysX fa fnL ts tf exB w h K) (TB : ∀ p ∈ tf.map (He.cT K), LamX.TabB base mg p.1 p.2) : ∃ f fd, DHd K mg base ⟨"reads", top 4, G_reads (paOf K), ["reader", "writer"]⟩ f fd := by
  obtain ⟨fd, F⟩ := c.t.d.def_ 2 (d := dd "reads" 4) rfl
  exact ⟨_, fd, F, He.glo_ok X G (c.t.d.fact 2 (f := .glo "reads") rfl), F.bindsN fun _ _ _ _ _ _ us hl => match us, hl with | [_, _], _ => rfl, fun n P q h => by cases h⟩
theorem hd_against (X : K.In h) (G : h.Ns mainGlobals mg) (c : He.SaysX fa fnL ts tf exB w h K) (TB : ∀ p ∈ tf.map (He.cT K), LamX.TabB base mg p.1 p.2) : ∃ f fd, DHd K mg base ⟨"against", top 5, G_against (paOf K), ["reader", "writer"]⟩ f fd := by
  obtain ⟨fd, F⟩ := c.t.d.def_ 3 (d := dd "against" 5) rfl
  exact ⟨_, fd, F, He.glo_ok X G (c.t.d.fact 3 (f := .glo "against") rfl), F.bindsN fun _ _ _ _ _ _ us hl => match us, hl with | [_, _], _ => rfl, fun n P q h => by cases h⟩
theorem hd_against_plain (X : K.In h) (G : h.Ns mainGlobals mg) (c : He.SaysX fa fnL ts tf exB w h K) (TB : ∀ p ∈ tf.map (He.cT K), LamX.TabB base mg p.1 p.2) : ∃ f fd, DHd K mg base ⟨"against_plain", top 6, G_against_plain (paOf K), ["reader", "writer"]⟩ f fd := by
  obtain ⟨fd, F⟩ := c.t.d.def_ 4 (d := dd "against_plain" 6) rfl
  exact ⟨_, fd, F, He.glo_ok X G (c.t.d.fact 4 (f := .glo "against_plain") rfl), F.bindsN fun _ _ _ _ _ _ us hl => match us, hl with | [_, _], _ => rfl, fun n P q h => by cases h⟩
theorem hd_against_list (X : K.In h) (G : h.Ns mainGlobals mg) (c : He.SaysX fa fnL ts tf exB w h K) (TB : ∀ p ∈ tf.map (He.cT K), LamX.TabB base mg p.1 p.2) : ∃ f fd, DHd K mg base ⟨"against_list", top 7, G_against_list (paOf K), ["reader", "writer"]⟩ f fd := by
  obtain ⟨fd, F⟩ := c.t.d.def_ 5 (d := dd "against_list" 7) rfl
  exact ⟨_, fd, F, He.glo_ok X G (c.t.d.fact 5 (f := .glo "against_list") rfl), F.bindsN fun _ _ _ _ _ _ us hl => match us, hl with | [_, _], _ => rfl, fun n P q h => by cases h⟩
theorem hd_against_either (X : K.In h) (G : h.Ns mainGlobals mg) (c : He.SaysX fa fnL ts tf exB w h K) (TB : ∀ p ∈ tf.map (He.cT K), LamX.TabB base mg p.1 p.2) : ∃ f fd, DHd K mg base ⟨"against_either", top 8, G_against_either (paOf K), ["reader", "writer"]⟩ f fd := by
  obtain ⟨fd, F⟩ := c.t.d.def_ 6 (d := dd "against_either" 8) rfl
  exact ⟨_, fd, F, He.glo_ok X G (c.t.d.fact 6 (f := .glo "against_either") rfl), F.bindsN fun _ _ _ _ _ _ us hl => match us, hl with | [_, _], _ => rfl, fun n P q h => by cases h⟩
theorem hd_with_pair (X : K.In h) (G : h.Ns mainGlobals mg) (c : He.SaysX fa fnL ts tf exB w h K) (TB : ∀ p ∈ tf.map (He.cT K), LamX.TabB base mg p.1 p.2) : ∃ f fd, DHd K mg base ⟨"with_pair", top 9, G_with_pair (paOf K), ["value", "name", "thing"]⟩ f fd := by
  obtain ⟨fd, F⟩ := c.t.d.def_ 7 (d := dd "with_pair" 9) rfl
  exact ⟨_, fd, F, He.glo_ok X G (c.t.d.fact 7 (f := .glo "with_pair") rfl), F.bindsN fun _ _ _ _ _ _ us hl => match us, hl with | [_, _, _], _ => rfl, fun n P q h => by cases h; exact lam_of F (TB _ (List.mem_of_getElem? (i := 0) rfl))⟩
theorem hd_against_record (X : K.In h) (G : h.Ns mainGlobals mg) (c : He.SaysX fa fnL ts tf exB w h K) (TB : ∀ p ∈ tf.map (He.cT K), LamX.TabB base mg p.1 p.2) : ∃ f fd, DHd K mg base ⟨"against_record", top 10, G_against_record (paOf K), ["reader", "writer"]⟩ f fd := by
  obtain ⟨fd, F⟩ := c.t.d.def_ 8 (d := dd "against_record" 10) rfl
  exact ⟨_, fd, F, He.glo_ok X G (c.t.d.fact 8 (f := .glo "against_record") rfl), F.bindsN fun _ _ _ _ _ _ us hl => match us, hl with | [_, _], _ => rfl, fun n P q h => by cases h⟩
theorem hd__law_cell_at (X : K.In h) (G : h.Ns mainGlobals mg) (c : He.SaysX fa fnL ts tf exB w h K) (TB : ∀ p ∈ tf.map (He.cT K), LamX.TabB base mg p.1 p.2) : ∃ f fd, DHd K mg base ⟨"_law_cell_at", top 12, G__law_cell_at (paOf K), ["_law_script", "_law_k"]⟩ f fd := by
  obtain ⟨fd, F⟩ := c.t.d.def_ 9 (d := dd "_law_cell_at" 12) rfl
  exact ⟨_, fd, F, He.glo_ok X G (c.t.d.fact 9 (f := .glo "_law_cell_at") rfl), F.bindsN fun _ _ _ _ _ _ us hl => match us, hl with | [_, _], _ => rfl, fun n P q h => by cases h⟩
theorem hd__law_draws (X : K.In h) (G : h.Ns mainGlobals mg) (c : He.SaysX fa fnL ts tf exB w h K) (TB : ∀ p ∈ tf.map (He.cT K), LamX.TabB base mg p.1 p.2) : ∃ f fd, DHd K mg base ⟨"_law_draws", top 13, G__law_draws (paOf K), ["_law_cell", "_law_many", "_law_size"]⟩ f fd := by
  obtain ⟨fd, F⟩ := c.t.d.def_ 10 (d := dd "_law_draws" 13) rfl
  exact ⟨_, fd, F, He.glo_ok X G (c.t.d.fact 10 (f := .glo "_law_draws") rfl), F.bindsN fun _ _ _ _ _ _ us hl => match us, hl with | [_, _, _], _ => rfl, fun n P q h => by cases h⟩
theorem hd__law_from (X : K.In h) (G : h.Ns mainGlobals mg) (c : He.SaysX fa fnL ts tf exB w h K) (TB : ∀ p ∈ tf.map (He.cT K), LamX.TabB base mg p.1 p.2) : ∃ f fd, DHd K mg base ⟨"_law_from", top 14, G__law_from (paOf K), ["_law_thing", "_law_least", "_law_top"]⟩ f fd := by
  obtain ⟨fd, F⟩ := c.t.d.def_ 11 (d := dd "_law_from" 14) rfl
  exact ⟨_, fd, F, He.glo_ok X G (c.t.d.fact 11 (f := .glo "_law_from") rfl), F.bindsN fun _ _ _ _ _ _ us hl => match us, hl with | [_, _, _], _ => rfl, fun n P q h => by cases h⟩
theorem hd__law_bag (X : K.In h) (G : h.Ns mainGlobals mg) (c : He.SaysX fa fnL ts tf exB w h K) (TB : ∀ p ∈ tf.map (He.cT K), LamX.TabB base mg p.1 p.2) : ∃ f fd, DHd K mg base ⟨"_law_bag", top 15, G__law_bag (paOf K), ["_law_script", "_law_k"]⟩ f fd := by
  obtain ⟨fd, F⟩ := c.t.d.def_ 12 (d := dd "_law_bag" 15) rfl
  exact ⟨_, fd, F, He.glo_ok X G (c.t.d.fact 12 (f := .glo "_law_bag") rfl), F.bindsN fun _ _ _ _ _ _ us hl => match us, hl with | [_, _], _ => rfl, fun n P q h => by cases h⟩
theorem hd__law_bags (X : K.In h) (G : h.Ns mainGlobals mg) (c : He.SaysX fa fnL ts tf exB w h K) (TB : ∀ p ∈ tf.map (He.cT K), LamX.TabB base mg p.1 p.2) : ∃ f fd, DHd K mg base ⟨"_law_bags", top 16, G__law_bags (paOf K), ["_law_script", "_law_limit"]⟩ f fd := by
  obtain ⟨fd, F⟩ := c.t.d.def_ 13 (d := dd "_law_bags" 16) rfl
  exact ⟨_, fd, F, He.glo_ok X G (c.t.d.fact 13 (f := .glo "_law_bags") rfl), F.bindsN fun _ _ _ _ _ _ us hl => match us, hl with | [_, _], _ => rfl, fun n P q h => by cases h⟩
theorem hd__law_take (X : K.In h) (G : h.Ns mainGlobals mg) (c : He.SaysX fa fnL ts tf exB w h K) (TB : ∀ p ∈ tf.map (He.cT K), LamX.TabB base mg p.1 p.2) : ∃ f fd, DHd K mg base ⟨"_law_take", top 17, G__law_take (paOf K), ["_law_bag_here", "_law_many"]⟩ f fd := by
  obtain ⟨fd, F⟩ := c.t.d.def_ 14 (d := dd "_law_take" 17) rfl
  exact ⟨_, fd, F, He.glo_ok X G (c.t.d.fact 14 (f := .glo "_law_take") rfl), F.bindsN fun _ _ _ _ _ _ us hl => match us, hl with | [_, _], _ => rfl, fun n P q h => by cases h⟩
theorem hd__law_names (X : K.In h) (G : h.Ns mainGlobals mg) (c : He.SaysX fa fnL ts tf exB w h K) (TB : ∀ p ∈ tf.map (He.cT K), LamX.TabB base mg p.1 p.2) : ∃ f fd, DHd K mg base ⟨"_law_names", top 18, G__law_names (paOf K), ["_law_bag_here", "_law_some", "_law_most"]⟩ f fd := by
  obtain ⟨fd, F⟩ := c.t.d.def_ 15 (d := dd "_law_names" 18) rfl
  exact ⟨_, fd, F, He.glo_ok X G (c.t.d.fact 15 (f := .glo "_law_names") rfl), F.bindsN fun _ _ _ _ _ _ us hl => match us, hl with | [_, _, _], _ => rfl, fun n P q h => by cases h⟩
theorem hd__law_leaf (X : K.In h) (G : h.Ns mainGlobals mg) (c : He.SaysX fa fnL ts tf exB w h K) (TB : ∀ p ∈ tf.map (He.cT K), LamX.TabB base mg p.1 p.2) : ∃ f fd, DHd K mg base ⟨"_law_leaf", top 19, G__law_leaf (paOf K), ["_law_bag_here"]⟩ f fd := by
  obtain ⟨fd, F⟩ := c.t.d.def_ 16 (d := dd "_law_leaf" 19) rfl
  exact ⟨_, fd, F, He.glo_ok X G (c.t.d.fact 16 (f := .glo "_law_leaf") rfl), F.bindsN fun _ _ _ _ _ _ us hl => match us, hl with | [_], _ => rfl, fun n P q h => by cases h⟩
theorem hd__law_shape (X : K.In h) (G : h.Ns mainGlobals mg) (c : He.SaysX fa fnL ts tf exB w h K) (TB : ∀ p ∈ tf.map (He.cT K), LamX.TabB base mg p.1 p.2) : ∃ f fd, DHd K mg base ⟨"_law_shape", top 20, G__law_shape (paOf K), ["_law_bag_here", "_law_deep"]⟩ f fd := by
  obtain ⟨fd, F⟩ := c.t.d.def_ 17 (d := dd "_law_shape" 20) rfl
  exact ⟨_, fd, F, He.glo_ok X G (c.t.d.fact 17 (f := .glo "_law_shape") rfl), F.bindsN fun _ _ _ _ _ _ us hl => match us, hl with | [_, _], _ => rfl, fun n P q h => by cases h⟩
theorem hd__law_value (X : K.In h) (G : h.Ns mainGlobals mg) (c : He.SaysX fa fnL ts tf exB w h K) (TB : ∀ p ∈ tf.map (He.cT K), LamX.TabB base mg p.1 p.2) : ∃ f fd, DHd K mg base ⟨"_law_value", top 21, G__law_value (paOf K), ["_law_bag_here", "_law_shape_here"]⟩ f fd := by
  obtain ⟨fd, F⟩ := c.t.d.def_ 18 (d := dd "_law_value" 21) rfl
  exact ⟨_, fd, F, He.glo_ok X G (c.t.d.fact 18 (f := .glo "_law_value") rfl), F.bindsN fun _ _ _ _ _ _ us hl => match us, hl with | [_, _], _ => rfl, fun n P q h => by cases h⟩
theorem hd__law_near_leaf (X : K.In h) (G : h.Ns mainGlobals mg) (c : He.SaysX fa fnL ts tf exB w h K) (TB : ∀ p ∈ tf.map (He.cT K), LamX.TabB base mg p.1 p.2) : ∃ f fd, DHd K mg base ⟨"_law_near_leaf", top 22, G__law_near_leaf (paOf K), ["_law_bag_here", "_law_shape_here"]⟩ f fd := by
  obtain ⟨fd, F⟩ := c.t.d.def_ 19 (d := dd "_law_near_leaf" 22) rfl
  exact ⟨_, fd, F, He.glo_ok X G (c.t.d.fact 19 (f := .glo "_law_near_leaf") rfl), F.bindsN fun _ _ _ _ _ _ us hl => match us, hl with | [_, _], _ => rfl, fun n P q h => by cases h⟩
theorem hd__law_near (X : K.In h) (G : h.Ns mainGlobals mg) (c : He.SaysX fa fnL ts tf exB w h K) (TB : ∀ p ∈ tf.map (He.cT K), LamX.TabB base mg p.1 p.2) : ∃ f fd, DHd K mg base ⟨"_law_near", top 23, G__law_near (paOf K), ["_law_bag_here", "_law_shape_here"]⟩ f fd := by
  obtain ⟨fd, F⟩ := c.t.d.def_ 20 (d := dd "_law_near" 23) rfl
  exact ⟨_, fd, F, He.glo_ok X G (c.t.d.fact 20 (f := .glo "_law_near") rfl), F.bindsN fun _ _ _ _ _ _ us hl => match us, hl with | [_, _], _ => rfl, fun n P q h => by cases h; exact lam_of F (TB _ (List.mem_of_getElem? (i := 1) rfl))⟩
theorem hd__law_near_fields (X : K.In h) (G : h.Ns mainGlobals mg) (c : He.SaysX fa fnL ts tf exB w h K) (TB : ∀ p ∈ tf.map (He.cT K), LamX.TabB base mg p.1 p.2) : ∃ f fd, DHd K mg base ⟨"_law_near_fields", top 24, G__law_near_fields (paOf K), ["_law_bag_here", "_law_fields"]⟩ f fd := by
  obtain ⟨fd, F⟩ := c.t.d.def_ 21 (d := dd "_law_near_fields" 24) rfl
  exact ⟨_, fd, F, He.glo_ok X G (c.t.d.fact 21 (f := .glo "_law_near_fields") rfl), F.bindsN fun _ _ _ _ _ _ us hl => match us, hl with | [_, _], _ => rfl, fun n P q h => by cases h; exact lam_of F (TB _ (List.mem_of_getElem? (i := 2) rfl))⟩
theorem hd__law_is_name (X : K.In h) (G : h.Ns mainGlobals mg) (c : He.SaysX fa fnL ts tf exB w h K) (TB : ∀ p ∈ tf.map (He.cT K), LamX.TabB base mg p.1 p.2) : ∃ f fd, DHd K mg base ⟨"_law_is_name", top 25, G__law_is_name (paOf K), ["_law_thing"]⟩ f fd := by
  obtain ⟨fd, F⟩ := c.t.d.def_ 22 (d := dd "_law_is_name" 25) rfl
  exact ⟨_, fd, F, He.glo_ok X G (c.t.d.fact 22 (f := .glo "_law_is_name") rfl), F.bindsN fun _ _ _ _ _ _ us hl => match us, hl with | [_], _ => rfl, fun n P q h => by cases h⟩
theorem hd__law_rows_right (X : K.In h) (G : h.Ns mainGlobals mg) (c : He.SaysX fa fnL ts tf exB w h K) (TB : ∀ p ∈ tf.map (He.cT K), LamX.TabB base mg p.1 p.2) : ∃ f fd, DHd K mg base ⟨"_law_rows_right", top 26, G__law_rows_right (paOf K), ["_law_thing", "_law_least", "_law_most", "_law_many"]⟩ f fd := by
  obtain ⟨fd, F⟩ := c.t.d.def_ 23 (d := dd "_law_rows_right" 26) rfl
  exact ⟨_, fd, F, He.glo_ok X G (c.t.d.fact 23 (f := .glo "_law_rows_right") rfl), F.bindsN fun _ _ _ _ _ _ us hl => match us, hl with | [_, _, _, _], _ => rfl, fun n P q h => by cases h⟩
theorem hd__law_is_value (X : K.In h) (G : h.Ns mainGlobals mg) (c : He.SaysX fa fnL ts tf exB w h K) (TB : ∀ p ∈ tf.map (He.cT K), LamX.TabB base mg p.1 p.2) : ∃ f fd, DHd K mg base ⟨"_law_is_value", top 27, G__law_is_value (paOf K), ["_law_shape_here", "_law_thing"]⟩ f fd := by
  obtain ⟨fd, F⟩ := c.t.d.def_ 24 (d := dd "_law_is_value" 27) rfl
  exact ⟨_, fd, F, He.glo_ok X G (c.t.d.fact 24 (f := .glo "_law_is_value") rfl), F.bindsN fun _ _ _ _ _ _ us hl => match us, hl with | [_, _], _ => rfl, fun n P q h => by cases h⟩
theorem hd__law_letters (X : K.In h) (G : h.Ns mainGlobals mg) (c : He.SaysX fa fnL ts tf exB w h K) (TB : ∀ p ∈ tf.map (He.cT K), LamX.TabB base mg p.1 p.2) : ∃ f fd, DHd K mg base ⟨"_law_letters", top 28, G__law_letters (paOf K), ["_law_text"]⟩ f fd := by
  obtain ⟨fd, F⟩ := c.t.d.def_ 25 (d := dd "_law_letters" 28) rfl
  exact ⟨_, fd, F, He.glo_ok X G (c.t.d.fact 25 (f := .glo "_law_letters") rfl), F.bindsN fun _ _ _ _ _ _ us hl => match us, hl with | [_], _ => rfl, fun n P q h => by cases h⟩
theorem hd__law_taken (X : K.In h) (G : h.Ns mainGlobals mg) (c : He.SaysX fa fnL ts tf exB w h K) (TB : ∀ p ∈ tf.map (He.cT K), LamX.TabB base mg p.1 p.2) : ∃ f fd, DHd K mg base ⟨"_law_taken", top 29, G__law_taken (paOf K), ["_law_shape_here", "_law_thing", "_law_path"]⟩ f fd := by
  obtain ⟨fd, F⟩ := c.t.d.def_ 26 (d := dd "_law_taken" 29) rfl
  exact ⟨_, fd, F, He.glo_ok X G (c.t.d.fact 26 (f := .glo "_law_taken") rfl), F.bindsN fun _ _ _ _ _ _ us hl => match us, hl with | [_, _, _], _ => rfl, fun n P q h => by cases h⟩
theorem hd__law_taken_list (X : K.In h) (G : h.Ns mainGlobals mg) (c : He.SaysX fa fnL ts tf exB w h K) (TB : ∀ p ∈ tf.map (He.cT K), LamX.TabB base mg p.1 p.2) : ∃ f fd, DHd K mg base ⟨"_law_taken_list", top 30, G__law_taken_list (paOf K), ["_law_shape_here", "_law_thing", "_law_path"]⟩ f fd := by
  obtain ⟨fd, F⟩ := c.t.d.def_ 27 (d := dd "_law_taken_list" 30) rfl
  exact ⟨_, fd, F, He.glo_ok X G (c.t.d.fact 27 (f := .glo "_law_taken_list") rfl), F.bindsN fun _ _ _ _ _ _ us hl => match us, hl with | [_, _, _], _ => rfl, fun n P q h => by cases h⟩
theorem hd__law_taken_record (X : K.In h) (G : h.Ns mainGlobals mg) (c : He.SaysX fa fnL ts tf exB w h K) (TB : ∀ p ∈ tf.map (He.cT K), LamX.TabB base mg p.1 p.2) : ∃ f fd, DHd K mg base ⟨"_law_taken_record", top 31, G__law_taken_record (paOf K), ["_law_shape_here", "_law_thing", "_law_path"]⟩ f fd := by
  obtain ⟨fd, F⟩ := c.t.d.def_ 28 (d := dd "_law_taken_record" 31) rfl
  exact ⟨_, fd, F, He.glo_ok X G (c.t.d.fact 28 (f := .glo "_law_taken_record") rfl), F.bindsN fun _ _ _ _ _ _ us hl => match us, hl with | [_, _, _], _ => rfl, fun n P q h => by cases h⟩
theorem hd__law_corners (X : K.In h) (G : h.Ns mainGlobals mg) (c : He.SaysX fa fnL ts tf exB w h K) (TB : ∀ p ∈ tf.map (He.cT K), LamX.TabB base mg p.1 p.2) : ∃ f fd, DHd K mg base ⟨"_law_corners", top 32, G__law_corners (paOf K), ["_law_shape_here"]⟩ f fd := by
  obtain ⟨fd, F⟩ := c.t.d.def_ 29 (d := dd "_law_corners" 32) rfl
  exact ⟨_, fd, F, He.glo_ok X G (c.t.d.fact 29 (f := .glo "_law_corners") rfl), F.bindsN fun _ _ _ _ _ _ us hl => match us, hl with | [_], _ => rfl, fun n P q h => by cases h⟩
theorem hd__law_reads (X : K.In h) (G : h.Ns mainGlobals mg) (c : He.SaysX fa fnL ts tf exB w h K) (TB : ∀ p ∈ tf.map (He.cT K), LamX.TabB base mg p.1 p.2) : ∃ f fd, DHd K mg base ⟨"_law_reads", top 33, G__law_reads (paOf K), ["_law_reader", "_law_writer"]⟩ f fd := by
  obtain ⟨fd, F⟩ := c.t.d.def_ 30 (d := dd "_law_reads" 33) rfl
  exact ⟨_, fd, F, He.glo_ok X G (c.t.d.fact 30 (f := .glo "_law_reads") rfl), F.bindsN fun _ _ _ _ _ _ us hl => match us, hl with | [_, _], _ => rfl, fun n P q h => by cases h⟩
theorem hd_law (X : K.In h) (G : h.Ns mainGlobals mg) (c : He.SaysX fa fnL ts tf exB w h K) (TB : ∀ p ∈ tf.map (He.cT K), LamX.TabB base mg p.1 p.2) : ∃ f fd, DHd K mg base ⟨"law", top 34, G_law (paOf K), ["_law_script"]⟩ f fd := by
  obtain ⟨fd, F⟩ := c.t.d.def_ 31 (d := dd "law" 34) rfl
  exact ⟨_, fd, F, He.glo_ok X G (c.t.d.fact 31 (f := .glo "law") rfl), F.bindsN fun _ _ _ _ _ _ us hl => match us, hl with | [_], _ => rfl, fun n P q h => by cases h⟩
theorem hd_all (X : K.In h) (G : h.Ns mainGlobals mg) (c : He.SaysX fa fnL ts tf exB w h K) (TB : ∀ p ∈ tf.map (He.cT K), LamX.TabB base mg p.1 p.2) : ∀ d ∈ ds (paOf K), ∃ f fd, DHd K mg base d f fd := by
  intro d hd
  obtain ⟨j, hj⟩ := List.getElem?_of_mem hd
  match j, hj with
  | 0, h => cases h; exact hd_row_of X G c TB
  | 1, h => cases h; exact hd_least_value X G c TB
  | 2, h => cases h; exact hd_reads X G c TB
  | 3, h => cases h; exact hd_against X G c TB
  | 4, h => cases h; exact hd_against_plain X G c TB
  | 5, h => cases h; exact hd_against_list X G c TB
  | 6, h => cases h; exact hd_against_either X G c TB
  | 7, h => cases h; exact hd_with_pair X G c TB
  | 8, h => cases h; exact hd_against_record X G c TB
  | 9, h => cases h; exact hd__law_cell_at X G c TB
  | 10, h => cases h; exact hd__law_draws X G c TB
  | 11, h => cases h; exact hd__law_from X G c TB
  | 12, h => cases h; exact hd__law_bag X G c TB
  | 13, h => cases h; exact hd__law_bags X G c TB
  | 14, h => cases h; exact hd__law_take X G c TB
  | 15, h => cases h; exact hd__law_names X G c TB
  | 16, h => cases h; exact hd__law_leaf X G c TB
  | 17, h => cases h; exact hd__law_shape X G c TB
  | 18, h => cases h; exact hd__law_value X G c TB
  | 19, h => cases h; exact hd__law_near_leaf X G c TB
  | 20, h => cases h; exact hd__law_near X G c TB
  | 21, h => cases h; exact hd__law_near_fields X G c TB
  | 22, h => cases h; exact hd__law_is_name X G c TB
  | 23, h => cases h; exact hd__law_rows_right X G c TB
  | 24, h => cases h; exact hd__law_is_value X G c TB
  | 25, h => cases h; exact hd__law_letters X G c TB
  | 26, h => cases h; exact hd__law_taken X G c TB
  | 27, h => cases h; exact hd__law_taken_list X G c TB
  | 28, h => cases h; exact hd__law_taken_record X G c TB
  | 29, h => cases h; exact hd__law_corners X G c TB
  | 30, h => cases h; exact hd__law_reads X G c TB
  | 31, h => cases h; exact hd_law X G c TB
  | n + 32, h => cases h
theorem gh_all (X : K.In h) (G : h.Ns mainGlobals mg) (c : He.SaysX fa fnL ts tf exB w h K) : GHd K w mg CG := by
  refine ⟨fun x hx => He.free_ok X G (c.t.d.facts (List.mem_append_right _ (List.mem_append_right _ (List.mem_map_of_mem hx)))), fun p hp => ?_, fun p hp => ?_⟩
  · obtain ⟨j, hj⟩ := List.getElem?_of_mem hp
    match j, hj with
    | n + 0, h => cases h
  · cases hp
theorem fns_ok (pa : Nat → Addr) : ∀ p ∈ CG.fns, ∃ d, (ds pa)[p.2.1]? = some d ∧ d.name = p.1 ∧ p.2.2 = false := by
  intro p hp
  obtain ⟨j, hj⟩ := List.getElem?_of_mem (show p ∈ gFns from hp)
  match j, hj with
  | 0, h => cases h; exact ⟨_, rfl, rfl, rfl⟩
  | 1, h => cases h; exact ⟨_, rfl, rfl, rfl⟩
  | 2, h => cases h; exact ⟨_, rfl, rfl, rfl⟩
  | 3, h => cases h; exact ⟨_, rfl, rfl, rfl⟩
  | 4, h => cases h; exact ⟨_, rfl, rfl, rfl⟩
  | 5, h => cases h; exact ⟨_, rfl, rfl, rfl⟩
  | 6, h => cases h; exact ⟨_, rfl, rfl, rfl⟩
  | 7, h => cases h; exact ⟨_, rfl, rfl, rfl⟩
  | 8, h => cases h; exact ⟨_, rfl, rfl, rfl⟩
  | 9, h => cases h; exact ⟨_, rfl, rfl, rfl⟩
  | 10, h => cases h; exact ⟨_, rfl, rfl, rfl⟩
  | 11, h => cases h; exact ⟨_, rfl, rfl, rfl⟩
  | 12, h => cases h; exact ⟨_, rfl, rfl, rfl⟩
  | 13, h => cases h; exact ⟨_, rfl, rfl, rfl⟩
  | 14, h => cases h; exact ⟨_, rfl, rfl, rfl⟩
  | 15, h => cases h; exact ⟨_, rfl, rfl, rfl⟩
  | 16, h => cases h; exact ⟨_, rfl, rfl, rfl⟩
  | 17, h => cases h; exact ⟨_, rfl, rfl, rfl⟩
  | 18, h => cases h; exact ⟨_, rfl, rfl, rfl⟩
  | 19, h => cases h; exact ⟨_, rfl, rfl, rfl⟩
  | 20, h => cases h; exact ⟨_, rfl, rfl, rfl⟩
  | 21, h => cases h; exact ⟨_, rfl, rfl, rfl⟩
  | 22, h => cases h; exact ⟨_, rfl, rfl, rfl⟩
  | 23, h => cases h; exact ⟨_, rfl, rfl, rfl⟩
  | 24, h => cases h; exact ⟨_, rfl, rfl, rfl⟩
  | 25, h => cases h; exact ⟨_, rfl, rfl, rfl⟩
  | 26, h => cases h; exact ⟨_, rfl, rfl, rfl⟩
  | 27, h => cases h; exact ⟨_, rfl, rfl, rfl⟩
  | 28, h => cases h; exact ⟨_, rfl, rfl, rfl⟩
  | 29, h => cases h; exact ⟨_, rfl, rfl, rfl⟩
  | 30, h => cases h; exact ⟨_, rfl, rfl, rfl⟩
  | 31, h => cases h; exact ⟨_, rfl, rfl, rfl⟩
  | n + 32, h => cases h
end
theorem law_at {w : World} {K : Frag} {h : Heap} {mg : Str → Option Value} {fa' : Addr} (X : K.In h) (G : h.Ns mainGlobals mg) (hfa : mg ("law" : Str) = some (.ref fa')) (c : He.SaysX fa fnL ts tf exB w h K) : LawAtG PySem.Challenge.rw_shapehall_k04_which_shapes_read w K CX0 200 63 "_law_script" mg fa' h := by
  obtain ⟨fd, F⟩ := c.t.d.def_ 31 (d := dd "law" 34) rfl
  have e := hfa.symm.trans (He.glo_ok X G (c.t.d.fact 31 (f := .glo "law") rfl))
  cases e
  have hcs : ∀ p ∈ tf.map (He.cT K), ∃ q ∈ tf, He.cT K q = p := fun p hp => List.mem_map.mp hp
  refine ⟨fd, tf.map (He.cT K), spF K (T (paOf K)) 200 ix_law, fun p hp => ?_, fun s u => ?_, fun H a ns hl hH hS => ?_, fun base XB GB TB => ?_⟩
  · obtain ⟨q, hq, rfl⟩ := hcs p hp
    exact ⟨c.empty q hq, c.out q hq, PySem.W.codeHd_of_K X (c.hd q hq)⟩
  · exact (FunD.bindsA (ps := ["_law_script"]) F fun _ _ _ _ _ _ us hl => match us, hl with | [_], _ => rfl) s [u] rfl
  · obtain ⟨st', e⟩ := law_true (paOf K) ns hl
    refine spF_law (qs := lamQs) rfl (of_decide_eq_true c.more) (fun j hj => ?_) hS hl e
    have hj' : j < (tf.map (He.cT K)).length := hj
    have e2 : paOf K j = ((tf.map (He.cT K))[j]'hj').2 := by
      show ((tf.map (He.cT K)).getD j (0, 0)).2 = _
      rw [List.getD_eq_getElem?_getD, List.getElem?_eq_getElem hj']
      rfl
    rw [e2]
    exact hH _ (List.getElem_mem hj')
  · have D : DHd K mg base ⟨"law", top 34, G_law (paOf K), ["_law_script"]⟩ (He.fAd K ("law", none)) fd := ⟨F, hfa, F.bindsN fun _ _ _ _ _ _ us hl => match us, hl with | [_], _ => rfl, fun n P q h => by cases h⟩
    exact all_ok (dOk (paOf K)) (hd_all X G c TB) (gh_all X G c) (fns_ok (paOf K)) 200 31 _ rfl _ _ D
end SH
open PySem PySem.W PySem.Calls PyProof.Rows in
theorem PySem.Challenge.cw_shapehall_k04_which_shapes_read_holds : PySem.Challenge.rw_shapehall_k04_which_shapes_read.Holds := by
  w_on; o_law
  refine HandSHeadRun.head_any (r := OpenLaw.row PySem.Challenge.rw_shapehall_k04_which_shapes_read) (q := view (OpenLaw.row PySem.Challenge.rw_shapehall_k04_which_shapes_read).prog [34]) (H := SH.hk) (ob := SH.ob) (M := 4000) (loose := SH.loose) (d := HandSHeadRun.topDef (OpenLaw.row PySem.Challenge.rw_shapehall_k04_which_shapes_read).prog 34) (kwd := []) SH.ob_eq
    (by kernel_rfl) (fun s => by kernel_rfl) SH.run (by kernel_rfl) (by kernel_rfl) (by kernel_rfl) (by rfl) (by first | assumption | decide +kernel) (by decide +kernel) ⟨rfl, rfl, rfl, rfl, rfl, by decide +kernel⟩ ?hw ?hc
  case hw => w_witness2
  case hc =>
    refine SH.walkG (l := PySem.Challenge.rw_shapehall_k04_which_shapes_read) (n := 63) (k := 200) (x := "_law_script") (CX := fun _ => L2.CX0) rfl (by decide) (by kernel_rfl) ⟨rfl, by decide, by decide⟩ ?F (fun _ _ _ _ _ z => z)
    intro w mg fa h Y G hmg0
    obtain ⟨K, KX, c⟩ := Y
    have hmg : mg ("law" : PySem.Str) = some (.ref fa) := by
      have e : (HandSHeadRun.topDef (OpenLaw.row PySem.Challenge.rw_shapehall_k04_which_shapes_read).prog 34).name = ("law" : PySem.Str) := by kernel_rfl
      rw [← e]
      exact hmg0
    exact ⟨K, KX, SH.law_at KX G hmg c⟩

