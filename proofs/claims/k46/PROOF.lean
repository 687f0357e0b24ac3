import PyProof.Rows.All
import Wide.All
import OpenK.AllK
import Wide.FinOn
import HandS.ForMost
import HandS.TupAny
import HandS.List
import HandS.Deep
import HandS.Style
import HandS.Strs
import HandS.Text
import HandS.IsInst
import HandS.Conv
import HandS.NoneIn
import HandS.Zip
import HandS.Rev
import HandS.Walk
import HandS.Comp
import HandS.DictComp
import HandS.Iter
import KE.GoesEnum
import KE.GoesZip
import HandS.More
import HandS.Codes
import HandS.Words
import HandS.Ends
import HandS.Dict
import KE.GoesEnumKw
import KE.KDictZip
import PyProof.ListNew
import PyProof.AttrMiss
import HandS.TupSets
import HandS.SortRule
import PyProof.TupleOfSeq
import PyProof.CompUse
import PySem.Challenge.RW_heapfriends_k46_who_must_go
import PyProof.P3Eq
set_option Elab.async false
set_option linter.all false
set_option maxHeartbeats 4000000
set_option maxRecDepth 100000
/-! HF: plain data, and what a program reckons over it. No heap here. -/
namespace HF
open PySem (Str)

/-- a key of a dict -/
inductive DK where
  | i (z : Int) | s (x : Str) | t (ks : List (Sum Int Str))
  deriving DecidableEq

/-- plain data; lst and dct bear a mark: true while one name alone holds it (it may be changed then) -/
inductive D where
  | non | bl (b : Bool) | int (z : Int) | str (x : Str)
  | lst (o : Bool) (xs : List D) | tup (xs : List D) | dct (o : Bool) (kvs : List (DK × D)) | box (n : Nat)
  /-- the law's script -/
  | scr (zs : List Int)

instance : Inhabited D := ⟨.non⟩

mutual
/-- all marks taken away -/
def share : D → D
  | .lst _ xs => .lst false (shareL xs)
  | .tup xs => .tup (shareL xs)
  | .dct _ kvs => .dct false (shareK kvs)
  | .non => .non
  | .bl b => .bl b
  | .int z => .int z
  | .str x => .str x
  | .box n => .box n
  | .scr z => .scr z
def shareL : List D → List D
  | [] => []
  | x :: xs => share x :: shareL xs
def shareK : List (DK × D) → List (DK × D)
  | [] => []
  | (k, x) :: xs => (k, share x) :: shareK xs
end
/-- the marks within taken away -/
def shareIn : D → D
  | .lst o xs => .lst o (shareL xs)
  | .dct o kvs => .dct o (shareK kvs)
  | d => share d

mutual
/-- no mark within -/
def still : D → Bool
  | .lst o xs => !o && stillL xs
  | .tup xs => stillL xs
  | .dct o kvs => !o && stillK kvs
  | .non => true
  | .bl _ => true
  | .int _ => true
  | .str _ => true
  | .box _ => true
  | .scr _ => true
def stillL : List D → Bool
  | [] => true
  | x :: xs => still x && stillL xs
def stillK : List (DK × D) → Bool
  | [] => true
  | (_, x) :: xs => still x && stillK xs
end
/-- no mark below the top -/
def stillIn : D → Bool
  | .lst _ xs => stillL xs
  | .dct _ kvs => stillK kvs
  | d => still d

/-! ### the machine -/
abbrev Bx := List (List Int)
abbrev M (α : Type) := Bx → Option (α × Bx)
def ret {α : Type} (a : α) : M α := fun b => some (a, b)
def fail {α : Type} : M α := fun _ => none
def bnd {α β : Type} (m : M α) (f : α → M β) : M β := fun b => match m b with
  | none => none
  | some (a, b') => f a b'
def lift {α : Type} (o : Option α) : M α := fun b => match o with
  | none => none
  | some a => some (a, b)

/-- what a name holds: nothing; what may stand elsewhere too; what it alone holds -/
inductive Sl where
  | no | sh (d : D) | ow (d : D)
abbrev Env := List Sl
abbrev Ev := Env → M D
inductive Fl where
  | nx | rt (d : D) | bk | ct
abbrev Sv := Env → M (Fl × Env)
abbrev Fn := List D → M D

/-! ### names -/
def eV (i : Nat) : Ev := fun r => match r[i]? with
  | some (.sh d) => ret d
  | _ => fail
def eB (i : Nat) : Ev := fun r => match r[i]? with
  | some (.sh d) => ret d
  | some (.ow d) => ret d
  | _ => fail
def eI (i : Nat) : Ev := fun r => match r[i]? with
  | some (.sh d) => ret d
  | some (.ow d) => if stillIn d then ret d else fail
  | _ => fail
def eC (d : D) : Ev := fun _ => ret d
/-- the value of an expression that is no name, its inner parts given to all -/
def eInn (f : Ev) : Ev := fun r => bnd (f r) fun d => ret (shareIn d)
def eSh (f : Ev) : Ev := fun r => bnd (f r) fun d => ret (share d)

/-! ### operators, built-ins: by plain functions -/
def e1 (op : D → Option D) (f : Ev) : Ev := fun r => bnd (f r) fun x => lift (op x)
def e2 (op : D → D → Option D) (f g : Ev) : Ev := fun r => bnd (f r) fun x => bnd (g r) fun y => lift (op x y)
def evs : List Ev → Env → M (List D)
  | [], _ => ret []
  | f :: fs, r => bnd (f r) fun x => bnd (evs fs r) fun xs => ret (x :: xs)
def eN (op : List D → Option D) (fs : List Ev) : Ev := fun r => bnd (evs fs r) fun xs => lift (op xs)
def eAnd (f g : Ev) : Ev := fun r => bnd (f r) fun x => match x with
  | .bl true => g r
  | .bl false => ret (.bl false)
  | _ => fail
def eOr (f g : Ev) : Ev := fun r => bnd (f r) fun x => match x with
  | .bl true => ret (.bl true)
  | .bl false => g r
  | _ => fail
def eIte (c f g : Ev) : Ev := fun r => bnd (c r) fun x => match x with
  | .bl true => f r
  | .bl false => g r
  | _ => fail
/-- a < b < c: b once -/
def eChain (op op' : D → D → Option D) (f g h : Ev) : Ev := fun r => bnd (f r) fun x => bnd (g r) fun y => bnd (lift (op x y)) fun z => match z with
  | .bl true => bnd (h r) fun w => lift (op' y w)
  | .bl false => ret (.bl false)
  | _ => fail
/-- a def that is called: what is handed in is given to all; one that hands back no object leaves what was lent -/
def isScal : D → Bool
  | .non => true
  | .bl _ => true
  | .int _ => true
  | .str _ => true
  | _ => false
def eCall (fn : Fn) (fs : List Ev) : Ev := fun r => bnd (evs fs r) fun xs => fn xs
def eCallS (fn : Fn) (fs : List Ev) : Ev := fun r => bnd (evs fs r) fun xs => bnd (fn (shareL xs)) fun d => if isScal d then ret d else fail

/-! ### displays -/
def eTup (fs : List Ev) : Ev := eN (fun xs => some (.tup xs)) fs
def eLst (fs : List Ev) : Ev := eN (fun xs => some (.lst true xs)) fs
/-- a list of ints that lies in the store -/
def intsOf : List D → Option (List Int)
  | [] => some []
  | .int z :: r => (intsOf r).map (z :: ·)
  | _ => none
def eBox (fs : List Ev) : Ev := fun r => bnd (evs fs r) fun xs => match intsOf xs with
  | some zs => fun b => some (.box b.length, b ++ [zs])
  | none => fail

/-! ### what is walked -/
def signs (x : Str) : List D := x.cps.toList.map fun c => .str ⟨#[c]⟩
def itemsD : D → Option (List D)
  | .lst _ xs => some xs
  | .tup xs => some xs
  | _ => none
def keyD : DK → D
  | .i z => .int z
  | .s x => .str x
  | .t ks => .tup (ks.map fun k => match k with | .inl z => .int z | .inr x => .str x)
/-- the target of a walk: one name, or a pair of names -/
inductive Tg where
  | one (i : Nat) | two (i j : Nat) | three (i j k : Nat)
def bindT (t : Tg) (d : D) (r : Env) : Option Env := match t, d with
  | .one i, d => some (r.set i (.sh d))
  | .two i j, .tup [x, y] => some ((r.set i (.sh x)).set j (.sh y))
  | .two i j, .lst false [x, y] => some ((r.set i (.sh x)).set j (.sh y))
  | .three i j k, .tup [x, y, z] => some (((r.set i (.sh x)).set j (.sh y)).set k (.sh z))
  | .three i j k, .lst false [x, y, z] => some (((r.set i (.sh x)).set j (.sh y)).set k (.sh z))
  | _, _ => none
abbrev Ws := Env → M (List D)
def itD (op : D → Option (List D)) (f : Ev) : Ws := fun r => bnd (f r) fun x => lift (op x)
def it2 (op : D → D → Option (List D)) (f g : Ev) : Ws := fun r => bnd (f r) fun x => bnd (g r) fun y => lift (op x y)
def wipeE (r : Env) : List Nat → Env
  | [] => r
  | v :: vs => (wipeE r vs).set v .no

/-! ### comprehensions -/
def lcGo (t : Tg) (r : Env) (cond : Option Ev) (elt : Ev) : List D → List D → M D
  | [], acc => ret (.lst true acc)
  | x :: xs, acc => match bindT t x r with
    | none => fail
    | some r' => match cond with
      | none => if acc.length < PySem.sizeLine then bnd (elt r') fun d => lcGo t r cond elt xs (acc ++ [d]) else fail
      | some c => bnd (c r') fun b => match b with
        | .bl true => if acc.length < PySem.sizeLine then bnd (elt r') fun d => lcGo t r cond elt xs (acc ++ [d]) else fail
        | .bl false => lcGo t r cond elt xs acc
        | _ => fail
def eLc (own : List Nat) (t : Tg) (it : Ws) (cond : Option Ev) (elt : Ev) : Ev := fun r => bnd (it r) fun xs => lcGo t (wipeE r own) cond elt xs []

/-! ### statements -/
def sSeq (s t : Sv) : Sv := fun r => bnd (s r) fun p => match p with
  | (.nx, r') => t r'
  | q => ret q
def sNx : Sv := fun r => ret (.nx, r)
/-- name = e, the name never changed in place; .. changed in place somewhere -/
def sSet (i : Nat) (f : Ev) : Sv := fun r => bnd (f r) fun d => ret (.nx, r.set i (.sh d))
def sSetO (i : Nat) (f : Ev) : Sv := fun r => bnd (f r) fun d => ret (.nx, r.set i (.ow d))
def sRet (f : Ev) : Sv := fun r => bnd (f r) fun d => ret (.rt d, r)
/-- return name: what it alone holds is handed on -/
def sRetV (i : Nat) : Sv := fun r => match r[i]? with
  | some (.sh d) => ret (.rt d, r)
  | some (.ow d) => ret (.rt d, r)
  | _ => fail
def sRetN : Sv := fun r => ret (.rt .non, r)
def sDrop (f : Ev) : Sv := fun r => bnd (f r) fun _ => ret (.nx, r)
def sIf (c : Ev) (s t : Sv) : Sv := fun r => bnd (c r) fun x => match x with
  | .bl true => s r
  | .bl false => t r
  | _ => fail
/-- what is read as a value is no more its name's own -/
def give (r : Env) (i : Nat) : Env := match r[i]? with
  | some (.ow d) => r.set i (.sh (share d))
  | _ => r
def gives (r : Env) : List Nat → Env
  | [] => r
  | i :: is => gives (give r i) is
def sPre (is : List Nat) (s : Sv) : Sv := fun r => s (gives r is)
def forGo (t : Tg) (body : Sv) : List D → Env → M (Fl × Env)
  | [], r => ret (.nx, r)
  | x :: xs, r => match bindT t x r with
    | none => fail
    | some r' => bnd (body r') fun p => match p with
      | (.nx, r2) => forGo t body xs r2
      | (.ct, r2) => forGo t body xs r2
      | (.bk, r2) => ret (.nx, r2)
      | (.rt d, r2) => ret (.rt d, r2)
def sFor (t : Tg) (it : Ws) (body : Sv) : Sv := fun r => bnd (it r) fun xs => forGo t body xs r
def whileGo (c : Ev) (body : Sv) : Nat → Env → M (Fl × Env)
  | 0, _ => fail
  | n + 1, r => bnd (c r) fun x => match x with
    | .bl false => ret (.nx, r)
    | .bl true => bnd (body r) fun p => match p with
      | (.nx, r2) => whileGo c body n r2
      | (.ct, r2) => whileGo c body n r2
      | (.bk, r2) => ret (.nx, r2)
      | (.rt d, r2) => ret (.rt d, r2)
    | _ => fail
/-- at most so many turns, whatever they are -/
def sWhile (n : Nat) (c : Ev) (body : Sv) : Sv := whileGo c body n
/-- a name's own object changed in place by a plain function of it and what is handed in -/
def sMut (i : Nat) (op : D → List D → Option D) (fs : List Ev) : Sv := fun r => bnd (evs fs r) fun xs => match r[i]? with
  | some (.ow d) => bnd (lift (op d xs)) fun d' => ret (.nx, r.set i (.ow d'))
  | _ => fail
/-- box[k] = e, k written -/
def sBoxSet (i : Nat) (k : Nat) (f : Ev) : Sv := fun r => bnd (f r) fun x => match r[i]?, x with
  | some (.sh (.box n)), .int z => fun b => match b[n]? with
    | some zs => if k < zs.length then some ((.nx, r), b.set n (zs.set k z)) else none
    | none => none
  | _, _ => fail
/-- box[k] -/
def eBoxGet (i : Nat) (k : Nat) : Ev := fun r => match r[i]? with
  | some (.sh (.box n)) => fun b => match b[n]? with
    | some zs => match zs[k]? with
      | some z => some (.int z, b)
      | none => none
    | none => none
  | _ => fail
/-- a def's run: n names besides its parameters -/
def runFn (n : Nat) (body : Sv) : Fn := fun args => bnd (body (args.map Sl.sh ++ List.replicate n Sl.no)) fun p => match p.1 with
  | .nx => ret .non
  | .rt d => ret d
  | _ => fail
end HF

/-! HF: how plain data lies in the abstract heap. -/
namespace HF
open PySem PySem.Spec L2
open PyProof.Rows hiding St

/-- the script: known, or the module's -/
def LK (K : PySem.W.Frag) (H : Hp) (a : Addr) (vs : List V) : Prop :=
  (∃ o, H a = some (.frz o (.lst vs))) ∨
    ∃ (o : Obj) (its : Array Value) (n : Nat), K.lookup a = some o ∧ o.cls = .type "list" ∧ o.dict = none ∧ o.data = .seq its n ∧ its.size ≤ sizeLine ∧ Vals vs its.toList
theorem LK.sq {K : PySem.W.Frag} {H : Hp} {a : Addr} {vs : List V} (h : LK K H a vs) : SqL K H a vs := by
  rcases h with ⟨o, h⟩ | h
  · exact .inl (.inr ⟨o, h⟩)
  · exact .inr h
/-- a list that stays as it is -/
def LS (H : Hp) (a : Addr) (vs : List V) : Prop := ∃ o, H a = some (.frz o (.lst vs))
theorem LS.sq {K : PySem.W.Frag} {H : Hp} {a : Addr} {vs : List V} (h : LS H a vs) : SqL K H a vs := let ⟨o, h⟩ := h; .inl (.inr ⟨o, h⟩)
theorem LS.rd {H : Hp} {a : Addr} {vs : List V} (h : LS H a vs) : Rd H a (.lst vs) := let ⟨o, h⟩ := h; .inr ⟨o, h⟩

/-- a tuple that has no dict -/
def TQ (K : PySem.W.Frag) (H : Hp) (a : Addr) (vs : List V) : Prop := (∃ o : Obj, o.dict = none ∧ H a = some (.frz o (.tup vs))) ∨
  ∃ (o : Obj) (its : Array Value) (n : Nat), K.lookup a = some o ∧ o.cls = .type "tuple" ∧ o.dict = none ∧ o.data = .seq its n ∧ its.size ≤ sizeLine ∧ Vals vs its.toList
theorem TQ.sqT {K : PySem.W.Frag} {H : Hp} {a : Addr} {vs : List V} (h : TQ K H a vs) : SqT K H a vs := by
  rcases h with ⟨o, _, h⟩ | ⟨o, its, n, h1, h2, _, h4, h5, h6⟩
  · exact .inl (.inr ⟨o, h⟩)
  · exact .inr ⟨o, its, n, h1, h2, h4, h5, h6⟩
theorem TQ.of {K : PySem.W.Frag} {H H' : Hp} {a : Addr} {vs : List V} (h : TQ K H a vs) (k : ∀ o : Obj, H a = some (.frz o (.tup vs)) → H' a = some (.frz o (.tup vs))) : TQ K H' a vs := h.imp (fun ⟨o, d, e⟩ => ⟨o, d, k o e⟩) fun z => z
def keyDK : Key → DK
  | .inl z => .i z
  | .inr x => .s x
/-- a dict's content: keys are ints and texts -/
def IsDct (u : HO) (kvs : List (DK × V)) : Prop := ∃ k : List (Key × V), u = .dK k ∧ kvs = k.map fun p => (keyDK p.1, p.2)

def okK : DK → Bool
  | .s x => PyData.strOk x
  | .i _ => true
  | .t _ => true
mutual
/-- the value v bears the data d; the last list: what it alone holds -/
inductive Rp (K : PySem.W.Frag) (H : Hp) (io : List Addr) : D → V → List Addr → Prop where
  | non : Rp K H io .non .non []
  | bl (b : Bool) : Rp K H io (.bl b) (.bl b) []
  | int (z : Int) : Rp K H io (.int z) (.int z) []
  | str {x : Str} : PyData.strOk x = true → Rp K H io (.str x) (.str x) []
  | lstS {a : Addr} {vs : List V} {ds : List D} : LS H a vs → RpL K H io ds vs [] → Rp K H io (.lst false ds) (.ref a) []
  | lstO {a : Addr} {vs : List V} {ds : List D} {os : List Addr} : H a = some (.lst vs) → a ∉ io → RpL K H io ds vs os → Rp K H io (.lst true ds) (.ref a) (a :: os)
  | tup {a : Addr} {vs : List V} {ds : List D} {os : List Addr} : TQ K H a vs → RpL K H io ds vs os → Rp K H io (.tup ds) (.ref a) os
  | dctS {a : Addr} {o : Obj} {u : HO} {kvs : List (DK × V)} {kds : List (DK × D)} : H a = some (.frz o u) → IsDct u kvs → RpK K H io kds kvs [] → Rp K H io (.dct false kds) (.ref a) []
  | dctO {a : Addr} {u : HO} {kvs : List (DK × V)} {kds : List (DK × D)} {os : List Addr} : H a = some u → IsDct u kvs → RpK K H io kds kvs os → Rp K H io (.dct true kds) (.ref a) (a :: os)
  | box {n : Nat} {a : Addr} : io[n]? = some a → Rp K H io (.box n) (.ref a) []
  | scr {a : Addr} {zs : List Int} : LK K H a (zs.map V.int) → Rp K H io (.scr zs) (.ref a) []
inductive RpL (K : PySem.W.Frag) (H : Hp) (io : List Addr) : List D → List V → List Addr → Prop where
  | nil : RpL K H io [] [] []
  | cons {d : D} {v : V} {ds : List D} {vs : List V} {os ps : List Addr} : Rp K H io d v os → RpL K H io ds vs ps → RpL K H io (d :: ds) (v :: vs) (os ++ ps)
inductive RpK (K : PySem.W.Frag) (H : Hp) (io : List Addr) : List (DK × D) → List (DK × V) → List Addr → Prop where
  | nil : RpK K H io [] [] []
  | cons {k : DK} {d : D} {v : V} {ds : List (DK × D)} {vs : List (DK × V)} {os ps : List Addr} : okK k = true → Rp K H io d v os → RpK K H io ds vs ps → RpK K H io ((k, d) :: ds) ((k, v) :: vs) (os ++ ps)
end

/-- the boxes are lists -/
def BL (io : List Addr) (H : Hp) : Prop := ∀ a ∈ io, ∃ vs, H a = some (.lst vs)
/-- from one heap to a later one: all but the boxes is kept, boxes come behind -/
structure Kp (io : List Addr) (H : Hp) (io' : List Addr) (H' : Hp) : Prop where
  keep : ∀ a o, H a = some o → a ∉ io → H' a = some o
  pre : io <+: io'
  new : ∀ a ∈ io', a ∉ io → H a = none
theorem Kp.refl (io : List Addr) (H : Hp) : Kp io H io H := ⟨fun _ _ h _ => h, List.prefix_refl _, fun a h n => absurd h n⟩
theorem Kp.trans {io io1 io2 : List Addr} {H H1 H2 : Hp} (a : Kp io H io1 H1) (b : Kp io1 H1 io2 H2) (bl : BL io H) : Kp io H io2 H2 := by
  refine ⟨fun c o h n => ?_, a.pre.trans b.pre, fun c h n => ?_⟩
  · refine b.keep c o (a.keep c o h n) fun hm => ?_
    have := a.new c hm n
    rw [h] at this; cases this
  · by_cases h1 : c ∈ io1
    · exact a.new c h1 n
    · have q := b.new c h h1
      cases e : H c with
      | none => rfl
      | some o =>
        rw [a.keep c o e n] at q; cases q
theorem Kp.frz {io io' : List Addr} {H H' : Hp} {a : Addr} {o : Obj} {u : HO} (k : Kp io H io' H') (bl : BL io H) (h : H a = some (.frz o u)) : H' a = some (.frz o u) := by
  refine k.keep a _ h fun hm => ?_
  obtain ⟨vs, e⟩ := bl a hm
  rw [h] at e; cases e
theorem Kp.sqT {K : PySem.W.Frag} {io io' : List Addr} {H H' : Hp} {a : Addr} {vs : List V} (k : Kp io H io' H') (bl : BL io H) (h : SqT K H a vs) : SqT K H' a vs := by
  rcases h with (h | ⟨o, h⟩) | h
  · refine .inl (.inl (k.keep a _ h fun hm => ?_))
    obtain ⟨vs, e⟩ := bl a hm
    rw [h] at e; cases e
  · exact .inl (.inr ⟨o, k.frz bl h⟩)
  · exact .inr h
theorem Kp.ls {io io' : List Addr} {H H' : Hp} {a : Addr} {vs : List V} (k : Kp io H io' H') (bl : BL io H) (h : LS H a vs) : LS H' a vs := let ⟨o, h⟩ := h; ⟨o, k.frz bl h⟩
theorem Kp.lk {K : PySem.W.Frag} {io io' : List Addr} {H H' : Hp} {a : Addr} {vs : List V} (k : Kp io H io' H') (bl : BL io H) (h : LK K H a vs) : LK K H' a vs := by
  rcases h with ⟨o, h⟩ | h
  · exact .inl ⟨o, k.frz bl h⟩
  · exact .inr h
theorem Kp.notin {io io' : List Addr} {H H' : Hp} {a : Addr} {o : HO} (k : Kp io H io' H') (h : H a = some o) (n : a ∉ io) : a ∉ io' := fun hm => by
  have := k.new a hm n
  rw [h] at this; cases this
theorem IsDct.nlst {u : HO} {kvs : List (DK × V)} (h : IsDct u kvs) (vs : List V) : u ≠ .lst vs := by
  obtain ⟨k, e, _⟩ := h
  intro q; rw [q] at e; cases e
theorem IsDct.mut {u : HO} {kvs : List (DK × V)} (h : IsDct u kvs) : Mut (some u) := by
  obtain ⟨k, e, _⟩ := h
  rw [e]; trivial

mutual
theorem Rp.keep {K : PySem.W.Frag} {io io' : List Addr} {H H' : Hp} (k : Kp io H io' H') (bl : BL io H) : ∀ {d : D} {v : V} {os : List Addr}, Rp K H io d v os → Rp K H' io' d v os
  | _, _, _, .non => .non
  | _, _, _, .bl b => .bl b
  | _, _, _, .int z => .int z
  | _, _, _, .str h => .str h
  | _, _, _, .lstS h r => .lstS (k.ls bl h) (RpL.keep k bl r)
  | _, _, _, .lstO h n r => .lstO (k.keep _ _ h n) (k.notin h n) (RpL.keep k bl r)
  | _, _, _, .tup h r => .tup (h.of fun _ e => k.frz bl e) (RpL.keep k bl r)
  | _, _, _, .dctS h e r => .dctS (k.frz bl h) e (RpK.keep k bl r)
  | _, _, _, .dctO h e r => .dctO (k.keep _ _ h fun hm => by
      obtain ⟨vs, q⟩ := bl _ hm
      rw [h] at q
      exact e.nlst vs (Option.some.inj q)) e (RpK.keep k bl r)
  | _, _, _, .box h => .box (by
      obtain ⟨t, e⟩ := k.pre
      rw [← e]
      rw [List.getElem?_append_left (List.getElem?_eq_some_iff.mp h).1]
      exact h)
  | _, _, _, .scr h => .scr (k.lk bl h)
theorem RpL.keep {K : PySem.W.Frag} {io io' : List Addr} {H H' : Hp} (k : Kp io H io' H') (bl : BL io H) : ∀ {ds : List D} {vs : List V} {os : List Addr}, RpL K H io ds vs os → RpL K H' io' ds vs os
  | _, _, _, .nil => .nil
  | _, _, _, .cons h r => .cons (Rp.keep k bl h) (RpL.keep k bl r)
theorem RpK.keep {K : PySem.W.Frag} {io io' : List Addr} {H H' : Hp} (k : Kp io H io' H') (bl : BL io H) : ∀ {ds : List (DK × D)} {vs : List (DK × V)} {os : List Addr}, RpK K H io ds vs os → RpK K H' io' ds vs os
  | _, _, _, .nil => .nil
  | _, _, _, .cons hk h r => .cons hk (Rp.keep k bl h) (RpK.keep k bl r)
end

/-! what is owned stands there, unfrozen, and is no box -/
def Ownd (H : Hp) (io : List Addr) (a : Addr) : Prop := a ∉ io ∧ ∃ u, H a = some u ∧ Mut (some u)
mutual
theorem Rp.ownd {K : PySem.W.Frag} {io : List Addr} {H : Hp} (bl : BL io H) : ∀ {d : D} {v : V} {os : List Addr}, Rp K H io d v os → ∀ a ∈ os, Ownd H io a
  | _, _, _, .non, _, h => nomatch h
  | _, _, _, .bl _, _, h => nomatch h
  | _, _, _, .int _, _, h => nomatch h
  | _, _, _, .str _, _, h => nomatch h
  | _, _, _, .lstS _ _, _, h => nomatch h
  | _, _, _, .lstO h n r, b, hb => by
    rcases List.mem_cons.mp hb with e | hb
    · subst e; exact ⟨n, _, h, trivial⟩
    · exact RpL.ownd bl r b hb
  | _, _, _, .tup _ r, b, hb => RpL.ownd bl r b hb
  | _, _, _, .dctS _ _ _, _, h => nomatch h
  | _, _, _, .dctO h e r, b, hb => by
    rcases List.mem_cons.mp hb with q | hb
    · subst q
      exact ⟨fun hm => by
        obtain ⟨vs, q⟩ := bl _ hm
        rw [h] at q
        exact e.nlst vs (Option.some.inj q), _, h, e.mut⟩
    · exact RpK.ownd bl r b hb
  | _, _, _, .box _, _, h => nomatch h
  | _, _, _, .scr _, _, h => nomatch h
theorem RpL.ownd {K : PySem.W.Frag} {io : List Addr} {H : Hp} (bl : BL io H) : ∀ {ds : List D} {vs : List V} {os : List Addr}, RpL K H io ds vs os → ∀ a ∈ os, Ownd H io a
  | _, _, _, .nil, _, h => nomatch h
  | _, _, _, .cons h r, b, hb => (List.mem_append.mp hb).elim (Rp.ownd bl h b) (RpL.ownd bl r b)
theorem RpK.ownd {K : PySem.W.Frag} {io : List Addr} {H : Hp} (bl : BL io H) : ∀ {ds : List (DK × D)} {vs : List (DK × V)} {os : List Addr}, RpK K H io ds vs os → ∀ a ∈ os, Ownd H io a
  | _, _, _, .nil, _, h => nomatch h
  | _, _, _, .cons hk h r, b, hb => (List.mem_append.mp hb).elim (Rp.ownd bl h b) (RpK.ownd bl r b)
end

/-! ### frozen -/
/-- H' is H with all of os frozen -/
structure Fz (os : List Addr) (H H' : Hp) : Prop where
  same : ∀ a, a ∉ os → H' a = H a
  frz : ∀ a ∈ os, ∃ u o, H a = some u ∧ Mut (some u) ∧ H' a = some (.frz o u)
theorem Fz.other {os : List Addr} {H H' : Hp} {a : Addr} {u : HO} (f : Fz os H H') (h : H a = some u) (n : ¬ Mut (some u)) : H' a = some u := by
  refine (f.same a fun hm => ?_).trans h
  obtain ⟨w, _, e, m, _⟩ := f.frz a hm
  rw [h] at e
  exact n (Option.some.inj e ▸ m)
theorem Fz.sqT {K : PySem.W.Frag} {os : List Addr} {H H' : Hp} {a : Addr} {vs : List V} (f : Fz os H H') (h : SqT K H a vs) : SqT K H' a vs := by
  rcases h with (h | ⟨o, h⟩) | h
  · exact .inl (.inl (f.other h fun z => z))
  · exact .inl (.inr ⟨o, f.other h fun z => z⟩)
  · exact .inr h
theorem Fz.ls {os : List Addr} {H H' : Hp} {a : Addr} {vs : List V} (f : Fz os H H') (h : LS H a vs) : LS H' a vs := let ⟨o, h⟩ := h; ⟨o, f.other h fun z => z⟩
theorem Fz.lk {K : PySem.W.Frag} {os : List Addr} {H H' : Hp} {a : Addr} {vs : List V} (f : Fz os H H') (h : LK K H a vs) : LK K H' a vs := by
  rcases h with ⟨o, h⟩ | h
  · exact .inl ⟨o, f.other h fun z => z⟩
  · exact .inr h
/-- what is not among the frozen ones bears what it bore -/
theorem Fz.kp {os : List Addr} {H H' : Hp} {a : Addr} {u : HO} (f : Fz os H H') (h : H a = some u) (n : a ∉ os) : H' a = some u := (f.same a n).trans h

mutual
/-- with all that it owns frozen it owns nothing -/
theorem Rp.fz {K : PySem.W.Frag} {io : List Addr} {H H' : Hp} {as : List Addr} (f : Fz as H H') : ∀ {d : D} {v : V} {os : List Addr}, Rp K H io d v os → (∀ a ∈ os, a ∈ as) → Rp K H' io (share d) v []
  | _, _, _, .non, _ => by rw [share]; exact .non
  | _, _, _, .bl b, _ => by rw [share]; exact .bl b
  | _, _, _, .int z, _ => by rw [share]; exact .int z
  | _, _, _, .str h, _ => by rw [share]; exact .str h
  | _, _, _, .lstS h r, _ => by rw [share]; exact .lstS (f.ls h) (RpL.fz f r fun _ z => nomatch z)
  | _, _, _, .lstO h n r, hs => by
    rw [share]
    obtain ⟨u, o, e, _, e'⟩ := f.frz _ (hs _ List.mem_cons_self)
    rw [h] at e; cases e
    exact .lstS ⟨o, e'⟩ (RpL.fz f r fun a ha => hs a (List.mem_cons_of_mem _ ha))
  | _, _, _, .tup h r, hs => by rw [share]; exact .tup (h.of fun _ e => f.other e fun z => z) (RpL.fz f r hs)
  | _, _, _, .dctS h e r, _ => by rw [share]; exact .dctS (f.other h fun z => z) e (RpK.fz f r fun _ z => nomatch z)
  | _, _, _, .dctO h e r, hs => by
    rw [share]
    obtain ⟨u, o, q, _, e'⟩ := f.frz _ (hs _ List.mem_cons_self)
    rw [h] at q; cases q
    exact .dctS e' e (RpK.fz f r fun a ha => hs a (List.mem_cons_of_mem _ ha))
  | _, _, _, .box h, _ => by rw [share]; exact .box h
  | _, _, _, .scr h, _ => by rw [share]; exact .scr (f.lk h)
theorem RpL.fz {K : PySem.W.Frag} {io : List Addr} {H H' : Hp} {as : List Addr} (f : Fz as H H') : ∀ {ds : List D} {vs : List V} {os : List Addr}, RpL K H io ds vs os → (∀ a ∈ os, a ∈ as) → RpL K H' io (shareL ds) vs []
  | _, _, _, .nil, _ => by rw [shareL]; exact .nil
  | _, _, _, .cons h r, hs => by
    rw [shareL]
    exact .cons (os := []) (ps := []) (Rp.fz f h fun a ha => hs a (List.mem_append_left _ ha)) (RpL.fz f r fun a ha => hs a (List.mem_append_right _ ha))
theorem RpK.fz {K : PySem.W.Frag} {io : List Addr} {H H' : Hp} {as : List Addr} (f : Fz as H H') : ∀ {ds : List (DK × D)} {vs : List (DK × V)} {os : List Addr}, RpK K H io ds vs os → (∀ a ∈ os, a ∈ as) → RpK K H' io (shareK ds) vs []
  | _, _, _, .nil, _ => by rw [shareK]; exact .nil
  | _, _, _, .cons hk h r, hs => by
    rw [shareK]
    exact .cons (os := []) (ps := []) hk (Rp.fz f h fun a ha => hs a (List.mem_append_left _ ha)) (RpK.fz f r fun a ha => hs a (List.mem_append_right _ ha))
end
mutual
/-- what owns none of the frozen ones is as it was -/
theorem Rp.fzo {K : PySem.W.Frag} {io : List Addr} {H H' : Hp} {as : List Addr} (f : Fz as H H') : ∀ {d : D} {v : V} {os : List Addr}, Rp K H io d v os → (∀ a ∈ os, a ∉ as) → Rp K H' io d v os
  | _, _, _, .non, _ => .non
  | _, _, _, .bl b, _ => .bl b
  | _, _, _, .int z, _ => .int z
  | _, _, _, .str h, _ => .str h
  | _, _, _, .lstS h r, _ => .lstS (f.ls h) (RpL.fzo f r fun _ z => nomatch z)
  | _, _, _, .lstO h n r, hs => .lstO (f.kp h (hs _ List.mem_cons_self)) n (RpL.fzo f r fun a ha => hs a (List.mem_cons_of_mem _ ha))
  | _, _, _, .tup h r, hs => .tup (h.of fun _ e => f.other e fun z => z) (RpL.fzo f r hs)
  | _, _, _, .dctS h e r, _ => .dctS (f.other h fun z => z) e (RpK.fzo f r fun _ z => nomatch z)
  | _, _, _, .dctO h e r, hs => .dctO (f.kp h (hs _ List.mem_cons_self)) e (RpK.fzo f r fun a ha => hs a (List.mem_cons_of_mem _ ha))
  | _, _, _, .box h, _ => .box h
  | _, _, _, .scr h, _ => .scr (f.lk h)
theorem RpL.fzo {K : PySem.W.Frag} {io : List Addr} {H H' : Hp} {as : List Addr} (f : Fz as H H') : ∀ {ds : List D} {vs : List V} {os : List Addr}, RpL K H io ds vs os → (∀ a ∈ os, a ∉ as) → RpL K H' io ds vs os
  | _, _, _, .nil, _ => .nil
  | _, _, _, .cons h r, hs => .cons (Rp.fzo f h fun a ha => hs a (List.mem_append_left _ ha)) (RpL.fzo f r fun a ha => hs a (List.mem_append_right _ ha))
theorem RpK.fzo {K : PySem.W.Frag} {io : List Addr} {H H' : Hp} {as : List Addr} (f : Fz as H H') : ∀ {ds : List (DK × D)} {vs : List (DK × V)} {os : List Addr}, RpK K H io ds vs os → (∀ a ∈ os, a ∉ as) → RpK K H' io ds vs os
  | _, _, _, .nil, _ => .nil
  | _, _, _, .cons hk h r, hs => .cons hk (Rp.fzo f h fun a ha => hs a (List.mem_append_left _ ha)) (RpK.fzo f r fun a ha => hs a (List.mem_append_right _ ha))
end
/-- at the machine: some owned things frozen -/
theorem inv_fz {X : Cx} {pins : List (Addr × Obj)} {σ : St} {s : Shared} : ∀ {os : List Addr} {H : Hp}, Inv X pins σ H s → os.Nodup → (∀ a ∈ os, ∃ u, H a = some u ∧ Mut (some u)) → ∃ H', Inv X pins σ H' s ∧ Fz os H H'
  | [], H, I, _, _ => ⟨H, I, fun _ _ => rfl, fun _ h => nomatch h⟩
  | a :: os, H, I, nd, ho => by
    obtain ⟨na, nd⟩ := List.nodup_cons.mp nd
    obtain ⟨u, e, m⟩ := ho a List.mem_cons_self
    obtain ⟨od, I1⟩ := I.lock e m
    have ho1 : ∀ b ∈ os, ∃ u', (upd H a (.frz od u)) b = some u' ∧ Mut (some u') := fun b hb => by
      obtain ⟨w, e1, m1⟩ := ho b (List.mem_cons_of_mem _ hb)
      exact ⟨w, (upd_ne (fun q : b = a => na (q ▸ hb))).trans e1, m1⟩
    obtain ⟨H', I2, f⟩ := inv_fz I1 nd ho1
    refine ⟨H', I2, fun b hb => ?_, fun b hb => ?_⟩
    · have h1 : b ≠ a := fun q => hb (q ▸ List.mem_cons_self)
      exact (f.same b fun q => hb (List.mem_cons_of_mem _ q)).trans (upd_ne h1)
    · rcases List.mem_cons.mp hb with q | hb
      · subst q
        exact ⟨u, od, e, m, (f.same b na).trans upd_same⟩
      · obtain ⟨w, o, e1, m1, e2⟩ := f.frz b hb
        rw [upd_ne (fun q : b = a => na (q ▸ hb))] at e1
        exact ⟨w, o, e1, m1, e2⟩

/-! ### the names and the boxes -/
inductive RpE (K : PySem.W.Frag) (H : Hp) (io : List Addr) : Env → St → List (List Addr) → Prop where
  | nil : RpE K H io [] [] []
  | no {ov : Option V} {r : Env} {σ : St} {oss : List (List Addr)} : RpE K H io r σ oss → RpE K H io (.no :: r) (ov :: σ) ([] :: oss)
  | sh {d : D} {v : V} {r : Env} {σ : St} {oss : List (List Addr)} : Rp K H io d v [] → RpE K H io r σ oss → RpE K H io (.sh d :: r) (some v :: σ) ([] :: oss)
  | ow {d : D} {v : V} {os : List Addr} {r : Env} {σ : St} {oss : List (List Addr)} : Rp K H io d v os → RpE K H io r σ oss → RpE K H io (.ow d :: r) (some v :: σ) (os :: oss)

structure SR (K : PySem.W.Frag) (io : List Addr) (b : Bx) (r : Env) (oss : List (List Addr)) (σ : St) (H : Hp) : Prop where
  len : io.length = b.length
  bx : ∀ (n : Nat) (a : Addr) (zs : List Int), io[n]? = some a → b[n]? = some zs → H a = some (.lst (zs.map V.int))
  nd : io.Nodup
  sl : RpE K H io r σ oss
  od : oss.flatten.Nodup
theorem SR.bl {K : PySem.W.Frag} {io : List Addr} {b : Bx} {r : Env} {oss : List (List Addr)} {σ : St} {H : Hp} (S : SR K io b r oss σ H) : BL io H := fun a ha => by
  obtain ⟨n, hn, e⟩ := List.mem_iff_getElem.mp ha
  have hb : n < b.length := S.len ▸ hn
  exact ⟨_, S.bx n a b[n] (by rw [List.getElem?_eq_getElem hn, e]) (List.getElem?_eq_getElem hb)⟩
theorem RpE.keep {K : PySem.W.Frag} {io io' : List Addr} {H H' : Hp} (k : Kp io H io' H') (bl : BL io H) : ∀ {r : Env} {σ : St} {oss : List (List Addr)}, RpE K H io r σ oss → RpE K H' io' r σ oss
  | _, _, _, .nil => .nil
  | _, _, _, .no r => .no (RpE.keep k bl r)
  | _, _, _, .sh h r => .sh (h.keep k bl) (RpE.keep k bl r)
  | _, _, _, .ow h r => .ow (h.keep k bl) (RpE.keep k bl r)
theorem RpE.ownd {K : PySem.W.Frag} {io : List Addr} {H : Hp} (bl : BL io H) : ∀ {r : Env} {σ : St} {oss : List (List Addr)}, RpE K H io r σ oss → ∀ a ∈ oss.flatten, Ownd H io a
  | _, _, _, .nil, _, h => nomatch h
  | _, _, _, .no r, b, hb => RpE.ownd bl r b (by simpa using hb)
  | _, _, _, .sh h r, b, hb => RpE.ownd bl r b (by simpa using hb)
  | _, _, _, .ow h r, b, hb => by
    rw [List.flatten_cons] at hb
    exact (List.mem_append.mp hb).elim (h.ownd bl b) (RpE.ownd bl r b)
theorem RpE.fzo {K : PySem.W.Frag} {io : List Addr} {H H' : Hp} {as : List Addr} (f : Fz as H H') : ∀ {r : Env} {σ : St} {oss : List (List Addr)}, RpE K H io r σ oss → (∀ a ∈ oss.flatten, a ∉ as) → RpE K H' io r σ oss
  | _, _, _, .nil, _ => .nil
  | _, _, _, .no r, h => .no (RpE.fzo f r fun a ha => h a (by simpa using ha))
  | _, _, _, .sh x r, h => .sh (x.fzo f fun _ z => nomatch z) (RpE.fzo f r fun a ha => h a (by simpa using ha))
  | _, _, _, .ow x r, h => .ow (x.fzo f fun a ha => h a (by rw [List.flatten_cons]; exact List.mem_append_left _ ha)) (RpE.fzo f r fun a ha => h a (by rw [List.flatten_cons]; exact List.mem_append_right _ ha))
/-- the same names and boxes a little later, where no box was changed -/
theorem SR.later {K : PySem.W.Frag} {io : List Addr} {b : Bx} {r : Env} {oss : List (List Addr)} {σ : St} {H H' : Hp} (S : SR K io b r oss σ H) (k : ∀ a o, H a = some o → H' a = some o) : SR K io b r oss σ H' :=
  ⟨S.len, fun n a zs e1 e2 => k a _ (S.bx n a zs e1 e2), S.nd, S.sl.keep ⟨fun a o h _ => k a o h, List.prefix_refl _, fun a h n => absurd h n⟩ S.bl, S.od⟩
theorem Kp.of {io : List Addr} {H H' : Hp} (k : ∀ a o, H a = some o → H' a = some o) : Kp io H io H' := ⟨fun a o h _ => k a o h, List.prefix_refl _, fun a h n => absurd h n⟩
theorem SR.fz {K : PySem.W.Frag} {io : List Addr} {b : Bx} {r : Env} {oss : List (List Addr)} {σ : St} {H H' : Hp} {as : List Addr} (S : SR K io b r oss σ H) (f : Fz as H H') (h1 : ∀ a ∈ as, a ∉ io) (h2 : ∀ a ∈ as, a ∉ oss.flatten) : SR K io b r oss σ H' :=
  ⟨S.len, fun n a zs e1 e2 => f.kp (S.bx n a zs e1 e2) fun hm => h1 a hm (List.mem_of_getElem? e1), S.nd, S.sl.fzo f fun a ha hm => h2 a hm ha, S.od⟩
/-- what a name holds -/
theorem RpE.get {K : PySem.W.Frag} {io : List Addr} {H : Hp} : ∀ {r : Env} {σ : St} {oss : List (List Addr)} {i : Nat} {x : Sl}, RpE K H io r σ oss → r[i]? = some x →
    (x = .no) ∨ (∃ d v, x = .sh d ∧ σ[i]? = some (some v) ∧ Rp K H io d v []) ∨ ∃ d v os, x = .ow d ∧ σ[i]? = some (some v) ∧ oss[i]? = some os ∧ Rp K H io d v os
  | _, _, _, _, _, .nil, e => by simp at e
  | _, _, _, 0, _, .no _, e => by simp at e; exact .inl e.symm
  | _, _, _, 0, _, .sh h _, e => by simp at e; exact .inr (.inl ⟨_, _, e.symm, rfl, h⟩)
  | _, _, _, 0, _, .ow h _, e => by simp at e; exact .inr (.inr ⟨_, _, _, e.symm, rfl, rfl, h⟩)
  | _, _, _, i + 1, _, .no r, e => by simpa using RpE.get r (i := i) (by simpa using e)
  | _, _, _, i + 1, _, .sh _ r, e => by simpa using RpE.get r (i := i) (by simpa using e)
  | _, _, _, i + 1, _, .ow _ r, e => by simpa using RpE.get r (i := i) (by simpa using e)
theorem RpE.lens {K : PySem.W.Frag} {io : List Addr} {H : Hp} : ∀ {r : Env} {σ : St} {oss : List (List Addr)}, RpE K H io r σ oss → r.length = σ.length ∧ r.length = oss.length
  | _, _, _, .nil => ⟨rfl, rfl⟩
  | _, _, _, .no r => by simpa using r.lens
  | _, _, _, .sh _ r => by simpa using r.lens
  | _, _, _, .ow _ r => by simpa using r.lens
/-- a name stored -/
theorem RpE.set {K : PySem.W.Frag} {io : List Addr} {H : Hp} : ∀ {r : Env} {σ : St} {oss : List (List Addr)} {i : Nat} {d : D} {v : V} {os : List Addr} , RpE K H io r σ oss → Rp K H io d v os → i < r.length → RpE K H io (r.set i (.ow d)) (σ.set i (some v)) (oss.set i os)
  | _, _, _, _, _, _, _, .nil, _, h => absurd h (Nat.not_lt_zero _)
  | _, _, _, 0, _, _, _, .no r, x, _ => .ow x r
  | _, _, _, 0, _, _, _, .sh _ r, x, _ => .ow x r
  | _, _, _, 0, _, _, _, .ow _ r, x, _ => .ow x r
  | _, _, _, i + 1, _, _, _, .no r, x, h => .no (RpE.set r x (Nat.lt_of_succ_lt_succ h))
  | _, _, _, i + 1, _, _, _, .sh y r, x, h => .sh y (RpE.set r x (Nat.lt_of_succ_lt_succ h))
  | _, _, _, i + 1, _, _, _, .ow y r, x, h => .ow y (RpE.set r x (Nat.lt_of_succ_lt_succ h))
theorem RpE.setS {K : PySem.W.Frag} {io : List Addr} {H : Hp} : ∀ {r : Env} {σ : St} {oss : List (List Addr)} {i : Nat} {d : D} {v : V}, RpE K H io r σ oss → Rp K H io d v [] → i < r.length → RpE K H io (r.set i (.sh d)) (σ.set i (some v)) (oss.set i [])
  | _, _, _, _, _, _, .nil, _, h => absurd h (Nat.not_lt_zero _)
  | _, _, _, 0, _, _, .no r, x, _ => .sh x r
  | _, _, _, 0, _, _, .sh _ r, x, _ => .sh x r
  | _, _, _, 0, _, _, .ow _ r, x, _ => .sh x r
  | _, _, _, i + 1, _, _, .no r, x, h => .no (RpE.setS r x (Nat.lt_of_succ_lt_succ h))
  | _, _, _, i + 1, _, _, .sh y r, x, h => .sh y (RpE.setS r x (Nat.lt_of_succ_lt_succ h))
  | _, _, _, i + 1, _, _, .ow y r, x, h => .ow y (RpE.setS r x (Nat.lt_of_succ_lt_succ h))
theorem mem_set_flat {os : List Addr} : ∀ {oss : List (List Addr)} {i : Nat} {a : Addr}, a ∈ (oss.set i os).flatten → a ∈ os ∨ a ∈ oss.flatten
  | [], _, _, h => by simp at h
  | x :: r, 0, _, h => by
    rw [List.set_cons_zero, List.flatten_cons] at h
    rw [List.flatten_cons]
    exact (List.mem_append.mp h).imp id fun z => List.mem_append_right _ z
  | x :: r, i + 1, _, h => by
    rw [List.set_cons_succ, List.flatten_cons] at h
    rw [List.flatten_cons]
    rcases List.mem_append.mp h with z | z
    · exact .inr (List.mem_append_left _ z)
    · exact (mem_set_flat z).imp id fun z => List.mem_append_right _ z
theorem nodup_set_flat {os : List Addr} (h1 : os.Nodup) : ∀ {oss : List (List Addr)} {i : Nat}, oss.flatten.Nodup → (∀ a ∈ os, a ∉ oss.flatten) → (oss.set i os).flatten.Nodup
  | [], _, h, _ => by simpa using h
  | x :: r, 0, h, h2 => by
    rw [List.flatten_cons] at h
    rw [List.set_cons_zero, List.flatten_cons]
    rw [List.nodup_append] at h ⊢
    exact ⟨h1, h.2.1, fun a ha b hb e => h2 a ha (by rw [List.flatten_cons]; exact List.mem_append_right _ (e ▸ hb))⟩
  | x :: r, i + 1, h, h2 => by
    rw [List.flatten_cons] at h
    rw [List.set_cons_succ, List.flatten_cons]
    rw [List.nodup_append] at h ⊢
    refine ⟨h.1, nodup_set_flat h1 h.2.1 fun a ha hm => h2 a ha (by rw [List.flatten_cons]; exact List.mem_append_right _ hm), fun a ha b hb e => ?_⟩
    rcases mem_set_flat hb with z | z
    · exact h2 b z (by rw [List.flatten_cons]; exact List.mem_append_left _ (e ▸ ha))
    · exact h.2.2 a ha b z e
/-- .. with all names and boxes -/
theorem SR.set {K : PySem.W.Frag} {io : List Addr} {b : Bx} {r : Env} {oss : List (List Addr)} {σ : St} {H : Hp} {i : Nat} {d : D} {v : V} {os : List Addr} (S : SR K io b r oss σ H) (x : Rp K H io d v os) (h1 : os.Nodup) (h2 : ∀ a ∈ os, a ∉ oss.flatten) (hi : i < r.length) :
    SR K io b (r.set i (.ow d)) (oss.set i os) (σ.set i (some v)) H := ⟨S.len, S.bx, S.nd, S.sl.set x hi, nodup_set_flat h1 S.od h2⟩
theorem SR.setS {K : PySem.W.Frag} {io : List Addr} {b : Bx} {r : Env} {oss : List (List Addr)} {σ : St} {H : Hp} {i : Nat} {d : D} {v : V} (S : SR K io b r oss σ H) (x : Rp K H io d v []) (hi : i < r.length) :
    SR K io b (r.set i (.sh d)) (oss.set i []) (σ.set i (some v)) H := ⟨S.len, S.bx, S.nd, S.sl.setS x hi, nodup_set_flat List.nodup_nil S.od fun _ h => nomatch h⟩
end HF

/-! HF: the rules over plain data, first part: names, operators, calls of built-ins, displays. -/
namespace HF
open PySem PySem.Spec L2
open PyProof.Rows hiding St

/-! ### weaker readings -/
theorem PE_wk {X : Cx} {e : Expr} {t t' : TE} (h : PE X e t) (w : ∀ σ H Q, t' σ H Q → t σ H Q) : PE X e t' := ⟨fun pins s σ H Q I q => h.run pins s σ H Q I (w σ H Q q)⟩
theorem PA_wk {X : Cx} {e : List Expr} {t t' : TA} (h : PA X e t) (w : ∀ σ H Q, t' σ H Q → t σ H Q) : PA X e t' := ⟨fun pos pins s σ H Q I q => h.run pos pins s σ H Q I (w σ H Q q)⟩
theorem PT_wk {X : Cx} {e : Expr} {t t' : TT} (h : PT X e t) (w : ∀ σ H Q, t' σ H Q → t σ H Q) : PT X e t' := ⟨fun pins s σ H Q I q => h.run pins s σ H Q I (w σ H Q q)⟩
theorem PW_wk {X : Cx} {e : Expr} {t t' : TT} (h : PW X e t) (w : ∀ σ H Q, t' σ H Q → t σ H Q) : PW X e t' := ⟨fun wh pins s σ H Q I q => h.run wh pins s σ H Q I (w σ H Q q)⟩
theorem PS_wk {X : Cx} {e : Stmt} {t t' : TS} (h : PS X e t) (w : ∀ D σ H, t' D σ H → t D σ H) : PS X e t' := ⟨fun pins s σ H D I q => h.run pins s σ H D I (w D σ H q)⟩
theorem PSs_wk {X : Cx} {e : List Stmt} {t t' : TS} (h : PSs X e t) (w : ∀ D σ H, t' D σ H → t D σ H) : PSs X e t' := ⟨fun pins s σ H D I q => h.run pins s σ H D I (w D σ H q)⟩
theorem PI_wk {X : Cx} {tg e : Expr} {t t' : TI} (h : PI X tg e t) (w : ∀ σ H R, t' σ H R → t σ H R) : PI X tg e t' := ⟨fun pins s σ H R I q => h.run pins s σ H R I (w σ H R q)⟩

/-! ### marks -/
mutual
theorem share_still : ∀ d : D, still (share d) = true
  | .non => by rw [share, still]
  | .bl _ => by rw [share, still]
  | .int _ => by rw [share, still]
  | .str _ => by rw [share, still]
  | .box _ => by rw [share, still]
  | .scr _ => by rw [share, still]
  | .lst _ xs => by rw [share, still, shareL_still xs]; rfl
  | .tup xs => by rw [share, still, shareL_still xs]
  | .dct _ xs => by rw [share, still, shareK_still xs]; rfl
theorem shareL_still : ∀ ds : List D, stillL (shareL ds) = true
  | [] => by rw [shareL, stillL]
  | d :: ds => by rw [shareL, stillL, share_still d, shareL_still ds]; rfl
theorem shareK_still : ∀ ds : List (DK × D), stillK (shareK ds) = true
  | [] => by rw [shareK, stillK]
  | (k, d) :: ds => by rw [shareK, stillK, share_still d, shareK_still ds]; rfl
end
theorem shareIn_still (d : D) : stillIn (shareIn d) = true := by
  cases d with
  | lst o xs => exact shareL_still xs
  | dct o xs => exact shareK_still xs
  | tup xs =>
    show stillIn (share (.tup xs)) = true
    rw [share]
    show still (.tup (shareL xs)) = true
    rw [still]
    exact shareL_still xs
  | non => rfl
  | bl b => rfl
  | int z => rfl
  | str x => rfl
  | box n => rfl
  | scr z => rfl
theorem nil_all {α : Type} {P : α → Prop} : ∀ a ∈ ([] : List α), P a := fun _ h => nomatch h
section
variable {K : PySem.W.Frag} {H : Hp} {io : List Addr}
mutual
theorem Rp.still_nil : ∀ {d : D} {v : V} {os : List Addr}, Rp K H io d v os → still d = true → os = []
  | _, _, _, .non, _ => rfl
  | _, _, _, .bl _, _ => rfl
  | _, _, _, .int _, _ => rfl
  | _, _, _, .str _, _ => rfl
  | _, _, _, .lstS _ _, _ => rfl
  | _, _, _, .lstO _ _ _, h => by rw [still] at h; cases h
  | _, _, _, .tup _ r, h => by rw [still] at h; exact RpL.still_nil r h
  | _, _, _, .dctS _ _ _, _ => rfl
  | _, _, _, .dctO _ _ _, h => by rw [still] at h; cases h
  | _, _, _, .box _, _ => rfl
  | _, _, _, .scr _, _ => rfl
theorem RpL.still_nil : ∀ {ds : List D} {vs : List V} {os : List Addr}, RpL K H io ds vs os → stillL ds = true → os = []
  | _, _, _, .nil, _ => rfl
  | _, _, _, .cons h r, e => by
    rw [stillL, Bool.and_eq_true] at e
    rw [h.still_nil e.1, RpL.still_nil r e.2]; rfl
theorem RpK.still_nil : ∀ {ds : List (DK × D)} {vs : List (DK × V)} {os : List Addr}, RpK K H io ds vs os → stillK ds = true → os = []
  | _, _, _, .nil, _ => rfl
  | _, _, _, .cons hk h r, e => by
    rw [stillK, Bool.and_eq_true] at e
    rw [h.still_nil e.1, RpK.still_nil r e.2]; rfl
end
/-- what stands at a list's, a tuple's address -/
theorem Rp.lst_inv {o : Bool} {ds : List D} {v : V} {os : List Addr} (h : Rp K H io (.lst o ds) v os) : ∃ a vs ps, v = .ref a ∧ Rd H a (.lst vs) ∧ RpL K H io ds vs ps ∧ (∀ b ∈ ps, b ∈ os) ∧ (os.Nodup → ps.Nodup) := by
  cases h with
  | lstS h r => exact ⟨_, _, [], rfl, h.rd, r, nil_all, fun _ => List.nodup_nil⟩
  | lstO h n r => exact ⟨_, _, _, rfl, .inl h, r, fun _ z => List.mem_cons_of_mem _ z, fun n => (List.nodup_cons.mp n).2⟩
theorem Rp.tup_inv {ds : List D} {v : V} {os : List Addr} (h : Rp K H io (.tup ds) v os) : ∃ a vs, v = .ref a ∧ SqT K H a vs ∧ RpL K H io ds vs os := by
  cases h with
  | tup h r => exact ⟨_, _, rfl, h.sqT, r⟩
theorem Rp.tup_invQ {ds : List D} {v : V} {os : List Addr} (h : Rp K H io (.tup ds) v os) : ∃ a vs, v = .ref a ∧ TQ K H a vs ∧ RpL K H io ds vs os := by
  cases h with
  | tup h r => exact ⟨_, _, rfl, h, r⟩
theorem RpL.length : ∀ {ds : List D} {vs : List V} {os : List Addr}, RpL K H io ds vs os → ds.length = vs.length
  | _, _, _, .nil => rfl
  | _, _, _, .cons _ r => by simpa using r.length
theorem RpL.append : ∀ {ds es : List D} {vs ws : List V} {os ps : List Addr}, RpL K H io ds vs os → RpL K H io es ws ps → RpL K H io (ds ++ es) (vs ++ ws) (os ++ ps)
  | _, _, _, _, _, _, .nil, q => q
  | _, _, _, _, _, _, .cons h r, q => by rw [List.append_assoc]; exact .cons h (r.append q)
theorem RpL.get0 : ∀ {ds : List D} {vs : List V} {i : Nat} {v : V}, RpL K H io ds vs [] → vs[i]? = some v → ∃ d, ds[i]? = some d ∧ Rp K H io d v []
  | [], vs, i, v, h, e => by
    have hl := h.length
    cases vs with
    | nil => simp at e
    | cons _ _ => simp at hl
  | d :: ds, [], i, v, h, e => by simp at e
  | d :: ds, v :: vs, i, w, h, e => by
    generalize hq : ([] : List Addr) = q at h
    cases h with
    | cons h r =>
      rename_i o1 o2
      obtain ⟨e1, e2⟩ := List.append_eq_nil_iff.mp hq.symm
      subst e1 e2
      cases i with
      | zero => exact ⟨_, rfl, by simp at e; subst e; exact h⟩
      | succ i => simpa using RpL.get0 r (i := i) (by simpa using e)
theorem RpL.getD0 : ∀ {ds : List D} {vs : List V} {i : Nat} {d : D}, RpL K H io ds vs [] → ds[i]? = some d → ∃ v, vs[i]? = some v ∧ Rp K H io d v [] := fun {ds vs i d} h e => by
  have hl := h.length
  obtain ⟨hi, _⟩ := List.getElem?_eq_some_iff.mp e
  have hv : vs[i]? = some vs[i] := List.getElem?_eq_getElem (hl ▸ hi)
  obtain ⟨d', e', r⟩ := h.get0 hv
  rw [e] at e'; cases e'
  exact ⟨_, hv, r⟩
theorem RpL.take0 : ∀ {ds : List D} {vs : List V} (n : Nat), RpL K H io ds vs [] → RpL K H io (ds.take n) (vs.take n) []
  | _, _, 0, _ => by simpa using RpL.nil
  | [], [], n + 1, _ => by simpa using RpL.nil
  | [], _ :: _, _, h => by have hl := h.length; simp at hl
  | _ :: _, [], _, h => by have hl := h.length; simp at hl
  | d :: ds, v :: vs, n + 1, h => by
    generalize hq : ([] : List Addr) = q at h
    cases h with
    | cons h r =>
      obtain ⟨e1, e2⟩ := List.append_eq_nil_iff.mp hq.symm
      subst e1 e2
      exact .cons (os := []) (ps := []) h (r.take0 n)
theorem RpL.drop0 : ∀ {ds : List D} {vs : List V} (n : Nat), RpL K H io ds vs [] → RpL K H io (ds.drop n) (vs.drop n) []
  | _, _, 0, h => by simpa using h
  | [], [], n + 1, _ => by simpa using RpL.nil
  | [], _ :: _, _, h => by have hl := h.length; simp at hl
  | _ :: _, [], _, h => by have hl := h.length; simp at hl
  | d :: ds, v :: vs, n + 1, h => by
    generalize hq : ([] : List Addr) = q at h
    cases h with
    | cons h r =>
      obtain ⟨e1, e2⟩ := List.append_eq_nil_iff.mp hq.symm
      subst e1 e2
      simpa using r.drop0 n
/-- from the items one by one -/
theorem RpL.of : ∀ {ds : List D} {vs : List V}, ds.length = vs.length → (∀ (i : Nat) (d : D) (v : V), ds[i]? = some d → vs[i]? = some v → Rp K H io d v []) → RpL K H io ds vs []
  | [], [], _, _ => .nil
  | [], _ :: _, h, _ => by cases h
  | _ :: _, [], h, _ => by cases h
  | d :: ds, v :: vs, h, f => .cons (os := []) (ps := []) (f 0 d v rfl rfl) (RpL.of (by simpa using h) fun i d' v' e1 e2 => f (i + 1) d' v' (by simpa using e1) (by simpa using e2))
theorem BL.fresh {p : Addr} (bl : BL io H) (h : H p = none) : p ∉ io := fun hm => by
  obtain ⟨vs, e⟩ := bl p hm
  rw [h] at e; cases e
theorem ext_upd {p : Addr} {o : HO} (h : H p = none) : ∀ a u, H a = some u → upd H p o a = some u := fun a u e => by rw [upd_ne (ne_of_none e h)]; exact e
/-- a new list, a new tuple -/
theorem Rp.newL {p : Addr} {ds : List D} {vs : List V} {os : List Addr} (bl : BL io H) (h : H p = none) (r : RpL K H io ds vs os) : Rp K (upd H p (.lst vs)) io (.lst true ds) (.ref p) (p :: os) :=
  .lstO upd_same (bl.fresh h) (r.keep (Kp.of (ext_upd h)) bl)
theorem Rp.newT {p : Addr} {o : Obj} (ho : o.dict = none) {ds : List D} {vs : List V} {os : List Addr} (bl : BL io H) (h : H p = none) (r : RpL K H io ds vs os) : Rp K (upd H p (.frz o (.tup vs))) io (.tup ds) (.ref p) os :=
  .tup (.inl ⟨o, ho, upd_same⟩) (r.keep (Kp.of (ext_upd h)) bl)
end

/-! ### the readings -/
/-- a value that may be kept: all that it bears is given to all, or its own and new -/
def tV (K : PySem.W.Frag) (f : Ev) : TE := fun σ H Q => ∃ io b r oss, SR K io b r oss σ H ∧ ∃ d b', f r b = some (d, b') ∧
  ∀ (v : V) (H' : Hp) (io' os : List Addr), Kp io H io' H' → SR K io' b' r oss σ H' → Rp K H' io' d v os → os.Nodup → (∀ a ∈ os, H a = none) → Q v H'
/-- a value that is looked at (md: none of its inner parts is a name's own) -/
def tM (K : PySem.W.Frag) (md : Bool) (f : Ev) : TE := fun σ H Q => ∃ io b r oss, SR K io b r oss σ H ∧ ∃ d b', f r b = some (d, b') ∧
  ∀ (v : V) (H' : Hp) (io' os : List Addr), Kp io H io' H' → SR K io' b' r oss σ H' → Rp K H' io' d v os → (md = true → stillIn d = true) → Q v H'
def tAV (K : PySem.W.Frag) (fs : List Ev) : TA := fun σ H Q => ∃ io b r oss, SR K io b r oss σ H ∧ ∃ ds b', evs fs r b = some (ds, b') ∧
  ∀ (vs : List V) (H' : Hp) (io' os : List Addr), Kp io H io' H' → SR K io' b' r oss σ H' → RpL K H' io' ds vs os → os.Nodup → (∀ a ∈ os, H a = none) → Q vs H'
def tAM (K : PySem.W.Frag) (md : Bool) (fs : List Ev) : TA := fun σ H Q => ∃ io b r oss, SR K io b r oss σ H ∧ ∃ ds b', evs fs r b = some (ds, b') ∧
  ∀ (vs : List V) (H' : Hp) (io' os : List Addr), Kp io H io' H' → SR K io' b' r oss σ H' → RpL K H' io' ds vs os → (md = true → ∀ d ∈ ds, stillIn d = true) → Q vs H'
/-- a value that all may hold -/
def tS (K : PySem.W.Frag) (f : Ev) : TE := fun σ H Q => ∃ io b r oss, SR K io b r oss σ H ∧ ∃ d b', f r b = some (d, b') ∧
  ∀ (v : V) (H' : Hp) (io' : List Addr), Kp io H io' H' → SR K io' b' r oss σ H' → Rp K H' io' d v [] → Q v H'
theorem bnd_some {α β : Type} {m : M α} {f : α → M β} {b : Bx} {x : β × Bx} (h : bnd m f b = some x) : ∃ a b', m b = some (a, b') ∧ f a b' = some x := by
  unfold bnd at h
  cases e : m b with
  | none => rw [e] at h; cases h
  | some p => rw [e] at h; exact ⟨p.1, p.2, rfl, h⟩
theorem lift_some {α : Type} {o : Option α} {b : Bx} {x : α × Bx} (h : lift o b = some x) : o = some x.1 ∧ x.2 = b := by
  unfold lift at h
  cases o with
  | none => cases h
  | some a => cases h; exact ⟨rfl, rfl⟩
theorem ret_some {α : Type} {a : α} {b : Bx} {x : α × Bx} (h : ret a b = some x) : a = x.1 ∧ x.2 = b := by
  unfold ret at h; cases h; exact ⟨rfl, rfl⟩
section
variable {X : Cx}
/-- what may be kept may be looked at -/
theorem de_look {e : Expr} {f : Ev} (h : PE X e (tV X.K f)) : PE X e (tM X.K false f) := PE_wk h fun σ H Q ⟨io, b, r, oss, S, d, b', e, q⟩ =>
  ⟨io, b, r, oss, S, d, b', e, fun v H' io' os k S' x _ _ => q v H' io' os k S' x (fun z => nomatch z)⟩
theorem de_md {e : Expr} {f : Ev} {md : Bool} (h : PE X e (tM X.K true f)) : PE X e (tM X.K md f) := PE_wk h fun σ H Q ⟨io, b, r, oss, S, d, b', e, q⟩ =>
  ⟨io, b, r, oss, S, d, b', e, fun v H' io' os k S' x m => q v H' io' os k S' x fun _ => m rfl⟩

/-! ### names, constants -/
theorem de_v {i : Nat} {x : Str} {pos : Pos} (hN : X.N[i]? = some x) (hv : Vis X.env.scope x) (hd : (x == ("__debug__" : Str)) = false) (hcd : (x == ("__classdict__" : Str)) = false) : PE X (.Name x pos) (tS X.K (eV i)) :=
  PE_wk (pe_var hN hv hd hcd) fun σ H Q ⟨io, b, r, oss, S, d, b', e, q⟩ => by
    unfold eV at e
    cases hr : r[i]? with
    | none => rw [hr] at e; cases e
    | some sl =>
      rw [hr] at e
      rcases S.sl.get hr with rfl | ⟨d', v, rfl, hv, hx⟩ | ⟨d', v, os, rfl, hv, _, hx⟩
      · cases e
      · obtain ⟨rfl, rfl⟩ := ret_some e
        exact ⟨v, hv, q v H io (Kp.refl _ _) S hx⟩
      · cases e
theorem de_b {i : Nat} {x : Str} {pos : Pos} (hN : X.N[i]? = some x) (hv : Vis X.env.scope x) (hd : (x == ("__debug__" : Str)) = false) (hcd : (x == ("__classdict__" : Str)) = false) : PE X (.Name x pos) (tM X.K false (eB i)) :=
  PE_wk (pe_var hN hv hd hcd) fun σ H Q ⟨io, b, r, oss, S, d, b', e, q⟩ => by
    unfold eB at e
    cases hr : r[i]? with
    | none => rw [hr] at e; cases e
    | some sl =>
      rw [hr] at e
      rcases S.sl.get hr with rfl | ⟨d', v, rfl, hv, hx⟩ | ⟨d', v, os, rfl, hv, _, hx⟩
      · cases e
      · obtain ⟨rfl, rfl⟩ := ret_some e
        exact ⟨v, hv, q v H io [] (Kp.refl _ _) S hx (fun z => nomatch z)⟩
      · obtain ⟨rfl, rfl⟩ := ret_some e
        exact ⟨v, hv, q v H io os (Kp.refl _ _) S hx (fun z => nomatch z)⟩
mutual
theorem Rp.nil_still {K : PySem.W.Frag} {H : Hp} {io : List Addr} : ∀ {d : D} {v : V} {os : List Addr}, Rp K H io d v os → os = [] → still d = true
  | _, _, _, .non, _ => rfl
  | _, _, _, .bl _, _ => rfl
  | _, _, _, .int _, _ => rfl
  | _, _, _, .str _, _ => rfl
  | _, _, _, .lstS _ r, _ => by rw [still, RpL.nil_still r rfl]; rfl
  | _, _, _, .lstO _ _ _, h => nomatch h
  | _, _, _, .tup _ r, h => by rw [still]; exact RpL.nil_still r h
  | _, _, _, .dctS _ _ r, _ => by rw [still, RpK.nil_still r rfl]; rfl
  | _, _, _, .dctO _ _ _, h => nomatch h
  | _, _, _, .box _, _ => rfl
  | _, _, _, .scr _, _ => rfl
theorem RpL.nil_still {K : PySem.W.Frag} {H : Hp} {io : List Addr} : ∀ {ds : List D} {vs : List V} {os : List Addr}, RpL K H io ds vs os → os = [] → stillL ds = true
  | _, _, _, .nil, _ => rfl
  | _, _, _, .cons h r, e => by
    obtain ⟨e1, e2⟩ := List.append_eq_nil_iff.mp e
    rw [stillL, h.nil_still e1, RpL.nil_still r e2]; rfl
theorem RpK.nil_still {K : PySem.W.Frag} {H : Hp} {io : List Addr} : ∀ {ds : List (DK × D)} {vs : List (DK × V)} {os : List Addr}, RpK K H io ds vs os → os = [] → stillK ds = true
  | _, _, _, .nil, _ => rfl
  | _, _, _, .cons hk h r, e => by
    obtain ⟨e1, e2⟩ := List.append_eq_nil_iff.mp e
    rw [stillK, h.nil_still e1, RpK.nil_still r e2]; rfl
end
theorem stillIn_of_still {d : D} (h : still d = true) : stillIn d = true := by
  cases d with
  | lst o xs => rw [still, Bool.and_eq_true] at h; exact h.2
  | dct o xs => rw [still, Bool.and_eq_true] at h; exact h.2
  | _ => exact h
theorem de_i {i : Nat} {x : Str} {pos : Pos} (hN : X.N[i]? = some x) (hv : Vis X.env.scope x) (hd : (x == ("__debug__" : Str)) = false) (hcd : (x == ("__classdict__" : Str)) = false) : PE X (.Name x pos) (tM X.K true (eI i)) :=
  PE_wk (pe_var hN hv hd hcd) fun σ H Q ⟨io, b, r, oss, S, d, b', e, q⟩ => by
    unfold eI at e
    cases hr : r[i]? with
    | none => rw [hr] at e; cases e
    | some sl =>
      rw [hr] at e
      rcases S.sl.get hr with rfl | ⟨d', v, rfl, hv, hx⟩ | ⟨d', v, os, rfl, hv, _, hx⟩
      · cases e
      · obtain ⟨rfl, rfl⟩ := ret_some e
        exact ⟨v, hv, q v H io [] (Kp.refl _ _) S hx fun _ => stillIn_of_still (hx.nil_still rfl)⟩
      · dsimp only at e
        by_cases hs : stillIn d' = true
        · rw [if_pos hs] at e
          obtain ⟨rfl, rfl⟩ := ret_some e
          exact ⟨v, hv, q v H io os (Kp.refl _ _) S hx fun _ => hs⟩
        · rw [if_neg hs] at e; cases e
/-- what needs no machine: a constant of any make -/
theorem de_c {e : Expr} {d : D} {v : V} (h : PE X e (tC v)) (hv : ∀ H io, Rp X.K H io d v []) : PE X e (tS X.K (eC d)) :=
  PE_wk h fun σ H Q ⟨io, b, r, oss, S, d', b', e, q⟩ => by
    obtain ⟨rfl, rfl⟩ := ret_some e
    exact q v H io (Kp.refl _ _) S (hv H io)

/-! ### given to all -/
theorem Kp_fz {io io' : List Addr} {H H1 H2 : Hp} {as : List Addr} (k : Kp io H io' H1) (f : Fz as H1 H2) (hf : ∀ a ∈ as, H a = none) : Kp io H io' H2 :=
  ⟨fun a o e n => f.kp (k.keep a o e n) (fun hm => by rw [hf a hm] at e; cases e), k.pre, k.new⟩
theorem SR_fz {K : PySem.W.Frag} {io : List Addr} {b : Bx} {r : Env} {oss : List (List Addr)} {σ : St} {H0 H H' : Hp} {as : List Addr} {io0 : List Addr} {b0 : Bx} (S0 : SR K io0 b0 r oss σ H0) (S : SR K io b r oss σ H) (f : Fz as H H') (h1 : ∀ a ∈ as, Ownd H io a) (h2 : ∀ a ∈ as, H0 a = none) : SR K io b r oss σ H' :=
  S.fz f (fun a ha => (h1 a ha).1) fun a ha hm => by
    obtain ⟨_, u, e, _⟩ := S0.sl.ownd S0.bl a hm
    rw [h2 a ha] at e; cases e
theorem de_sh {e : Expr} {f : Ev} (h : PE X e (tV X.K f)) : PE X e (tS X.K (eSh f)) := by
  refine ⟨fun pins s σ H Q I ⟨io, b, r, oss, S, d, b', e, q⟩ => ?_⟩
  obtain ⟨d0, b1, e1, e2⟩ := bnd_some e
  obtain ⟨rfl, q2⟩ := ret_some e2
  obtain rfl : b' = b1 := q2
  refine thn (h.run pins s σ H (fun v H' => ∃ io' os, Kp io H io' H' ∧ SR X.K io' b' r oss σ H' ∧ Rp X.K H' io' d0 v os ∧ os.Nodup ∧ ∀ a ∈ os, H a = none) I ⟨io, b, r, oss, S, d0, b', e1, fun v H' io' os k S' x n f => ⟨io', os, k, S', x, n, f⟩⟩) fun u s1 ⟨v, H1, I1, rv, io', os, k, S', x, n, fr⟩ => ?_
  obtain ⟨H2, I2, fz⟩ := inv_fz I1 n fun a ha => (x.ownd S'.bl a ha).2
  exact ⟨v, H2, I2, rv, q v H2 io' (Kp_fz k fz fr) (SR_fz S S' fz (x.ownd S'.bl) fr) (x.fz fz fun _ h => h)⟩
theorem de_sv {e : Expr} {f : Ev} (h : PE X e (tS X.K f)) : PE X e (tV X.K f) := PE_wk h fun σ H Q ⟨io, b, r, oss, S, d, b', e, q⟩ =>
  ⟨io, b, r, oss, S, d, b', e, fun v H' io' k S' x => q v H' io' [] k S' x List.nodup_nil nil_all⟩
/-- the parts within are frozen -/
theorem Rp.fzIn {K : PySem.W.Frag} {H : Hp} {io : List Addr} {d : D} {v : V} {os : List Addr} (x : Rp K H io d v os) (n : os.Nodup) : ∃ as, (∀ a ∈ as, a ∈ os) ∧ as.Nodup ∧ ∀ H', Fz as H H' → ∃ ps, (∀ a ∈ ps, a ∈ os) ∧ ps.Nodup ∧ Rp K H' io (shareIn d) v ps := by
  cases x with
  | lstO h ni r =>
    obtain ⟨n1, n2⟩ := List.nodup_cons.mp n
    exact ⟨_, fun a ha => List.mem_cons_of_mem _ ha, n2, fun H' f => ⟨[_], (fun a ha => by
      obtain rfl := List.mem_singleton.mp ha
      exact List.mem_cons_self), List.nodup_cons.mpr ⟨fun z => (nomatch z), List.nodup_nil⟩, .lstO (f.kp h n1) ni (r.fz f fun _ z => z)⟩⟩
  | dctO h e r =>
    obtain ⟨n1, n2⟩ := List.nodup_cons.mp n
    exact ⟨_, fun a ha => List.mem_cons_of_mem _ ha, n2, fun H' f => ⟨[_], (fun a ha => by
      obtain rfl := List.mem_singleton.mp ha
      exact List.mem_cons_self), List.nodup_cons.mpr ⟨fun z => (nomatch z), List.nodup_nil⟩, .dctO (f.kp h n1) e (r.fz f fun _ z => z)⟩⟩
  | lstS h r => exact ⟨[], nil_all, List.nodup_nil, fun H' f => ⟨[], nil_all, List.nodup_nil, .lstS (f.ls h) (r.fz f nil_all)⟩⟩
  | dctS h e r => exact ⟨[], nil_all, List.nodup_nil, fun H' f => ⟨[], nil_all, List.nodup_nil, .dctS (f.other h fun z => z) e (r.fz f nil_all)⟩⟩
  | tup h r => exact ⟨os, fun _ z => z, n, fun H' f => ⟨[], nil_all, List.nodup_nil, (Rp.tup h r).fz f fun _ z => z⟩⟩
  | non => exact ⟨[], nil_all, List.nodup_nil, fun H' f => ⟨[], nil_all, List.nodup_nil, .non⟩⟩
  | bl b => exact ⟨[], nil_all, List.nodup_nil, fun H' f => ⟨[], nil_all, List.nodup_nil, .bl b⟩⟩
  | int z => exact ⟨[], nil_all, List.nodup_nil, fun H' f => ⟨[], nil_all, List.nodup_nil, .int z⟩⟩
  | str y => exact ⟨[], nil_all, List.nodup_nil, fun H' f => ⟨[], nil_all, List.nodup_nil, .str y⟩⟩
  | box h => exact ⟨[], nil_all, List.nodup_nil, fun H' f => ⟨[], nil_all, List.nodup_nil, .box h⟩⟩
  | scr h => exact ⟨[], nil_all, List.nodup_nil, fun H' f => ⟨[], nil_all, List.nodup_nil, .scr (f.lk h)⟩⟩
theorem de_inn {e : Expr} {f : Ev} (h : PE X e (tV X.K f)) : PE X e (tM X.K true (eInn f)) := by
  refine ⟨fun pins s σ H Q I ⟨io, b, r, oss, S, d, b', e, q⟩ => ?_⟩
  obtain ⟨d0, b1, e1, e2⟩ := bnd_some e
  obtain ⟨rfl, q2⟩ := ret_some e2
  obtain rfl : b' = b1 := q2
  refine thn (h.run pins s σ H (fun v H' => ∃ io' os, Kp io H io' H' ∧ SR X.K io' b' r oss σ H' ∧ Rp X.K H' io' d0 v os ∧ os.Nodup ∧ ∀ a ∈ os, H a = none) I ⟨io, b, r, oss, S, d0, b', e1, fun v H' io' os k S' x n f => ⟨io', os, k, S', x, n, f⟩⟩) fun u s1 ⟨v, H1, I1, rv, io', os, k, S', x, n, fr⟩ => ?_
  obtain ⟨as, h1, h2, h3⟩ := x.fzIn n
  obtain ⟨H2, I2, fz⟩ := inv_fz I1 h2 fun a ha => (x.ownd S'.bl a (h1 a ha)).2
  obtain ⟨ps, p1, p2, y⟩ := h3 H2 fz
  exact ⟨v, H2, I2, rv, q v H2 io' ps (Kp_fz k fz fun a ha => fr a (h1 a ha)) (SR_fz S S' fz (fun a ha => x.ownd S'.bl a (h1 a ha)) fun a ha => fr a (h1 a ha)) y fun _ => shareIn_still d0⟩

/-! ### by operators' rules -/
/-- what a rule of two values is to give, over plain data -/
def Op2 (K : PySem.W.Frag) (m1 m2 : Bool) (op : D → D → Option D) (r : R2) : Prop := ∀ (io : List Addr) (H : Hp) (x y : V) (dx dy d : D) (os ps : List Addr) (Q : VK), BL io H → Rp K H io dx x os → Rp K H io dy y ps → (m1 = true → stillIn dx = true) → (m2 = true → stillIn dy = true) →
  op dx dy = some d → (∀ v H' qs, (∀ a o, H a = some o → H' a = some o) → Rp K H' io d v qs → qs.Nodup → (∀ a ∈ qs, H a = none) → Q v H') → r x y H Q
theorem de_two {a b : Expr} {m1 m2 : Bool} {f g : Ev} {op : D → D → Option D} {r : R2} {e : Expr} (ho : Op2 X.K m1 m2 op r) (ha : PE X a (tM X.K m1 f)) (hb : PE X b (tM X.K m2 g)) (he : ∀ ta tb, PE X a ta → PE X b tb → PE X e (tOp r ta tb)) : PE X e (tV X.K (e2 op f g)) :=
  PE_wk (he _ _ ha hb) fun σ H Q ⟨io, b, r, oss, S, d, b', e, q⟩ => by
    obtain ⟨dx, b1, e1, e'⟩ := bnd_some e
    obtain ⟨dy, b2, e2, e3⟩ := bnd_some e'
    obtain ⟨e4, rfl⟩ := lift_some e3
    refine ⟨io, b, r, oss, S, dx, b1, e1, fun x H1 io1 os k1 S1 rx m1 => ⟨io1, b1, r, oss, S1, dy, b', e2, fun y H2 io2 ps k2 S2 ry m2 => ?_⟩⟩
    refine ho io2 H2 x y dx dy d os ps Q S2.bl (rx.keep k2 S1.bl) ry m1 m2 e4 fun v H3 qs k3 rv n fr => ?_
    have k12 := k1.trans k2 S.bl
    refine q v H3 io2 qs (k12.trans (Kp.of k3) S.bl) (S2.later k3) rv n fun a ha => ?_
    cases ea : H a with
    | none => rfl
    | some o =>
      have h2 := fr a ha
      by_cases hm : a ∈ io
      · obtain ⟨vs, e⟩ := S2.bl a (k12.pre.subset hm)
        rw [h2] at e; cases e
      · rw [k12.keep a o ea hm] at h2; cases h2
theorem de_bin {a b : Expr} {o : Operator} {pos : Pos} {m1 m2 : Bool} {f g : Ev} {op : D → D → Option D} {r : R2} (ho : Op2 X.K m1 m2 op r) (hr : OpR X (binaryOp o) r) (ha : PE X a (tM X.K m1 f)) (hb : PE X b (tM X.K m2 g)) : PE X (.BinOp a o b pos) (tV X.K (e2 op f g)) :=
  de_two ho ha hb fun _ _ h1 h2 => pe_op hr h1 h2
theorem de_cmp {a b : Expr} {o : CmpOp} {pos : Pos} {m1 m2 : Bool} {f g : Ev} {op : D → D → Option D} {r : R2} (ho : Op2 X.K m1 m2 op r) (hr : OpR X (compareOp o) r) (ha : PE X a (tM X.K m1 f)) (hb : PE X b (tM X.K m2 g)) (hm : behindInMarks o b = false) : PE X (.Compare a [o] [b] pos) (tV X.K (e2 op f g)) :=
  de_two ho ha hb fun _ _ h1 h2 => pe_cmpR hr h1 h2 hm
theorem de_ix {a b : Expr} {pos : Pos} {m1 m2 : Bool} {f g : Ev} {op : D → D → Option D} {r : R2} (ho : Op2 X.K m1 m2 op r) (hr : IxR X r) (ha : PE X a (tM X.K m1 f)) (hb : PE X b (tM X.K m2 g)) (hs : PlainIx b) : PE X (.Subscript a b pos) (tV X.K (e2 op f g)) :=
  de_two ho ha hb fun _ _ h1 h2 => pe_ix hr h1 h2 hs
/-- several rules at one operator -/
theorem Op2.alt {K : PySem.W.Frag} {m1 m2 : Bool} {op : D → D → Option D} {r r' : R2} {p : D → D → Bool} (h : Op2 K m1 m2 (fun x y => if p x y then op x y else none) r) (h' : Op2 K m1 m2 (fun x y => if p x y then none else op x y) r') : Op2 K m1 m2 op (fun x y H Q => r x y H Q ∨ r' x y H Q) := by
  intro io H x y dx dy d os ps Q bl rx ry m1 m2 e q
  cases hp : p dx dy with
  | true => exact .inl (h io H x y dx dy d os ps Q bl rx ry m1 m2 (by show (if p dx dy = true then op dx dy else none) = some d; rw [if_pos hp]; exact e) q)
  | false => exact .inr (h' io H x y dx dy d os ps Q bl rx ry m1 m2 (by show (if p dx dy = true then none else op dx dy) = some d; rw [if_neg (by rw [hp]; decide)]; exact e) q)

/-! ### lists of arguments -/
theorem fresh_back {K : PySem.W.Frag} {io io1 : List Addr} {b1 : Bx} {r : Env} {oss : List (List Addr)} {σ : St} {H H1 : Hp} {a : Addr} (k : Kp io H io1 H1) (S1 : SR K io1 b1 r oss σ H1) (h : H1 a = none) : H a = none := by
  cases ea : H a with
  | none => rfl
  | some o =>
    by_cases hm : a ∈ io
    · obtain ⟨vs, e⟩ := S1.bl a (k.pre.subset hm)
      rw [h] at e; cases e
    · rw [k.keep a o ea hm] at h; cases h
theorem da_nil : PA X [] (tAV X.K []) := PA_wk pa_nil fun σ H Q ⟨io, b, r, oss, S, d, b', e, q⟩ => by
  obtain ⟨rfl, rfl⟩ := ret_some e
  exact q [] H io [] (Kp.refl _ _) S .nil List.nodup_nil nil_all
theorem da_nilM {md : Bool} : PA X [] (tAM X.K md []) := PA_wk pa_nil fun σ H Q ⟨io, b, r, oss, S, d, b', e, q⟩ => by
  obtain ⟨rfl, rfl⟩ := ret_some e
  exact q [] H io [] (Kp.refl _ _) S .nil fun _ _ z => nomatch z
theorem da_cons {e : Expr} {es : List Expr} {f : Ev} {fs : List Ev} (he : PE X e (tV X.K f)) (hes : PA X es (tAV X.K fs)) (hs : starEach (e :: es) X.env = (false, eval e X.env) :: starEach es X.env) : PA X (e :: es) (tAV X.K (f :: fs)) :=
  PA_wk (pa_cons he hes hs) fun σ H Q ⟨io, b, r, oss, S, ds, b', e, q⟩ => by
    obtain ⟨d, b1, e1, e'⟩ := bnd_some e
    obtain ⟨ds', b2, e2, e3⟩ := bnd_some e'
    obtain ⟨rfl, rfl⟩ := ret_some e3
    refine ⟨io, b, r, oss, S, d, b1, e1, fun x H1 io1 os k1 S1 rx n1 f1 => ⟨io1, b1, r, oss, S1, ds', b', e2, fun xs H2 io2 ps k2 S2 rxs n2 f2 => ?_⟩⟩
    refine q (x :: xs) H2 io2 (os ++ ps) (k1.trans k2 S.bl) S2 (.cons (rx.keep k2 S1.bl) rxs) (List.nodup_append.mpr ⟨n1, n2, fun a ha c hc z => ?_⟩) fun a ha => ?_
    · obtain ⟨_, u, eu, _⟩ := rx.ownd S1.bl a ha
      rw [z, f2 c hc] at eu; cases eu
    · rcases List.mem_append.mp ha with h | h
      · exact f1 a h
      · exact fresh_back k1 S1 (f2 a h)
theorem da_consM {md : Bool} {e : Expr} {es : List Expr} {f : Ev} {fs : List Ev} (he : PE X e (tM X.K md f)) (hes : PA X es (tAM X.K md fs)) (hs : starEach (e :: es) X.env = (false, eval e X.env) :: starEach es X.env) : PA X (e :: es) (tAM X.K md (f :: fs)) :=
  PA_wk (pa_cons he hes hs) fun σ H Q ⟨io, b, r, oss, S, ds, b', e, q⟩ => by
    obtain ⟨d, b1, e1, e'⟩ := bnd_some e
    obtain ⟨ds', b2, e2, e3⟩ := bnd_some e'
    obtain ⟨rfl, rfl⟩ := ret_some e3
    refine ⟨io, b, r, oss, S, d, b1, e1, fun x H1 io1 os k1 S1 rx m1 => ⟨io1, b1, r, oss, S1, ds', b', e2, fun xs H2 io2 ps k2 S2 rxs m2 => ?_⟩⟩
    refine q (x :: xs) H2 io2 (os ++ ps) (k1.trans k2 S.bl) S2 (.cons (rx.keep k2 S1.bl) rxs) fun h c hc => ?_
    rcases List.mem_cons.mp hc with rfl | hc
    · exact m1 h
    · exact m2 h c hc
/-- what a rule of a list of values is to give, over plain data -/
def OpN (K : PySem.W.Frag) (md : Bool) (op : List D → Option D) (r : List V → Hp → VK → Prop) : Prop := ∀ (io : List Addr) (H : Hp) (xs : List V) (ds : List D) (d : D) (os : List Addr) (Q : VK), BL io H → RpL K H io ds xs os → (md = true → ∀ d ∈ ds, stillIn d = true) →
  op ds = some d → (∀ v H' qs, (∀ a o, H a = some o → H' a = some o) → Rp K H' io d v qs → qs.Nodup → (∀ a ∈ qs, H a = none) → Q v H') → r xs H Q
theorem de_n {e : Expr} {es : List Expr} {md : Bool} {fs : List Ev} {op : List D → Option D} {r : List V → Hp → VK → Prop} (ho : OpN X.K md op r) (ha : PA X es (tAM X.K md fs)) (he : ∀ t, PA X es t → PE X e (tCB r t)) : PE X e (tV X.K (eN op fs)) :=
  PE_wk (he _ ha) fun σ H Q ⟨io, b, r, oss, S, d, b', e, q⟩ => by
    obtain ⟨ds, b1, e1, e2⟩ := bnd_some e
    obtain ⟨e3, rfl⟩ := lift_some e2
    refine ⟨io, b, r, oss, S, ds, b', e1, fun xs H1 io1 os k1 S1 rx m1 => ?_⟩
    exact ho io1 H1 xs ds d os Q S1.bl rx m1 e3 fun v H2 qs k2 rv n fr => q v H2 io1 qs (k1.trans (Kp.of k2) S.bl) (S1.later k2) rv n fun a ha => fresh_back k1 S1 (fr a ha)
theorem de_callB {x id : Str} {T : String} {p pos : Pos} {e : Expr} {es : List Expr} {md : Bool} {fs : List Ev} {op : List D → Option D} {r : List V → Hp → VK → Prop} {i : String} (ho : OpN X.K md op r) (hr : CallR X (.builtin i) r) (hg : Gl X x) (hm : X.mg x = none) (hv : bootBuiltins x = some (.builtin i))
    (ha : PA X (e :: es) (tAM X.K md fs)) (hn : x ≠ "__name__") (hd : (x == ("__debug__" : Str)) = false) (hs : starEach (e :: es) X.env = (false, eval e X.env) :: starEach es X.env) (hst : (backTo pos (starEach es X.env)).any (·.1) = false) : PE X (.Call (.Name x p) (e :: es) [] pos) (tV X.K (eN op fs)) :=
  de_n ho ha fun t h => by
    first
      | exact pe_callB hr hg hm hv h hn hd
      | exact pe_callB hr hg hm hv h hn hd hs
      | exact pe_callB hr hg hm hv h hn hd hs hst
end
end HF

/-! HF: tuples that have no dict. -/
namespace HF
open PySem PySem.Spec L2
open PyProof.Rows hiding St
abbrev tupO (its : Array Value) : Obj := { cls := .type "tuple", data := .seq its }
/-- what is wanted of a new tuple -/
abbrev NewT (H : Hp) (Q : VK) (xs : List V) : Prop := ∀ (p : Addr) (o : Obj), H p = none → o.dict = none → Q (.ref p) (upd H p (.frz o (.tup xs)))
section
variable {X : Cx} {pins : List (Addr × Obj)} {σ : St} {H : Hp} {s : Shared}
theorem newTup {Q : VK} {xs : List V} {its : List Value} {tk : Nat} (I : Inv X pins σ H s) (r : Vals xs its) (hz : xs.length ≤ sizeLine) (q : NewT H Q xs) : EP X pins σ Q (.ref s.heap.objs.size) { s with heap := s.heap.push (tupO its.toArray), toks := tk } :=
  ⟨.ref s.heap.objs.size, _, I.laid (t' := tk) (o := .frz (tupO its.toArray) (.tup xs)) (fun b ob q => Heap.get?_push_of_some _ q) (Nat.le_refl _) ⟨Heap.get?_push_size _ rfl, hz, its, r, IsTup.new _ _⟩, rfl, q _ _ (I.hok.fresh (Nat.le_refl _)) rfl⟩
def rCatF (K : PySem.W.Frag) : R2 := fun x y H Q => ∃ a b xs ys, x = .ref a ∧ y = .ref b ∧ SqT K H a xs ∧ SqT K H b ys ∧ xs.length + ys.length ≤ sizeLine ∧ (xs = [] → Q (.ref b) H) ∧ (xs ≠ [] → ys = [] → Q (.ref a) H) ∧ (xs ≠ [] → ys ≠ [] → NewT H Q (xs ++ ys))
theorem op_catF : OpR X (binaryOp .Add) (rCatF X.K) := by
  intro pins s σ H x y v u Q I rx ry h
  obtain ⟨a, b, xs, ys, rfl, rfl, ha, hb, hz, q0, q1, q2⟩ := h
  cases rx
  cases ry
  obtain ⟨us, r1, p1, _⟩ := I.tuple ha
  obtain ⟨ws, r2, p2, _⟩ := I.tuple hb
  by_cases hx : xs = []
  · subst hx
    cases r1
    exact cat_tup0 p1 p2 ⟨.ref b, H, I, rfl, q0 rfl⟩
  · refine HT.cat_tup p1 p2 (fun z => hx (r1.nil_iff.mp z)) (fun z => ⟨.ref a, H, I, rfl, q1 hx (r2.nil_iff.mp z)⟩) (fun z => ?_) (by rw [← r1.length, ← r2.length]; exact hz)
    exact newTup (tk := s.toks) I (r1.append r2) (by rw [List.length_append]; exact hz) (q2 hx fun w => z (r2.nil_iff.mpr w))
def rSlF (K : PySem.W.Frag) : V → Option Int → Option Int → Hp → VK → Prop := fun x lo hi H Q => ∃ a xs, x = .ref a ∧ SqT K H a xs ∧ (HT.sIx xs.length 0 lo = 0 ∧ HT.sIx xs.length xs.length hi = xs.length → Q (.ref a) H) ∧
  (¬ (HT.sIx xs.length 0 lo = 0 ∧ HT.sIx xs.length xs.length hi = xs.length) → NewT H Q (cutV xs lo hi))
theorem sl_tupF : SlR X (rSlF X.K) := by
  intro pins s σ H x v vl vu lo hi sl Q I rx hs pl pu h
  obtain ⟨a, xs, rfl, hx, q1, q2⟩ := h
  cases rx
  obtain ⟨us, r, ht, hz⟩ := I.tuple hx
  have few : us.toArray.size = xs.length := by rw [List.size_toArray]; exact r.length.symm
  refine ⟨"tuple", _, PyProof.Rows.slot_tuple_getitem.lookup, ht.typeIs, ?_⟩
  by_cases hw : HT.sIx xs.length 0 lo = 0 ∧ HT.sIx xs.length xs.length hi = xs.length
  · exact getItem_tuple_whole ht hs pl pu (few.symm ▸ hw) ⟨.ref a, H, I, rfl, q1 hw⟩
  · refine HT.getItem_tuple_cut ht hs pl pu (few.symm ▸ hw) ?_ (few.symm ▸ hz)
    rw [few]
    exact newTup (tk := s.toks) I ((r.drop (HT.sIx xs.length 0 lo)).take (HT.sIx xs.length xs.length hi - HT.sIx xs.length 0 lo)) (Nat.le_trans (cutV_length xs lo hi) hz) (q2 hw)
def tTupF (t : TA) : TE := fun σ H Q => t σ H fun xs H1 => xs.length ≤ sizeLine ∧ NewT H1 Q xs
theorem pe_tupF {es : List Expr} {t : TA} {pos : Pos} {x1} (h : PA X es t) : PE X (.Tuple es x1 pos) (tTupF t) := by
  refine ⟨fun pins s σ H Q I hq => wpAny_Tuple_spliced (thn (h.run pos pins s σ H _ I hq) fun us s1 ⟨xs, H1, I1, r, z, q⟩ => ⟨by rw [← r.length]; exact z, ?_⟩)⟩
  exact newTup (tk := s1.toks) I1 r z q
def rTup (K : PySem.W.Frag) : List V → Hp → VK → Prop := fun xs H Q => ∃ p ys, xs = [.ref p] ∧ ((SqL K H p ys ∧ NewT H Q ys) ∨ (SqT K H p ys ∧ Q (.ref p) H))
theorem call_tupF : CallR X (.type "tuple") (rTup X.K) := by
  intro pins s σ H xs us Q I r h
  obtain ⟨p, ys, rfl, h⟩ := h
  obtain ⟨u, rfl, rx⟩ := vals1 r
  cases rx
  rcases h with ⟨hq, q⟩ | ⟨hq, q⟩
  · obtain ⟨ws, rw1, pl, hz⟩ := I.list hq
    have few := rw1.length
    refine call_tuple_list pl.isList (fun h' kp => ?_) (by simp only [List.size_toArray]; omega)
    have I1 : Inv X pins σ H { s with heap := h' } := I.kept (t' := s.toks) kp
    exact newTup (tk := s.toks) I1 rw1 hz q
  · obtain ⟨ws, _, pl, _⟩ := I.tuple hq
    exact call_tuple_same pl ⟨.ref p, H, I, rfl, q⟩
end
end HF

/-! HF: the plain functions behind operators and built-ins. -/
namespace HF
open PySem (Str PyData sizeLine)

/-! ### equality -/
mutual
def toPD : D → PyData
  | .non => .none
  | .bl b => .bool b
  | .int z => .int z
  | .str x => .str x
  | .lst _ xs => .list (toPDL xs)
  | .tup xs => .tuple (toPDL xs)
  | .dct _ _ => .none
  | .box _ => .none
  | .scr _ => .none
def toPDL : List D → List PyData
  | [] => []
  | x :: xs => toPD x :: toPDL xs
end
theorem toPDL_eq : ∀ xs : List D, toPDL xs = xs.map toPD
  | [] => by rw [toPDL]; rfl
  | x :: xs => by rw [toPDL, toPDL_eq xs]; rfl
theorem shareL_eq : ∀ xs : List D, shareL xs = xs.map share
  | [] => by rw [shareL]; rfl
  | x :: xs => by rw [shareL, shareL_eq xs]; rfl
theorem stillL_eq : ∀ xs : List D, stillL xs = xs.all still
  | [] => by rw [stillL]; rfl
  | x :: xs => by rw [stillL, stillL_eq xs]; rfl
/-- no dict, no box; at most so many levels -/
def plainD : Nat → D → Bool
  | _, .non => true
  | _, .bl _ => true
  | _, .int _ => true
  | _, .str _ => true
  | n + 1, .lst _ xs => xs.all (plainD n)
  | n + 1, .tup xs => xs.all (plainD n)
  | _, _ => false
def eqvD (x y : D) : Bool := PyData.eqv (toPD x) (toPD y)
def oEq (x y : D) : Option D := if plainD 40 x && plainD 40 y then some (.bl (eqvD x y)) else none
def oNe (x y : D) : Option D := if plainD 40 x && plainD 40 y then some (.bl (!eqvD x y)) else none
def oIsN (x : D) : Option D := match x with
  | .non => some (.bl true)
  | _ => some (.bl false)
def oNotN (x : D) : Option D := match x with
  | .non => some (.bl false)
  | _ => some (.bl true)

/-! ### order -/
def ltS (x y : Str) : Bool := decide (x.cps.toList < y.cps.toList)
def oLt (x y : D) : Option D := match x, y with
  | .int a, .int b => some (.bl (decide (a < b)))
  | .str a, .str b => some (.bl (ltS a b))
  | _, _ => none
def oLe (x y : D) : Option D := match x, y with
  | .int a, .int b => some (.bl (decide (a ≤ b)))
  | _, _ => none
def oGt (x y : D) : Option D := match x, y with
  | .int a, .int b => some (.bl (decide (b < a)))
  | .str a, .str b => some (.bl (ltS b a))
  | _, _ => none
def oGe (x y : D) : Option D := match x, y with
  | .int a, .int b => some (.bl (decide (b ≤ a)))
  | _, _ => none

/-! ### numbers, texts, sequences -/
def oAdd (x y : D) : Option D := match x, y with
  | .int a, .int b => some (.int (a + b))
  | .str a, .str b => if a.length + b.length ≤ sizeLine then some (.str (a ++ b)) else none
  | .lst _ a, .lst _ b => if a.length + b.length ≤ sizeLine then some (.lst true (a ++ b)) else none
  | .tup a, .tup b => if a.length + b.length ≤ sizeLine then some (.tup (a ++ b)) else none
  | _, _ => none
def oSub (x y : D) : Option D := match x, y with
  | .int a, .int b => some (.int (a - b))
  | _, _ => none
def oMul (x y : D) : Option D := match x, y with
  | .int a, .int b => if a.natAbs < 2 ^ 64 ∨ b.natAbs < 2 ^ 64 then some (.int (a * b)) else none
  | .lst _ a, .int k => if k.natAbs < 2 ^ 60 ∧ a.length * k.toNat ≤ sizeLine then some (.lst true (List.replicate k.toNat a).flatten) else none
  | _, _ => none
def oFdiv (x y : D) : Option D := match x, y with
  | .int a, .int b => if 0 < b ∧ b < 1073741824 then some (.int (a / b)) else none
  | _, _ => none
def oMod (x y : D) : Option D := match x, y with
  | .int a, .int b => if 0 < b then some (.int (a % b)) else none
  | _, _ => none
def oPow (x y : D) : Option D := match x, y with
  | .int a, .int b => if 0 ≤ b ∧ b ≤ 1000000 ∧ a.natAbs < 2 ^ 64 then some (.int (a ^ b.toNat)) else none
  | _, _ => none
def oNeg (x : D) : Option D := match x with
  | .int a => some (.int (-a))
  | _ => none
def oNot (x : D) : Option D := match x with
  | .bl b => some (.bl (!b))
  | _ => none

/-! ### in -/
def keyOf (d : D) : Option DK := match d with
  | .int z => some (.i z)
  | .str x => some (.s x)
  | _ => none
def look (k : DK) : List (DK × D) → Option D
  | [] => none
  | (j, d) :: r => if j = k then some d else look k r
def isIn (x c : D) : Option Bool := match c with
  | .lst _ xs => if plainD 40 x && xs.all (plainD 39) then some (xs.any fun y => eqvD y x) else none
  | .tup xs => if plainD 40 x && xs.all (plainD 39) then some (xs.any fun y => eqvD y x) else none
  | .dct _ kvs => (keyOf x).map fun k => (look k kvs).isSome
  | .str z => match x with
    | .str y => match y.cps.toList with
      | [c] => some (decide (c ∈ z.cps.toList))
      | _ => none
    | _ => none
  | _ => none
def oIn (x c : D) : Option D := (isIn x c).map .bl
def oNotIn (x c : D) : Option D := (isIn x c).map fun b => .bl (!b)

/-! ### places -/
def oIx (c i : D) : Option D := match c, i with
  | .lst _ xs, .int z => L2.atI xs z
  | .tup xs, .int z => L2.atI xs z
  | .scr zs, .int z => (L2.atI zs z).map .int
  | .str x, .int z => if x.length ≤ sizeLine then (L2.atI x.cps.toList z).map fun c => .str ⟨#[c]⟩ else none
  | .dct _ kvs, k => (keyOf k).bind fun k => look k kvs
  | _, _ => none
def cutL {α : Type} (xs : List α) (lo hi : Option Int) : List α := (xs.drop (HT.sIx xs.length 0 lo)).take (HT.sIx xs.length xs.length hi - HT.sIx xs.length 0 lo)
/-- a bound of a slice: left out, or an int -/
def oSl (lo hi : Option Int) (c : D) : Option D := match c with
  | .lst _ xs => some (.lst true (cutL xs lo hi))
  | .tup xs => some (.tup (cutL xs lo hi))
  | .str x => if x.length ≤ sizeLine then some (.str (L2.cutS x lo hi)) else none
  | _ => none
def oRev (c : D) : Option D := match c with
  | .lst _ xs => some (.lst true xs.reverse)
  | .tup xs => some (.tup xs.reverse)
  | _ => none

/-! ### built-ins -/
def oLen (x : D) : Option D := match x with
  | .lst _ xs => some (.int xs.length)
  | .tup xs => some (.int xs.length)
  | .dct _ xs => some (.int xs.length)
  | .scr xs => some (.int xs.length)
  | .str x => if x.length ≤ sizeLine then some (.int x.length) else none
  | _ => none
def oAbs (x : D) : Option D := match x with
  | .int a => some (.int (if a < 0 then -a else a))
  | _ => none
def oInt (x : D) : Option D := match x with
  | .int a => some (.int a)
  | .bl b => some (.int (if b then 1 else 0))
  | _ => none
def oList (x : D) : Option D := match x with
  | .lst _ xs => some (.lst true xs)
  | .tup xs => some (.lst true xs)
  | _ => none
def oTuple (x : D) : Option D := match x with
  | .lst _ xs => some (.tup xs)
  | .tup xs => some (.tup xs)
  | _ => none
def oMax2 (x y : D) : Option D := match x, y with
  | .int i, .int j => some (.int (if j > i then j else i))
  | _, _ => none
def oMin2 (x y : D) : Option D := match x, y with
  | .int i, .int j => some (.int (if j < i then j else i))
  | _, _ => none
def blsOf : List D → Option (List Bool)
  | [] => some []
  | .bl b :: r => (blsOf r).map (b :: ·)
  | _ => none
def strsOf : List D → Option (List Str)
  | [] => some []
  | .str b :: r => (strsOf r).map (b :: ·)
  | _ => none
def oAll (x : D) : Option D := match x with
  | .lst _ xs => (blsOf xs).map fun bs => .bl (bs.all id)
  | _ => none
def oAny (x : D) : Option D := match x with
  | .lst _ xs => (blsOf xs).map fun bs => .bl (bs.any id)
  | _ => none
def oSum (x : D) : Option D := match x with
  | .lst _ xs => (intsOf xs).map fun bs => .int bs.sum
  | _ => none
def showD : Nat → D → Bool
  | _, .non => true
  | _, .bl _ => true
  | _, .int z => decide (z.natAbs.log2 < 1920)
  | _, .str _ => true
  | n + 1, .lst _ xs => xs.all (showD n)
  | n + 1, .tup xs => xs.all (showD n)
  | _, _ => false
def oRepr (x : D) : Option D := if showD 40 x && decide ((PyData.shown (toPD x)).length ≤ sizeLine) then some (.str (PyData.shown (toPD x))) else none
inductive Ty where
  | tstr | tint | tbool | tlist | ttuple | tdict
  deriving DecidableEq
def isTy (x : D) (t : Ty) : Option Bool := match x with
  | .non => some false
  | .bl _ => some (decide (t = .tbool ∨ t = .tint))
  | .int _ => some (decide (t = .tint))
  | .str _ => some (decide (t = .tstr))
  | .lst _ _ => some (decide (t = .tlist))
  | .tup _ => some (decide (t = .ttuple))
  | _ => none
def oIsi (ts : List Ty) (x : D) : Option D := match ts with
  | [] => some (.bl false)
  | t :: r => match isTy x t with
    | some true => some (.bl true)
    | some false => oIsi r x
    | none => none
def oJoin (s x : D) : Option D := match s, x with
  | .str a, .lst _ xs => (strsOf xs).bind fun ys => if (ys.map (·.length)).sum + ys.length * a.length ≤ 16777216 then some (.str (PySem.Txt.join a ys)) else none
  | .str a, .tup xs => (strsOf xs).bind fun ys => if (ys.map (·.length)).sum + ys.length * a.length ≤ 16777216 then some (.str (PySem.Txt.join a ys)) else none
  | _, _ => none
def firstIx (p : D → Bool) : List D → Option Nat
  | [] => none
  | x :: r => if p x then some 0 else (firstIx p r).map (· + 1)
def firstIxS (z : Str) : List Str → Option Nat
  | [] => none
  | x :: r => if x = z then some 0 else (firstIxS z r).map (· + 1)
def oIndex (c x : D) : Option D := match c with
  | .lst _ xs => if plainD 40 x && xs.all (plainD 39) then (firstIx (fun y => eqvD y x) xs).map fun n => .int n else none
  | .tup xs => match x with
    | .str z => (strsOf xs).bind fun ys => (firstIxS z ys).map fun n => .int n
    | _ => none
  | _ => none
/-- range(n), range(a, b) as what is walked -/
def itRange (x : D) : Option (List D) := match x with
  | .int n => if n.natAbs < 2 ^ 60 then some ((List.range n.toNat).map fun (i : Nat) => D.int (i : Int)) else none
  | _ => none
def itSeq (x : D) : Option (List D) := match x with
  | .lst _ xs => some xs
  | .tup xs => some xs
  | .str z => some (signs z)
  | .dct false kvs => some (kvs.map fun p => keyD p.1)
  | _ => none
def itEnum (x : D) : Option (List D) := match x with
  | .lst _ xs => some (xs.zipIdx.map fun p => .tup [.int p.2, p.1])
  | .tup xs => some (xs.zipIdx.map fun p => .tup [.int p.2, p.1])
  | _ => none
def itZip (x y : D) : Option (List D) := match itemsD x, itemsD y with
  | some xs, some ys => some ((xs.zip ys).map fun p => .tup [p.1, p.2])
  | _, _ => none

/-! ### in place -/
def mAppend (d : D) (xs : List D) : Option D := match d, xs with
  | .lst true ys, [x] => if ys.length < sizeLine then some (.lst true (ys ++ [x])) else none
  | _, _ => none
def mExtend (d : D) (xs : List D) : Option D := match d, xs with
  | .lst true ys, [.lst _ zs] => if ys.length + zs.length ≤ sizeLine then some (.lst true (ys ++ zs)) else none
  | _, _ => none
def mInsert (d : D) (xs : List D) : Option D := match d, xs with
  | .lst true ys, [.int i, x] => if ys.length < sizeLine ∧ 0 ≤ i ∧ i < 2 ^ 63 then some (.lst true (ys.take i.toNat ++ x :: ys.drop i.toNat)) else none
  | _, _ => none
end HF
namespace HF
open PySem (Str PyData sizeLine)
/-! ### by lists of arguments -/
def n1 (op : D → Option D) (ds : List D) : Option D := match ds with
  | [x] => op x
  | _ => none
def n2 (op : D → D → Option D) (ds : List D) : Option D := match ds with
  | [x, y] => op x y
  | _ => none
/-- a bound of a slice -/
def evPart (o : Option Ev) (r : Env) : M (Option Int) := match o with
  | none => ret none
  | some f => bnd (f r) fun d => match d with
    | .int z => ret (some z)
    | _ => fail
def eSl (f : Ev) (lo hi : Option Ev) : Ev := fun r => bnd (f r) fun c => bnd (evPart lo r) fun l => bnd (evPart hi r) fun h => lift (oSl l h c)
end HF

/-! HF: operators over plain data. -/
namespace HF
open PySem PySem.Spec L2
open PyProof.Rows hiding St
section
variable {K : PySem.W.Frag} {H : Hp} {io : List Addr}
/-! ### plain data as the library reads it -/
theorem RpL.dp_of : ∀ {ds : List D} {vs : List V} {os : List Addr}, RpL K H io ds vs os → (∀ d ∈ ds, ∀ v os, Rp K H io d v os → Dp K H v (toPD d)) → DpAll K H vs (toPDL ds)
  | _, _, _, .nil, _ => by rw [toPDL]; exact .nil
  | _, _, _, .cons h r, f => by rw [toPDL]; exact .cons (f _ List.mem_cons_self _ _ h) (r.dp_of fun d hd => f d (List.mem_cons_of_mem _ hd))
theorem Rp.dp : ∀ (n : Nat) {d : D} {v : V} {os : List Addr}, Rp K H io d v os → plainD n d = true → Dp K H v (toPD d) := by
  intro n
  induction n with
  | zero =>
    intro d v os x h
    cases x with
    | non => rw [toPD]; exact .non
    | bl b => rw [toPD]; exact .bl b
    | int z => rw [toPD]; exact .int z
    | str h => rw [toPD]; exact .str _
    | _ => simp [plainD] at h
  | succ n ih =>
    intro d v os x h
    cases x with
    | non => rw [toPD]; exact .non
    | bl b => rw [toPD]; exact .bl b
    | int z => rw [toPD]; exact .int z
    | str h => rw [toPD]; exact .str _
    | lstS hl r =>
      rw [toPD]
      have hd := List.all_eq_true.mp (show (List.all _ (plainD n)) = true from h)
      exact .lst hl.sq (r.dp_of fun d m v os x => ih x (hd d m))
    | lstO hl ni r =>
      rw [toPD]
      have hd := List.all_eq_true.mp (show (List.all _ (plainD n)) = true from h)
      exact .lst (SqL.of hl) (r.dp_of fun d m v os x => ih x (hd d m))
    | tup hl r =>
      rw [toPD]
      have hd := List.all_eq_true.mp (show (List.all _ (plainD n)) = true from h)
      exact .tup hl.sqT (r.dp_of fun d m v os x => ih x (hd d m))
    | _ => simp [plainD] at h
theorem RpL.lay_of {n : Nat} : ∀ {ds : List D} {vs : List V} {os : List Addr}, RpL K H io ds vs os → (∀ d ∈ ds, ∀ v os, Rp K H io d v os → (toPD d).canLay0 = true ∧ (toPD d).depth ≤ n) → PyData.canLayAll0 (toPDL ds) = true ∧ PyData.depthAll (toPDL ds) ≤ n
  | _, _, _, .nil, _ => by rw [toPDL]; exact ⟨rfl, Nat.zero_le _⟩
  | _, _, _, .cons h r, f => by
    rw [toPDL]
    obtain ⟨a, b⟩ := f _ List.mem_cons_self _ _ h
    obtain ⟨a', b'⟩ := r.lay_of fun d hd => f d (List.mem_cons_of_mem _ hd)
    exact ⟨by rw [PyData.canLayAll0, a, a']; rfl, by rw [PyData.depthAll]; exact Nat.max_le.mpr ⟨b, b'⟩⟩
theorem Rp.lay : ∀ (n : Nat) {d : D} {v : V} {os : List Addr}, Rp K H io d v os → plainD n d = true → (toPD d).canLay0 = true ∧ (toPD d).depth ≤ n := by
  intro n
  induction n with
  | zero =>
    intro d v os x h
    cases x with
    | non => rw [toPD]; exact ⟨rfl, Nat.zero_le _⟩
    | bl b => rw [toPD]; exact ⟨rfl, Nat.zero_le _⟩
    | int z => rw [toPD]; exact ⟨rfl, Nat.zero_le _⟩
    | str hs => rw [toPD]; exact ⟨hs, Nat.zero_le _⟩
    | _ => simp [plainD] at h
  | succ n ih =>
    intro d v os x h
    have key : ∀ {ds : List D} {vs : List V} {os : List Addr}, RpL K H io ds vs os → List.all ds (plainD n) = true → PyData.canLayAll0 (toPDL ds) = true ∧ PyData.depthAll (toPDL ds) + 1 ≤ n + 1 := fun r h => by
      have hd := List.all_eq_true.mp h
      obtain ⟨a, b⟩ := r.lay_of fun d m v os x => ih x (hd d m)
      exact ⟨a, Nat.succ_le_succ b⟩
    cases x with
    | non => rw [toPD]; exact ⟨rfl, Nat.zero_le _⟩
    | bl b => rw [toPD]; exact ⟨rfl, Nat.zero_le _⟩
    | int z => rw [toPD]; exact ⟨rfl, Nat.zero_le _⟩
    | str hs => rw [toPD]; exact ⟨hs, Nat.zero_le _⟩
    | lstS hl r => rw [toPD, PyData.canLay0, PyData.depth]; exact key r h
    | lstO hl ni r => rw [toPD, PyData.canLay0, PyData.depth]; exact key r h
    | tup hl r => rw [toPD, PyData.canLay0, PyData.depth]; exact key r h
    | _ => simp [plainD] at h
theorem Rp.shaped {n : Nat} {d : D} {v : V} {os : List Addr} (x : Rp K H io d v os) (h : plainD n d = true) (hn : n ≤ 64) : SeqAt.shaped (toPD d) = true := by
  obtain ⟨a, b⟩ := x.lay n h
  show ((toPD d).canLay0 && decide ((toPD d).depth ≤ 64)) = true
  rw [a, decide_eq_true (Nat.le_trans b hn)]
  rfl
end
section
variable {X : Cx}
theorem Rp.int_inv {K : PySem.W.Frag} {H : Hp} {io : List Addr} {z : Int} {v : V} {os : List Addr} (h : Rp K H io (.int z) v os) : v = .int z := by cases h; rfl
theorem Rp.bl_inv {K : PySem.W.Frag} {H : Hp} {io : List Addr} {z : Bool} {v : V} {os : List Addr} (h : Rp K H io (.bl z) v os) : v = .bl z := by cases h; rfl
theorem Rp.str_inv {K : PySem.W.Frag} {H : Hp} {io : List Addr} {z : Str} {v : V} {os : List Addr} (h : Rp K H io (.str z) v os) : v = .str z ∧ PyData.strOk z = true := by
  cases h with
  | str h => exact ⟨rfl, h⟩
abbrev Ext (H H' : Hp) : Prop := ∀ a o, H a = some o → H' a = some o
/-- what an answer without objects asks -/
theorem give_bl {K : PySem.W.Frag} {H : Hp} {io : List Addr} {d : D} {Q : VK} {b : Bool} (e : d = .bl b) (q : ∀ v H' qs, Ext H H' → Rp K H' io d v qs → qs.Nodup → (∀ a ∈ qs, H a = none) → Q v H') : Q (.bl b) H := by
  subst e; exact q _ _ [] (fun _ _ h => h) (.bl b) List.nodup_nil nil_all
theorem give_int {K : PySem.W.Frag} {H : Hp} {io : List Addr} {d : D} {Q : VK} {b : Int} (e : d = .int b) (q : ∀ v H' qs, Ext H H' → Rp K H' io d v qs → qs.Nodup → (∀ a ∈ qs, H a = none) → Q v H') : Q (.int b) H := by
  subst e; exact q _ _ [] (fun _ _ h => h) (.int b) List.nodup_nil nil_all
theorem give_str {K : PySem.W.Frag} {H : Hp} {io : List Addr} {d : D} {Q : VK} {b : Str} (e : d = .str b) (h : PyData.strOk b = true) (q : ∀ v H' qs, Ext H H' → Rp K H' io d v qs → qs.Nodup → (∀ a ∈ qs, H a = none) → Q v H') : Q (.str b) H := by
  subst e; exact q _ _ [] (fun _ _ h => h) (.str h) List.nodup_nil nil_all
/-- a new list whose parts are no name's own -/
theorem give_lst {K : PySem.W.Frag} {H : Hp} {io : List Addr} {d : D} {ds : List D} {vs : List V} {Q : VK} (bl : BL io H) (e : d = .lst true ds) (r : RpL K H io ds vs []) (q : ∀ v H' qs, Ext H H' → Rp K H' io d v qs → qs.Nodup → (∀ a ∈ qs, H a = none) → Q v H') : ∀ p, H p = none → Q (.ref p) (upd H p (.lst vs)) := fun p hp => by
  subst e
  exact q _ _ [p] (ext_upd hp) (Rp.newL bl hp r) (by simp) fun a ha => by rw [List.mem_singleton.mp ha]; exact hp
theorem give_tup {K : PySem.W.Frag} {H : Hp} {io : List Addr} {d : D} {ds : List D} {vs : List V} {Q : VK} (bl : BL io H) (e : d = .tup ds) (r : RpL K H io ds vs []) (q : ∀ v H' qs, Ext H H' → Rp K H' io d v qs → qs.Nodup → (∀ a ∈ qs, H a = none) → Q v H') : ∀ (p : Addr) (o : Obj), H p = none → o.dict = none → Q (.ref p) (upd H p (.frz o (.tup vs))) := fun p o hp ho => by
  subst e
  exact q _ _ [] (ext_upd hp) (Rp.newT ho bl hp r) List.nodup_nil nil_all
theorem give_old {K : PySem.W.Frag} {H : Hp} {io : List Addr} {d : D} {v : V} {Q : VK} (x : Rp K H io d v []) (q : ∀ v H' qs, Ext H H' → Rp K H' io d v qs → qs.Nodup → (∀ a ∈ qs, H a = none) → Q v H') : Q v H :=
  q _ _ [] (fun _ _ h => h) x List.nodup_nil nil_all
theorem Rp.lst_still {K : PySem.W.Frag} {H : Hp} {io : List Addr} {o : Bool} {ds : List D} {v : V} {os : List Addr} (h : Rp K H io (.lst o ds) v os) (s : stillIn (.lst o ds) = true) : ∃ a vs, v = .ref a ∧ Rd H a (.lst vs) ∧ RpL K H io ds vs [] := by
  obtain ⟨a, vs, ps, e, hl, r, _, _⟩ := h.lst_inv
  have : ps = [] := r.still_nil s
  subst this
  exact ⟨a, vs, e, hl, r⟩
theorem Rp.tup_still {K : PySem.W.Frag} {H : Hp} {io : List Addr} {ds : List D} {v : V} {os : List Addr} (h : Rp K H io (.tup ds) v os) (s : stillIn (.tup ds) = true) : ∃ a vs, v = .ref a ∧ SqT K H a vs ∧ RpL K H io ds vs [] := by
  obtain ⟨a, vs, e, hl, r⟩ := h.tup_inv
  have s' : still (.tup ds) = true := s
  rw [still] at s'
  have : os = [] := r.still_nil s'
  subst this
  exact ⟨a, vs, e, hl, r⟩

theorem Rp.still0 {K : PySem.W.Frag} {H : Hp} {io : List Addr} {ds : List D} {v : V} {os : List Addr} (h : Rp K H io (.tup ds) v os) (s : stillIn (.tup ds) = true) : Rp K H io (.tup ds) v [] := by
  have z : os = [] := h.still_nil s
  subst z
  exact h
/-! ### == and != -/
theorem o_eq : Op2 X.K false false oEq (rEqD X.K) := by
  intro io H x y dx dy d os ps Q bl rx ry _ _ e q
  unfold oEq at e
  split at e
  · rename_i h
    rw [Bool.and_eq_true] at h
    cases e
    exact ⟨_, _, rx.dp 40 h.1, ry.dp 40 h.2, rx.shaped h.1 (by decide), ry.shaped h.2 (by decide), give_bl rfl q⟩
  · cases e
theorem o_ne : Op2 X.K false false oNe (rNeD X.K) := by
  intro io H x y dx dy d os ps Q bl rx ry _ _ e q
  unfold oNe at e
  split at e
  · rename_i h
    rw [Bool.and_eq_true] at h
    cases e
    exact ⟨_, _, rx.dp 40 h.1, ry.dp 40 h.2, rx.shaped h.1 (by decide), ry.shaped h.2 (by decide), give_bl rfl q⟩
  · cases e
/-! ### order -/
def rLt : R2 := fun x y H Q => (∃ i j, x = .int i ∧ y = .int j ∧ Q (.bl (decide (i < j))) H) ∨ ∃ i j, x = .str i ∧ y = .str j ∧ Q (.bl (decide (i.cps.toList < j.cps.toList))) H
theorem op_ltA : OpR X (compareOp .Lt) rLt := OpR.or op_lt op_lt_str
theorem o_lt : Op2 X.K false false oLt rLt := by
  intro io H x y dx dy d os ps Q bl rx ry _ _ e q
  cases dx <;> cases dy <;> first | cases e | skip
  · exact .inl ⟨_, _, rx.int_inv, ry.int_inv, give_bl rfl q⟩
  · exact .inr ⟨_, _, rx.str_inv.1, ry.str_inv.1, give_bl rfl q⟩
theorem o_le : Op2 X.K false false oLe (fun x y H Q => ∃ i j, x = .int i ∧ y = .int j ∧ Q (.bl (decide (i ≤ j))) H) := by
  intro io H x y dx dy d os ps Q bl rx ry _ _ e q
  cases dx <;> cases dy <;> first | cases e | skip
  exact ⟨_, _, rx.int_inv, ry.int_inv, give_bl rfl q⟩
def rGt : R2 := fun x y H Q => (∃ i j, x = .int i ∧ y = .int j ∧ Q (.bl (decide (j < i))) H) ∨ ∃ i j, x = .str i ∧ y = .str j ∧ Q (.bl (decide (j.cps.toList < i.cps.toList))) H
theorem o_gt : Op2 X.K false false oGt rGt := by
  intro io H x y dx dy d os ps Q bl rx ry _ _ e q
  cases dx <;> cases dy <;> first | cases e | skip
  · exact .inl ⟨_, _, rx.int_inv, ry.int_inv, give_bl rfl q⟩
  · exact .inr ⟨_, _, rx.str_inv.1, ry.str_inv.1, give_bl rfl q⟩
theorem o_ge : Op2 X.K false false oGe (fun x y H Q => ∃ i j, x = .int i ∧ y = .int j ∧ Q (.bl (decide (j ≤ i))) H) := by
  intro io H x y dx dy d os ps Q bl rx ry _ _ e q
  cases dx <;> cases dy <;> first | cases e | skip
  exact ⟨_, _, rx.int_inv, ry.int_inv, give_bl rfl q⟩

/-! ### + - * // % ** -/
def rCatR : R2 := fun x y H Q => ∃ l b xs zs, x = .ref l ∧ y = .ref b ∧ Rd H l (.lst xs) ∧ Rd H b (.lst zs) ∧ xs.length + zs.length ≤ sizeLine ∧ ∀ p, H p = none → Q (.ref p) (upd H p (.lst (xs ++ zs)))
theorem op_catR : OpR X (binaryOp .Add) rCatR := by
  intro pins s σ H x y v u Q I rx ry h
  obtain ⟨l, b, xs, zs, rfl, rfl, hx, hz, hn, q⟩ := h
  obtain rfl : v = Value.ref l := rx
  obtain rfl : u = Value.ref b := ry
  obtain ⟨_, us, n1, v1, g1⟩ := (show ObjOk X.prog X.w H s.heap l (.lst xs) from hx.ok I.hok)
  obtain ⟨_, ws, n2, v2, g2⟩ := (show ObjOk X.prog X.w H s.heap b (.lst zs) from hz.ok I.hok)
  have e1 := v1.length
  have e2 := v2.length
  have ea : us.toArray ++ ws.toArray = (us ++ ws).toArray := by simp
  refine PySem.P.add_list g1 g2 ?_ (by simp only [List.size_toArray]; omega)
  rw [ea]
  refine ⟨.ref _, _, I.lnew (t' := s.toks) (v1.append v2) ?_, rfl, q _ I.fresh⟩
  rw [List.length_append]; exact hn
def rAddA (K : PySem.W.Frag) : R2 := fun x y H Q => (∃ i j, x = .int i ∧ y = .int j ∧ Q (.int (i + j)) H) ∨ (∃ i j, x = .str i ∧ y = .str j ∧ i.length + j.length ≤ sizeLine ∧ Q (.str (i ++ j)) H) ∨ rCatR x y H Q ∨ rCatF K x y H Q
theorem op_addA : OpR X (binaryOp .Add) (rAddA X.K) := OpR.or op_add (OpR.or op_add_str (OpR.or op_catR op_catF))
theorem strOk_app {a b : Str} (h1 : PyData.strOk a = true) (h2 : PyData.strOk b = true) : PyData.strOk (a ++ b) = true := by
  obtain ⟨a⟩ := a
  obtain ⟨b⟩ := b
  show (a ++ b).all _ = true
  have h1 : a.all (· < 0x110000) = true := h1
  have h2 : b.all (· < 0x110000) = true := h2
  rw [Array.all_append, h1, h2]; rfl
theorem o_add : Op2 X.K true true oAdd (rAddA X.K) := by
  intro io H x y dx dy d os ps Q bl rx ry mx my e q
  cases dx <;> cases dy <;> first | cases e | skip
  · exact .inl ⟨_, _, rx.int_inv, ry.int_inv, give_int rfl q⟩
  · unfold oAdd at e
    dsimp only at e
    split at e
    · rename_i hl
      cases e
      exact .inr (.inl ⟨_, _, rx.str_inv.1, ry.str_inv.1, hl, give_str rfl (strOk_app rx.str_inv.2 ry.str_inv.2) q⟩)
    · cases e
  · unfold oAdd at e
    dsimp only at e
    split at e
    · rename_i hl
      cases e
      obtain ⟨a, vs, ex, hx, r1⟩ := rx.lst_still (mx rfl)
      obtain ⟨b, ws, ey, hy, r2⟩ := ry.lst_still (my rfl)
      have l1 := r1.length
      have l2 := r2.length
      exact .inr (.inr (.inl ⟨a, b, vs, ws, ex, ey, hx, hy, by omega, give_lst bl rfl (r1.append r2) q⟩))
    · cases e
  · unfold oAdd at e
    dsimp only at e
    split at e
    · rename_i hl
      cases e
      obtain ⟨a, vs, ex, hx, r1⟩ := rx.tup_still (mx rfl)
      obtain ⟨b, ws, ey, hy, r2⟩ := ry.tup_still (my rfl)
      have l1 := r1.length
      have l2 := r2.length
      refine .inr (.inr (.inr ⟨a, b, vs, ws, ex, ey, hx, hy, by omega, fun z => ?_, fun _ z => ?_, fun _ _ => give_tup bl rfl (r1.append r2) q⟩))
      · subst z
        cases r1
        exact give_old (by rw [← ey]; exact ry.still0 (my rfl)) q
      · subst z
        cases r2
        rw [List.append_nil] at q
        exact give_old (by rw [← ex]; exact rx.still0 (mx rfl)) q
    · cases e
theorem o_sub : Op2 X.K false false oSub (fun x y H Q => ∃ i j, x = .int i ∧ y = .int j ∧ Q (.int (i - j)) H) := by
  intro io H x y dx dy d os ps Q bl rx ry _ _ e q
  cases dx <;> cases dy <;> first | cases e | skip
  exact ⟨_, _, rx.int_inv, ry.int_inv, give_int rfl q⟩
theorem o_fdiv : Op2 X.K false false oFdiv (rI CDiv fun i j => .int (i / j)) := by
  intro io H x y dx dy d os ps Q bl rx ry _ _ e q
  cases dx <;> cases dy <;> first | cases e | skip
  unfold oFdiv at e
  dsimp only at e
  split at e
  · rename_i h; cases e; exact ⟨_, _, rx.int_inv, ry.int_inv, h, give_int rfl q⟩
  · cases e
theorem o_mod : Op2 X.K false false oMod (rI (fun _ j => 0 < j) fun i j => .int (i % j)) := by
  intro io H x y dx dy d os ps Q bl rx ry _ _ e q
  cases dx <;> cases dy <;> first | cases e | skip
  unfold oMod at e
  dsimp only at e
  split at e
  · rename_i h; cases e; exact ⟨_, _, rx.int_inv, ry.int_inv, h, give_int rfl q⟩
  · cases e
theorem o_pow : Op2 X.K false false oPow (rI CPow fun i j => .int (i ^ j.toNat)) := by
  intro io H x y dx dy d os ps Q bl rx ry _ _ e q
  cases dx <;> cases dy <;> first | cases e | skip
  unfold oPow at e
  dsimp only at e
  split at e
  · rename_i h; cases e; exact ⟨_, _, rx.int_inv, ry.int_inv, h, give_int rfl q⟩
  · cases e
def rRepR : R2 := fun x y H Q => ∃ l k xs, x = .ref l ∧ y = .int k ∧ Rd H l (.lst xs) ∧ k.natAbs < 2 ^ 60 ∧ xs.length * k.toNat ≤ sizeLine ∧ ∀ p, H p = none → Q (.ref p) (upd H p (.lst (List.replicate k.toNat xs).flatten))
theorem op_repR : OpR X (binaryOp .Mult) rRepR := by
  intro pins s σ H x y v u Q I rx ry h
  obtain ⟨l, k, xs, rfl, rfl, hx, hk, hn, q⟩ := h
  obtain rfl : v = Value.ref l := rx
  obtain ⟨t, rfl⟩ := ry
  obtain ⟨_, its, n, r, e⟩ := (show ObjOk X.prog X.w H s.heap l (.lst xs) from hx.ok I.hok)
  have hl := r.length
  have szl := sizeLine_eq
  have few : its.toArray.size * k.toNat ≤ sizeLine := by rw [List.size_toArray, ← hl]; exact hn
  have folds : ∀ m : Nat, List.foldl (fun x1 x2 => x1 ++ x2) #[] (List.replicate m its.toArray) = (List.replicate m its).flatten.toArray := fun m => by
    have z := foldl_rep its m []
    rwa [List.nil_append] at z
  have made : List.foldl (fun x1 x2 => x1 ++ x2) #[] (List.replicate (if its.toArray.isEmpty = true then 0 else k.toNat) its.toArray) = (List.replicate k.toNat its).flatten.toArray := by
    rw [folds]
    cases its with
    | nil => simp
    | cons a tl => simp
  refine wpAny_binaryOp_repeat_ref (T := "list") (U := "int") (by decide) ⟨_, e, rfl⟩ (fun s' => typeIs_int s' k t) noFill_list_mul F.fills_int_mul F.slot_int_rmul repeat_list F.slot_int_index.lookup ?_
  refine call_meets F.slot_int_rmul (typeIs_int s k t) F.entry_int_rmul (F.args_int_rmul_2 _ _) (int___rmul___int_list k t l its.toArray n) ⟨e, rfl, ⟨_, e, rfl⟩, ?_⟩
  refine call_meets F.slot_list_mul ⟨_, e, rfl⟩ F.entry_list_mul (F.args_list_mul_2 _ _) (AutoListH.list___mul___list_int_3 l its.toArray n k t ?_ ?_ ?_) ⟨e, ?_⟩
  · rw [fitsIndex_both (by omega) (by omega)]; exact Bool.false_ne_true
  · have z : (sizeLine : Nat) ≤ (2 ^ 63 - 1) / 8 := by decide
    omega
  · rw [notLongL few]; exact Bool.false_ne_true
  · rw [made]
    refine ⟨.ref _, _, I.lnew (t' := s.toks) (r.rep k.toNat) ?_, rfl, q _ I.fresh⟩
    rw [PyProof.Rows.lm_len_rep_flat, Nat.mul_comm]; exact hn
theorem RpL.rep {K : PySem.W.Frag} {H : Hp} {io : List Addr} {ds : List D} {vs : List V} (r : RpL K H io ds vs []) : ∀ n : Nat, RpL K H io (List.replicate n ds).flatten (List.replicate n vs).flatten []
  | 0 => .nil
  | n + 1 => by
    rw [List.replicate_succ, List.replicate_succ, List.flatten_cons, List.flatten_cons]
    exact r.append (r.rep n)
theorem o_mul : Op2 X.K true false oMul (fun x y H Q => rI CMul (fun i j => .int (i * j)) x y H Q ∨ rRepR x y H Q) := by
  intro io H x y dx dy d os ps Q bl rx ry mx _ e q
  cases dx <;> cases dy <;> first | cases e | skip
  · unfold oMul at e
    dsimp only at e
    split at e
    · rename_i h
      cases e
      refine .inl ⟨_, _, rx.int_inv, ry.int_inv, ?_, give_int rfl q⟩
      rcases h with h | h
      · exact .inl (by omega)
      · exact .inr (by omega)
    · cases e
  · unfold oMul at e
    dsimp only at e
    split at e
    · rename_i h
      cases e
      obtain ⟨a, vs, ex, hx, r1⟩ := rx.lst_still (mx rfl)
      exact .inr ⟨a, _, vs, ex, ry.int_inv, hx, h.1, by rw [← r1.length]; exact h.2, give_lst bl rfl (r1.rep _) q⟩
    · cases e
theorem op_mulA : OpR X (binaryOp .Mult) (fun x y H Q => rI CMul (fun i j => .int (i * j)) x y H Q ∨ rRepR x y H Q) := OpR.or op_mul op_repR
end
end HF

/-! HF: in, places, slices, built-ins over plain data. -/
namespace HF
open PySem PySem.Spec L2
open PyProof.Rows hiding St
section
variable {X : Cx}
/-! ### places -/
theorem RpL.atI {K : PySem.W.Frag} {H : Hp} {io : List Addr} {ds : List D} {vs : List V} {z : Int} {d : D} (r : RpL K H io ds vs []) (e : L2.atI ds z = some d) : ∃ v, L2.atI vs z = some v ∧ Rp K H io d v [] := by
  unfold L2.atI at e ⊢
  rw [← r.length]
  cases h : ixN ds.length z with
  | none => rw [h] at e; cases e
  | some j =>
    rw [h] at e
    exact r.getD0 (i := j) e
theorem RpK.look {K : PySem.W.Frag} {H : Hp} {io : List Addr} : ∀ {kds : List (DK × D)} {k : List (Key × V)} {os : List Addr} {q : Key}, RpK K H io kds (k.map fun p => (keyDK p.1, p.2)) os →
    (look (keyDK q) kds = none ∧ valV k q = none) ∨ ∃ d v ps, look (keyDK q) kds = some d ∧ valV k q = some v ∧ Rp K H io d v ps ∧ ∀ a ∈ ps, a ∈ os
  | kds, [], os, q, h => by
    cases h
    exact .inl ⟨rfl, rfl⟩
  | kds, (j, w) :: k, os, q, h => by
    cases h with
    | cons hk h r =>
      rename_i d ds o1 o2
      by_cases e : j = q
      · subst e
        refine .inr ⟨d, w, o1, ?_, valV_pos rfl, h, fun a ha => List.mem_append_left _ ha⟩
        show (if keyDK j = keyDK j then some d else _) = _
        rw [if_pos rfl]
      · have ne : ¬ keyDK j = keyDK q := fun z => e (by
          cases j <;> cases q <;> first | (cases z; rfl) | cases z)
        have l1 : HF.look (keyDK q) ((keyDK j, d) :: ds) = HF.look (keyDK q) ds := by
          show (if keyDK j = keyDK q then some d else _) = _
          rw [if_neg ne]
        rw [l1, valV_neg e]
        rcases RpK.look (q := q) r with z | ⟨d', v', ps, z1, z2, z3, z4⟩
        · exact .inl z
        · exact .inr ⟨d', v', ps, z1, z2, z3, fun a ha => List.mem_append_right _ (z4 a ha)⟩
/-- what stands at a dict's address -/
theorem Rp.dct_inv {K : PySem.W.Frag} {H : Hp} {io : List Addr} {o : Bool} {kds : List (DK × D)} {v : V} {os : List Addr} (h : Rp K H io (.dct o kds) v os) : ∃ a k ps, v = .ref a ∧ Rd H a (.dK k) ∧ RpK K H io kds (k.map fun p => (keyDK p.1, p.2)) ps := by
  cases h with
  | dctS h e r => obtain ⟨k, rfl, rfl⟩ := e; exact ⟨_, k, _, rfl, .inr ⟨_, h⟩, r⟩
  | dctO h e r => obtain ⟨k, rfl, rfl⟩ := e; exact ⟨_, k, _, rfl, .inl h, r⟩
theorem Rp.dct_still {K : PySem.W.Frag} {H : Hp} {io : List Addr} {o : Bool} {kds : List (DK × D)} {v : V} {os : List Addr} (h : Rp K H io (.dct o kds) v os) (s : stillIn (.dct o kds) = true) : ∃ a k, v = .ref a ∧ Rd H a (.dK k) ∧ RpK K H io kds (k.map fun p => (keyDK p.1, p.2)) [] := by
  obtain ⟨a, k, ps, e, hl, r⟩ := h.dct_inv
  have : ps = [] := r.still_nil s
  subst this
  exact ⟨a, k, e, hl, r⟩
theorem Rp.key {K : PySem.W.Frag} {H : Hp} {io : List Addr} {d : D} {v : V} {os : List Addr} {q : DK} (h : Rp K H io d v os) (e : keyOf d = some q) : ∃ k : Key, q = keyDK k ∧ v = kV k := by
  cases h <;> first | cases e | skip
  · exact ⟨.inl _, rfl, rfl⟩
  · exact ⟨.inr _, rfl, rfl⟩
def rIxDct : R2 := fun x y H Q => ∃ a k q v, x = .ref a ∧ Rd H a (.dK k) ∧ y = kV q ∧ valV k q = some v ∧ Q v H
theorem ix_dct : IxR X rIxDct := by
  intro value slice pins s σ H x y v u Q I rx ry h hs
  obtain ⟨a, k, q, w, rfl, hd, rfl, hl, hq⟩ := h
  obtain rfl : v = Value.ref a := rx
  obtain ⟨z, hg, vs, rel, dd⟩ := dk_rd I.hok hd
  obtain ⟨w', hw, rw'⟩ := RelO.some_of (v := w) (o := valueAt vs q) (by rw [← hl]; exact rel.val q)
  exact subscriptTail_builtinR (x := w') dd.typeIs PySem.F.slot_dict_getitem.lookup (wpAny_getItem_of (kV_is ry) dd.mapOf hw ⟨rfl, w, H, I.tok _, rw', hq⟩) hs
def rIxA (K : PySem.W.Frag) : R2 := fun x y H Q => rIx K x y H Q ∨ rIxDct x y H Q
theorem ix_any : IxR X (rIxA X.K) := IxR.or ix_seq ix_dct
theorem strOk_of {x : Str} (h : PyData.strOk x = true) : ∀ c ∈ x.cps.toList, c < 0x110000 := fun c hc => by
  have z : x.cps.all (· < 0x110000) = true := h
  rw [← Array.all_toList] at z
  exact of_decide_eq_true (List.all_eq_true.mp z c hc)
theorem strOk_mk {x : Str} (h : ∀ c ∈ x.cps.toList, c < 0x110000) : PyData.strOk x = true := by
  show x.cps.all (· < 0x110000) = true
  rw [← Array.all_toList]
  exact List.all_eq_true.mpr fun c hc => decide_eq_true (h c hc)
theorem mem_of_atI {α : Type} {xs : List α} {z : Int} {x : α} (h : L2.atI xs z = some x) : x ∈ xs := by
  unfold L2.atI at h
  cases e : ixN xs.length z with
  | none => rw [e] at h; cases h
  | some j => rw [e] at h; exact List.mem_of_getElem? h
theorem o_ix : Op2 X.K true false oIx (rIxA X.K) := by
  intro io H x y dx dy d os ps Q bl rx ry mx my e q
  clear my
  have seqI : ∀ z, dy = .int z → (∀ o ds, dx = .lst o ds → L2.atI ds z = some d → rIxA X.K x y H Q) ∧ (∀ ds, dx = .tup ds → L2.atI ds z = some d → rIxA X.K x y H Q) := by
    intro z ez
    subst ez
    refine ⟨fun o ds ed ea => ?_, fun ds ed ea => ?_⟩
    · subst ed
      obtain ⟨a, vs, ex, hx, r1⟩ := rx.lst_still (mx rfl)
      obtain ⟨v, ev, rv⟩ := r1.atI ea
      exact .inl (.inl ⟨a, vs, z, v, ex, ry.int_inv, .inl hx, ev, give_old rv q⟩)
    · subst ed
      obtain ⟨a, vs, ex, hx, r1⟩ := rx.tup_still (mx rfl)
      obtain ⟨v, ev, rv⟩ := r1.atI ea
      exact .inl (.inr (.inl ⟨a, vs, z, v, ex, ry.int_inv, hx, ev, give_old rv q⟩))
  cases dx with
  | lst o ds =>
    cases dy <;> first | cases e | skip
    exact (seqI _ rfl).1 o ds rfl e
  | tup ds =>
    cases dy <;> first | cases e | skip
    exact (seqI _ rfl).2 ds rfl e
  | scr zs =>
    cases dy <;> first | cases e | skip
    rename_i z
    have e' : (L2.atI zs z).map D.int = some d := e
    cases ha : L2.atI zs z with
    | none => rw [ha] at e'; cases e'
    | some w =>
      rw [ha] at e'
      cases e'
      cases rx with
      | scr hk =>
        refine .inl (.inl ⟨_, _, z, .int w, rfl, ry.int_inv, hk.sq, ?_, give_int rfl q⟩)
        unfold L2.atI at ha ⊢
        rw [List.length_map]
        cases hj : ixN zs.length z with
        | none => rw [hj] at ha; cases ha
        | some j =>
          rw [hj] at ha
          show (zs.map V.int)[j]? = some (V.int w)
          rw [List.getElem?_map, show zs[j]? = some w from ha]; rfl
  | str w =>
    cases dy <;> first | cases e | skip
    rename_i z
    unfold oIx at e
    dsimp only at e
    split at e
    · rename_i hl
      cases ha : L2.atI w.cps.toList z with
      | none => rw [ha] at e; cases e
      | some c =>
        rw [ha] at e
        cases e
        refine .inl (.inr (.inr ⟨w, z, c, rx.str_inv.1, ry.int_inv, hl, ha, give_str rfl ?_ q⟩))
        refine strOk_mk fun c' hc' => ?_
        obtain rfl : c' = c := by simpa using hc'
        exact strOk_of rx.str_inv.2 _ (mem_of_atI ha)
    · cases e
  | dct o kds =>
    have e' : (keyOf dy).bind (fun k => look k kds) = some d := by
      cases dy <;> exact e
    cases hk : keyOf dy with
    | none => rw [hk] at e'; cases e'
    | some k =>
      rw [hk] at e'
      have e2 : look k kds = some d := e'
      obtain ⟨kk, rfl, rfl⟩ := ry.key hk
      obtain ⟨a, k', ex, hx, r1⟩ := rx.dct_still (mx rfl)
      rcases r1.look (q := kk) with ⟨z, _⟩ | ⟨d', v, qs, z1, z2, z3, z4⟩
      · rw [e2] at z; cases z
      · rw [e2] at z1; cases z1
        have : qs = [] := by
          cases qs with
          | nil => rfl
          | cons b t => exact absurd (z4 b List.mem_cons_self) (fun z => nomatch z)
        subst this
        exact .inr ⟨a, k', kk, v, ex, hx, rfl, z2, give_old z3 q⟩
  | _ => cases dy <;> cases e

/-! ### in -/
def rInSq (K : PySem.W.Frag) (neg : Bool) : R2 := fun x y H Q => ∃ d ds, Dp K H x d ∧ (Dp K H y (.list ds) ∨ Dp K H y (.tuple ds)) ∧ SeqAt.shaped d = true ∧ SeqAt.shaped (.list ds) = true ∧ Q (.bl (if neg then !(ds.any fun z => PyData.eqv z d) else ds.any fun z => PyData.eqv z d)) H
theorem op_inSq (hu : X.A.units + 65 < cLine) : OpR X (compareOp .In) (rInSq X.K false) := by
  intro pins s σ H x y v u Q I rx ry h
  obtain ⟨d, ds, hd, he, sd, se, q⟩ := h
  obtain ⟨as, r1⟩ := Dp.reads I d x v hd rx
  have back : EP X pins σ Q (.bool (ds.any fun z => PyData.eqv z d)) s := ⟨.bl _, H, I, rfl, q⟩
  rcases he with he | he
  · obtain ⟨bs, r2⟩ := Dp.reads I _ y u he ry
    exact SeqAt.in_list_reads r2 r1 (SeqAt.canLay_of_shaped se) (SeqAt.canLay_of_shaped sd) (room_in_shaped sd hu) back
  · obtain ⟨bs, r2⟩ := Dp.reads I _ y u he ry
    exact SeqAt.in_tuple_reads r2 r1 (SeqAt.canLay_of_shaped se) (SeqAt.canLay_of_shaped sd) (room_in_shaped sd hu) back
theorem op_ninSq (hu : X.A.units + 65 < cLine) : OpR X (compareOp .NotIn) (rInSq X.K true) := by
  intro pins s σ H x y v u Q I rx ry h
  obtain ⟨d, ds, hd, he, sd, se, q⟩ := h
  obtain ⟨as, r1⟩ := Dp.reads I d x v hd rx
  have back : EP X pins σ Q (.bool (!(ds.any fun z => PyData.eqv z d))) s := ⟨.bl _, H, I, rfl, q⟩
  rcases he with he | he
  · obtain ⟨bs, r2⟩ := Dp.reads I _ y u he ry
    exact SeqAt.notIn_list_reads r2 r1 (SeqAt.canLay_of_shaped se) (SeqAt.canLay_of_shaped sd) (room_in_shaped sd hu) back
  · obtain ⟨bs, r2⟩ := Dp.reads I _ y u he ry
    exact SeqAt.notIn_tuple_reads r2 r1 (SeqAt.canLay_of_shaped se) (SeqAt.canLay_of_shaped sd) (room_in_shaped sd hu) back
def rInDc (neg : Bool) : R2 := fun x y H Q => ∃ a k q, y = .ref a ∧ Rd H a (.dK k) ∧ x = kV q ∧ Q (.bl (if neg then !(valV k q).isSome else (valV k q).isSome)) H
theorem op_inDc (hu : X.A.units + 1 < cLine) : OpR X (compareOp .In) (rInDc false) := by
  intro pins s σ H x y v u Q I rx ry h
  obtain ⟨a, k, q, rfl, hd, rfl, hq⟩ := h
  obtain rfl : u = Value.ref a := ry
  exact d_in hu I (.inl ⟨k, q, hd, rfl, rfl⟩) rx fun s' I' => ⟨.bl _, H, I', rfl, hq⟩
theorem op_ninDc (hu : X.A.units + 1 < cLine) : OpR X (compareOp .NotIn) (rInDc true) := by
  intro pins s σ H x y v u Q I rx ry h
  obtain ⟨a, k, q, rfl, hd, rfl, hq⟩ := h
  obtain rfl : u = Value.ref a := ry
  exact d_notIn hu I (.inl ⟨k, q, hd, rfl, rfl⟩) rx fun s' I' => ⟨.bl _, H, I', rfl, hq⟩
def rInSg (neg : Bool) : R2 := fun x y H Q => ∃ (c : Nat) (z : Str), x = .str ⟨#[c]⟩ ∧ y = .str z ∧ Q (.bl (if neg then !decide (c ∈ z.cps.toList) else decide (c ∈ z.cps.toList))) H
def rInA (K : PySem.W.Frag) (neg : Bool) : R2 := fun x y H Q => rInSq K neg x y H Q ∨ rInDc neg x y H Q ∨ rInSg neg x y H Q
theorem op_inA (hu : X.A.units + 65 < cLine) : OpR X (compareOp .In) (rInA X.K false) := OpR.or (op_inSq hu) (OpR.or (op_inDc (by omega)) op_in_sign)
theorem op_ninA (hu : X.A.units + 65 < cLine) : OpR X (compareOp .NotIn) (rInA X.K true) := OpR.or (op_ninSq hu) (OpR.or (op_ninDc (by omega)) op_notIn_sign)
theorem any_toPDL (x : D) : ∀ xs : List D, ((toPDL xs).any fun z => PyData.eqv z (toPD x)) = xs.any fun y => eqvD y x
  | [] => by rw [toPDL]; rfl
  | y :: ys => by rw [toPDL, List.any_cons, List.any_cons, any_toPDL x ys]; rfl
theorem in_any {K : PySem.W.Frag} {neg : Bool} {io : List Addr} {H : Hp} {x y : V} {dx dy : D} {os ps : List Addr} {b : Bool} {Q : VK} (rx : Rp K H io dx x os) (ry : Rp K H io dy y ps) (e : isIn dx dy = some b) (q : Q (.bl (if neg then !b else b)) H) : rInA K neg x y H Q := by
  have sq : ∀ (ds : List D) (v : V) (qs : List Addr), (dy = .tup ds ∨ ∃ o, dy = .lst o ds) → (plainD 40 dx && ds.all (plainD 39)) = true → (some (ds.any fun y => eqvD y dx)) = some b → rInA K neg x y H Q := by
    intro ds v qs hd hp e
    rw [Bool.and_eq_true] at hp
    have e' := Option.some.inj e
    rw [← any_toPDL] at e'
    subst e'
    rcases hd with rfl | ⟨o, rfl⟩
    · have hp2 : plainD 40 (.tup ds) = true := hp.2
      have a1 := ry.dp 40 hp2
      have a2 := ry.shaped hp2 (by decide)
      rw [toPD] at a1 a2
      exact .inl ⟨_, _, rx.dp 40 hp.1, .inr a1, rx.shaped hp.1 (by decide), a2, q⟩
    · have hp2 : plainD 40 (.lst o ds) = true := hp.2
      have a1 := ry.dp 40 hp2
      have a2 := ry.shaped hp2 (by decide)
      rw [toPD] at a1 a2
      exact .inl ⟨_, _, rx.dp 40 hp.1, .inl a1, rx.shaped hp.1 (by decide), a2, q⟩
  cases dy with
  | lst o ds =>
    unfold isIn at e
    dsimp only at e
    split at e
    · rename_i h; exact sq ds y ps (.inr ⟨o, rfl⟩) h e
    · cases e
  | tup ds =>
    unfold isIn at e
    dsimp only at e
    split at e
    · rename_i h; exact sq ds y ps (.inl rfl) h e
    · cases e
  | dct o kds =>
    have e' : (keyOf dx).map (fun k => (look k kds).isSome) = some b := e
    cases hk : keyOf dx with
    | none => rw [hk] at e'; cases e'
    | some k =>
      rw [hk] at e'
      obtain ⟨kk, rfl, rfl⟩ := rx.key hk
      obtain ⟨a, k', qs, ex, hx, r1⟩ := ry.dct_inv
      refine .inr (.inl ⟨a, k', kk, ex, hx, rfl, ?_⟩)
      have eb : (look (keyDK kk) kds).isSome = b := Option.some.inj e'
      rcases r1.look (q := kk) with ⟨z1, z2⟩ | ⟨d', v, qs, z1, z2, _, _⟩
      · rw [z1] at eb; rw [z2]; cases eb; exact q
      · rw [z1] at eb
        rw [z2]
        have : (some v).isSome = b := eb
        rw [this]; exact q
  | str z =>
    cases dx with
    | str w =>
      unfold isIn at e
      dsimp only at e
      split at e
      · rename_i c hc
        cases e
        have hw : w = ⟨#[c]⟩ := by
          obtain ⟨w⟩ := w
          have h2 : w.toList = [c] := hc
          have h3 : w = #[c] := Array.toList_inj.mp h2
          rw [h3]
        exact .inr (.inr ⟨c, z, by rw [rx.str_inv.1, hw], ry.str_inv.1, q⟩)
      · cases e
    | _ => cases e
  | _ => cases e
theorem o_in : Op2 X.K false false oIn (rInA X.K false) := by
  intro io H x y dx dy d os ps Q bl rx ry _ _ e q
  unfold oIn at e
  cases hb : isIn dx dy with
  | none => rw [hb] at e; cases e
  | some b => rw [hb] at e; cases e; exact in_any rx ry hb (give_bl rfl q)
theorem o_nin : Op2 X.K false false oNotIn (rInA X.K true) := by
  intro io H x y dx dy d os ps Q bl rx ry _ _ e q
  unfold oNotIn at e
  cases hb : isIn dx dy with
  | none => rw [hb] at e; cases e
  | some b => rw [hb] at e; cases e; exact in_any rx ry hb (give_bl rfl q)
end
end HF

/-! HF: slices, built-ins over plain data. -/
namespace HF
open PySem PySem.Spec L2
open PyProof.Rows hiding St
section
variable {X : Cx}
/-! ### bounds and slices -/
def tP (K : PySem.W.Frag) (o : Option Ev) : TO := fun σ H Q => ∃ io b r oss, SR K io b r oss σ H ∧ ∃ z b', evPart o r b = some (z, b') ∧
  ∀ (H' : Hp) (io' : List Addr), Kp io H io' H' → SR K io' b' r oss σ H' → Q z H'
theorem dp_none : PO X none (tP X.K none) := ⟨fun pins s σ H Q I ⟨io, b, r, oss, S, z, b', e, q⟩ => by
  obtain ⟨rfl, rfl⟩ := ret_some e
  exact po_none.run pins s σ H Q I (q H io (Kp.refl _ _) S)⟩
theorem dp_some {e : Expr} {f : Ev} (h : PE X e (tM X.K false f)) : PO X (some e) (tP X.K (some f)) := ⟨fun pins s σ H Q I ⟨io, b, r, oss, S, z, b', ev, q⟩ => by
  refine (po_some h).run pins s σ H Q I ?_
  obtain ⟨d, b1, e1, e2⟩ := bnd_some ev
  refine ⟨io, b, r, oss, S, d, b1, e1, fun v H' io' os k S' x _ => ?_⟩
  cases d <;> first | cases e2 | skip
  exact ⟨_, x.int_inv, q H' io' k S'⟩⟩
def rSlAny (K : PySem.W.Frag) : V → Option Int → Option Int → Hp → VK → Prop := fun x lo hi H Q => rSlL K x lo hi H Q ∨ rSlF K x lo hi H Q ∨ rSlS x lo hi H Q
theorem sl_any : SlR X (rSlAny X.K) := SlR.or sl_list (SlR.or sl_tupF sl_str)
theorem RpL.cut {K : PySem.W.Frag} {H : Hp} {io : List Addr} {ds : List D} {vs : List V} (r : RpL K H io ds vs []) (lo hi : Option Int) : RpL K H io (cutL ds lo hi) (cutV vs lo hi) [] := by
  unfold cutL cutV
  rw [r.length]
  exact (r.drop0 _).take0 _
theorem strOk_cut {z : Str} (h : PyData.strOk z = true) (lo hi : Option Int) : PyData.strOk (cutS z lo hi) = true := strOk_mk fun c hc => strOk_of h c (by
  unfold cutS at hc
  exact List.mem_of_mem_drop (List.mem_of_mem_take (by simpa using hc)))
theorem sIx_whole {α : Type} {xs : List α} {lo hi : Option Int} (h : HT.sIx xs.length 0 lo = 0 ∧ HT.sIx xs.length xs.length hi = xs.length) : cutL xs lo hi = xs := by
  unfold cutL
  rw [h.1, h.2, List.drop_zero, Nat.sub_zero, List.take_length]
theorem o_sl {io : List Addr} {H : Hp} {x : V} {dx d : D} {os : List Addr} {Q : VK} {lo hi : Option Int} (bl : BL io H) (rx : Rp X.K H io dx x os) (mx : stillIn dx = true) (e : oSl lo hi dx = some d)
    (q : ∀ v H' qs, Ext H H' → Rp X.K H' io d v qs → qs.Nodup → (∀ a ∈ qs, H a = none) → Q v H') : rSlAny X.K x lo hi H Q := by
  cases dx <;> first | cases e | skip
  · unfold oSl at e
    dsimp only at e
    split at e
    · rename_i hl
      cases e
      exact .inr (.inr ⟨_, rx.str_inv.1, hl, give_str rfl (strOk_cut rx.str_inv.2 lo hi) q⟩)
    · cases e
  · obtain ⟨a, vs, ex, hx, r1⟩ := rx.lst_still mx
    exact .inl ⟨a, vs, ex, .inl hx, give_lst bl rfl (r1.cut lo hi) q⟩
  · obtain ⟨a, vs, ex, hx, r1⟩ := rx.tup_still mx
    refine .inr (.inl ⟨a, vs, ex, hx, fun w => ?_, fun _ => give_tup bl rfl (r1.cut lo hi) q⟩)
    rw [← r1.length] at w
    rw [sIx_whole w] at q
    exact give_old (by rw [← ex]; exact rx.still0 mx) q
theorem de_sl {a : Expr} {lo hi : Option Expr} {p2 pos : Pos} {f : Ev} {fl fh : Option Ev} (ha : PE X a (tM X.K true f)) (hl : PO X lo (tP X.K fl)) (hh : PO X hi (tP X.K fh)) : PE X (.Subscript a (.Slice lo hi none p2) pos) (tV X.K (eSl f fl fh)) :=
  PE_wk (pe_slice sl_any ha hl hh) fun σ H Q ⟨io, b, r, oss, S, d, b', e, q⟩ => by
    obtain ⟨dx, b1, e1, e'⟩ := bnd_some e
    obtain ⟨l, b2, e2, e''⟩ := bnd_some e'
    obtain ⟨h, b3, e3, e4⟩ := bnd_some e''
    obtain ⟨e5, rfl⟩ := lift_some e4
    refine ⟨io, b, r, oss, S, dx, b1, e1, fun x H1 io1 os k1 S1 rx m1 => ⟨io1, b1, r, oss, S1, l, b2, e2, fun H2 io2 k2 S2 => ⟨io2, b2, r, oss, S2, h, b', e3, fun H3 io3 k3 S3 => ?_⟩⟩⟩
    have k13 := (k1.trans k2 S.bl).trans k3 S.bl
    exact o_sl S3.bl ((rx.keep k2 S1.bl).keep k3 S2.bl) (m1 rfl) e5 fun v H4 qs k4 rv n fr => q v H4 io3 qs (k13.trans (Kp.of k4) S.bl) (S3.later k4) rv n fun a ha => fresh_back k13 S3 (fr a ha)

/-! ### [::-1] -/
theorem adjust_back (n : Nat) : Builtin.Slice.sliceAdjust none none (-1) (n : Int) = ((n : Int) - 1, -1) := rfl
theorem places_back (n : Nat) : Builtin.Slice.slicePlaces ((n : Int) - 1) (-1) (-1) = n := by
  unfold Builtin.Slice.slicePlaces
  rw [if_neg (by decide)]
  by_cases h : (n : Int) - 1 > -1
  · rw [if_pos h]
    have : ((n : Int) - 1 - -1 - 1) / -(-1) + 1 = (n : Int) := by
      rw [show -(-1 : Int) = 1 from rfl, Int.ediv_one]; omega
    rw [this]; omega
  · rw [if_neg h]
    have : n = 0 := by omega
    subst this; rfl
section
variable {prog : Program} {w : World} {A : Around} {E : Value → Shared → Prop} {s : Shared}
theorem applied_back {sl : Addr} {n : Nat} {t : Tok} {Q : Int × Int × Nat → Shared → Prop} (hs : s.heap.IsSliceOf sl .none .none (.int (-1) t)) (h : Q ((n : Int) - 1, -1, n) s) :
    wpAny (model prog w) A (Builtin.Slice.sliceApplied (.ref sl) (pure (n : Int))) Q E s := by
  obtain ⟨o, g, _, gd⟩ := hs
  unfold Builtin.Slice.sliceApplied Builtin.Slice.sliceFields
  refine wpAny_bind (wpAny_bind (wpAny_field g gd (x := .none) rfl (wpAny_bind (wpAny_field g gd (x := .none) rfl (wpAny_bind (wpAny_field g gd (x := .int (-1) t) rfl (wpAny_pure ?_)))))))
  refine wpAny_bind (slicePart_int ?_)
  show wpAny _ _ (if ((-1 : Int) == 0) = true then _ else _) _ _ s
  rw [if_neg (by decide)]
  refine wpAny_bind (slicePart_none (wpAny_bind (slicePart_none (wpAny_bind (wpAny_pure ?_)))))
  show wpAny _ _ (match Builtin.Slice.sliceAdjust none none (-1) (n : Int) with | (lo, hi) => pure (lo, (-1 : Int), Builtin.Slice.slicePlaces lo hi (-1))) _ _ s
  rw [adjust_back]
  show wpAny _ _ (pure ((n : Int) - 1, (-1 : Int), Builtin.Slice.slicePlaces ((n : Int) - 1) (-1) (-1))) _ _ s
  rw [places_back]
  exact wpAny_pure h
theorem fm_congr {α β : Type} {f g : α → Option β} : ∀ l : List α, (∀ a ∈ l, f a = g a) → l.filterMap f = l.filterMap g
  | [], _ => rfl
  | a :: l, h => by rw [List.filterMap_cons, List.filterMap_cons, h a List.mem_cons_self, fm_congr l fun b hb => h b (List.mem_cons_of_mem _ hb)]
theorem range_all {α : Type} : ∀ ys : List α, (List.range ys.length).filterMap (fun k => ys[k]?) = ys
  | [] => rfl
  | y :: ys => by
    rw [List.length_cons, List.range_succ_eq_map, List.filterMap_cons, List.filterMap_map]
    have e := range_all ys
    show y :: (List.range ys.length).filterMap (fun k => (y :: ys)[k + 1]?) = y :: ys
    congr 1
theorem pick_back (xs : List Value) : ((List.range xs.length).filterMap fun (k : Nat) => xs.toArray[(((xs.length : Int) - 1) + (k : Int) * (-1)).toNat]?) = xs.reverse := by
  have e : ∀ k ∈ List.range xs.length, xs.toArray[(((xs.length : Int) - 1) + (k : Int) * (-1)).toNat]? = xs.reverse[k]? := fun k hk => by
    have hk := List.mem_range.mp hk
    have : (((xs.length : Int) - 1) + (k : Int) * (-1)).toNat = xs.length - 1 - k := by omega
    rw [this, List.getElem?_reverse hk, List.getElem?_toArray]
  rw [fm_congr _ e]
  have l : xs.length = xs.reverse.length := by simp
  rw [l]
  exact range_all _
theorem tuple_back {t sl : Addr} {its : List Value} {tk : Tok} {Q : Value → Shared → Prop} (ht : IsTup s.heap t its.toArray) (hs : s.heap.IsSliceOf sl .none .none (.int (-1) tk))
    (h : Q (.ref s.heap.objs.size) { s with heap := s.heap.push { cls := .type "tuple", data := .seq its.reverse.toArray } }) (hz : its.length ≤ sizeLine) : wpAny (model prog w) A (getItem (.ref t) (.ref sl)) Q E s := by
  obtain ⟨o, g, gc, gd⟩ := id hs
  have hT : s.TypeIs (.ref sl) "slice" := ⟨o, g, gc⟩
  unfold getItem
  try with_reducible refine wpAny_holding ?_
  first | refine wpAny_bind (wpAny_pure ?_) | skip
  refine wpAny_bind (wpAny_sequenceKey ht.typeIs (by decide) ?_)
  refine wpAny_bind (wpAny_callSpecial?_slot (name := Str.ofString "__getitem__") ht.typeIs PyProof.Rows.slot_tuple_getitem (wpAny_call_entry PyProof.Rows.slot_tuple_getitem ht.typeIs entry_tuple_getitem ?_ (args_tuple_getitem _ _)))
  show wpAny _ _ (Builtin.Tuple.tupleItemsOf (.ref t) >>= _) _ _ s
  refine wpAny_bind (tupleItemsOf_ ht (wpAny_bind (wpAny_typeOf hT ?_)))
  rw [if_pos (by decide)]
  refine wpAny_bind (applied_back (n := its.toArray.size) hs ?_)
  have no : ((((its.toArray.size : Nat) : Int) - 1) == 0 && (-1 : Int) == 1 && its.toArray.size == its.toArray.size) = false := by
    rw [show ((-1 : Int) == 1) = false from rfl, Bool.and_false, Bool.false_and]
  show wpAny _ _ (if ((((its.toArray.size : Nat) : Int) - 1) == 0 && (-1 : Int) == 1 && its.toArray.size == its.toArray.size) = true then _ else _) _ _ s
  rw [no, if_neg Bool.false_ne_true]
  have pk : ((List.range its.toArray.size).filterMap fun (k : Nat) => its.toArray[((((its.toArray.size : Nat) : Int) - 1) + (k : Int) * (-1)).toNat]?) = its.reverse := pick_back its
  rw [pk]
  have fits : sizeOk (.seq its.reverse.toArray) := by
    show its.reverse.toArray.size ≤ sizeLine
    rw [List.size_toArray, List.length_reverse]; exact hz
  first
    | exact wpAny_bind (m := Builtin.Tuple.tupleExact _) (wpAny_newObj_type (wpAny_pure ⟨_, rfl, wpAny_pure h⟩) fits)
    | exact wpAny_bind (m := Builtin.Tuple.tupleExact _) (wpAny_newObj_type (wpAny_bind (wpAny_pure (wpAny_pure ⟨_, rfl, wpAny_pure h⟩))) fits)
    | exact wpAny_bind (wpAny_bind (m := Builtin.Tuple.tupleExact _) (wpAny_newObj_type (wpAny_pure (wpAny_pure ⟨_, rfl, wpAny_pure h⟩)) fits))
    | exact wpAny_bind (wpAny_bind (m := Builtin.Tuple.tupleExact _) (wpAny_newObj_type (wpAny_pure ⟨_, rfl, wpAny_pure h⟩) fits))
end
def tRevA (K : PySem.W.Frag) (te : TE) : TE := fun σ H Q => te σ H fun x H1 => (∃ a xs, x = .ref a ∧ SqL K H1 a xs ∧ ∀ p, H1 p = none → Q (.ref p) (upd H1 p (.lst xs.reverse))) ∨ ∃ a xs, x = .ref a ∧ SqT K H1 a xs ∧ NewT H1 Q xs.reverse
theorem pe_revA {e : Expr} {te : TE} {k : Nat} {p1 p2 p3 pos : Pos} (he : PE X e te) : PE X (.Subscript e (.Slice none none (some (.UnaryOp .USub (.Constant (.int 1) k p1) p2)) p3) pos) (tRevA X.K te) := by
  refine ⟨fun pins s σ H Q I h => Subscript_ (thn (he.run pins s σ H _ I h) fun v s1 ⟨x, H1, I1, r1, q1⟩ => ?_)⟩
  have step : PO X (some (.UnaryOp .USub (.Constant (.int 1) k p1) p2)) (tPart (tUn (rU fun i => .int (-i)) (tC (.int 1)))) := po_some (pe_un un_neg pe_int)
  refine wpAny_Slice (thn (po_none.run pins s1 σ H1 (fun o H2 => o = none ∧ H2 = H1) I1 ⟨rfl, rfl⟩) fun vl s2 ⟨l, H2, I2, pl, el, e2⟩ => ?_)
  subst el e2
  refine thn (po_none.run pins s2 σ H2 (fun o H3 => o = none ∧ H3 = H2) I2 ⟨rfl, rfl⟩) fun vu s3 ⟨u, H3, I3, pu, eu, e3⟩ => ?_
  subst eu e3
  refine thn (step.run pins s3 σ H3 (fun o H4 => o = some (-1) ∧ H4 = H3) I3 ⟨1, rfl, -1, rfl, rfl, rfl⟩) fun vs s4 ⟨o, H4, I4, ps, eo, e4⟩ => ?_
  subst eo e4
  have I5 : Inv X pins σ H4 { s4 with heap := s4.heap.push { cls := .type "slice", data := .fields #[vl, vu, vs] } } := I4.kept (t' := s4.toks) fun b ob q => Heap.get?_push_of_some _ q
  rcases q1 with ⟨a, xs, rfl, hx, q⟩ | ⟨a, xs, rfl, hx, q⟩
  · cases r1
    obtain ⟨its, r, ht, hz⟩ := I5.list hx
    have hlen := r.length
    show wpAny (model X.prog X.w) X.A (subscriptTail e (.Slice none none (some (.UnaryOp .USub (.Constant (.int 1) k p1) p2)) p3) (.ref a) (.ref s4.heap.objs.size)) _ X.xe _
    refine tail_any (ops := [.ref a, .ref s4.heap.objs.size]) ht.isList.typeIs PySem.slot_list_getitem.lookup (wpAny_getItem_list_slice ht.isList (Heap.IsSliceOf.new _ vl vu vs) pl pu ps (by decide) ?_ (by rw [List.size_toArray]; omega)) (by with_unfolding_all rfl)
    rw [PySem.W.krv_pick]
    refine ⟨.ref _, _, I5.laid (t' := s4.toks) (o := .lst xs.reverse) (fun b ob q => Heap.get?_push_of_some _ q) (Nat.le_refl _) ⟨?_, _, 0, r.reverse, Heap.get?_push_size _ rfl⟩, rfl, q _ (I5.hok.fresh (Nat.le_refl _))⟩
    rw [List.length_reverse]; exact hz
  · cases r1
    obtain ⟨its, r, ht, hz⟩ := I5.tuple hx
    have hlen := r.length
    cases pl
    cases pu
    cases ps
    show wpAny (model X.prog X.w) X.A (subscriptTail e (.Slice none none (some (.UnaryOp .USub (.Constant (.int 1) k p1) p2)) p3) (.ref a) (.ref s4.heap.objs.size)) _ X.xe _
    refine tail_any (ops := [.ref a, .ref s4.heap.objs.size]) ht.typeIs PyProof.Rows.slot_tuple_getitem.lookup (tuple_back ht (Heap.IsSliceOf.new _ _ _ _) ?_ (by omega)) (by with_unfolding_all rfl)
    exact newTup (tk := s4.toks) I5 r.reverse (by rw [List.length_reverse]; exact hz) q
theorem RpL.snoc {K : PySem.W.Frag} {H : Hp} {io : List Addr} {ds : List D} {vs : List V} {d : D} {v : V} (r : RpL K H io ds vs []) (h : Rp K H io d v []) : RpL K H io (ds ++ [d]) (vs ++ [v]) [] := r.append (.cons (os := []) (ps := []) h .nil)
theorem RpL.rev {K : PySem.W.Frag} {H : Hp} {io : List Addr} : ∀ {ds : List D} {vs : List V}, RpL K H io ds vs [] → RpL K H io ds.reverse vs.reverse []
  | [], [], _ => .nil
  | [], _ :: _, h => by have hl := h.length; simp at hl
  | _ :: _, [], h => by have hl := h.length; simp at hl
  | d :: ds, v :: vs, h => by
    generalize hq : ([] : List Addr) = q at h
    cases h with
    | cons h r =>
      obtain ⟨e1, e2⟩ := List.append_eq_nil_iff.mp hq.symm
      subst e1 e2
      rw [List.reverse_cons, List.reverse_cons]
      exact r.rev.snoc h
theorem de_rev {e : Expr} {k : Nat} {p1 p2 p3 pos : Pos} {f : Ev} (h : PE X e (tM X.K true f)) : PE X (.Subscript e (.Slice none none (some (.UnaryOp .USub (.Constant (.int 1) k p1) p2)) p3) pos) (tV X.K (e1 oRev f)) :=
  PE_wk (pe_revA h) fun σ H Q ⟨io, b, r, oss, S, d, b', e, q⟩ => by
    obtain ⟨dx, b1, e1, e2⟩ := bnd_some e
    obtain ⟨e3, rfl⟩ := lift_some e2
    refine ⟨io, b, r, oss, S, dx, b', e1, fun x H1 io1 os k1 S1 rx m1 => ?_⟩
    have back : ∀ v H2 qs, Ext H1 H2 → Rp X.K H2 io1 d v qs → qs.Nodup → (∀ a ∈ qs, H1 a = none) → Q v H2 := fun v H2 qs k2 rv n fr => q v H2 io1 qs (k1.trans (Kp.of k2) S.bl) (S1.later k2) rv n fun a ha => fresh_back k1 S1 (fr a ha)
    cases dx <;> first | cases e3 | skip
    · obtain ⟨a, vs, ex, hx, r1⟩ := rx.lst_still (m1 rfl)
      exact .inl ⟨a, vs, ex, .inl hx, give_lst S1.bl rfl r1.rev back⟩
    · obtain ⟨a, vs, ex, hx, r1⟩ := rx.tup_still (m1 rfl)
      exact .inr ⟨a, vs, ex, hx, give_tup S1.bl rfl r1.rev back⟩
end
end HF

/-! HF: tests, targets, what is walked, comprehensions. -/
namespace HF
open PySem PySem.Spec L2
open PyProof.Rows hiding St
/-! ### one tracked thing changed -/
section
variable {K : PySem.W.Frag} {H : Hp} {io : List Addr} {a : Addr} {o : HO}
theorem upd_frz {b : Addr} {ob : Obj} {u : HO} (m : Mut (H a)) (h : H b = some (.frz ob u)) : upd H a o b = some (.frz ob u) := by
  rw [upd_ne]; exact h
  intro e; subst e; rw [h] at m; exact m
theorem upd_sqT {b : Addr} {vs : List V} (m : Mut (H a)) (h : SqT K H b vs) : SqT K (upd H a o) b vs := by
  rcases h with (h | ⟨ob, h⟩) | h
  · refine .inl (.inl ?_)
    rw [upd_ne]; exact h
    intro e; subst e; rw [h] at m; exact m
  · exact .inl (.inr ⟨ob, upd_frz m h⟩)
  · exact .inr h
theorem upd_ls {b : Addr} {vs : List V} (m : Mut (H a)) (h : LS H b vs) : LS (upd H a o) b vs := let ⟨ob, h⟩ := h; ⟨ob, upd_frz m h⟩
theorem upd_lk {b : Addr} {vs : List V} (m : Mut (H a)) (h : LK K H b vs) : LK K (upd H a o) b vs := by
  rcases h with ⟨ob, h⟩ | h
  · exact .inl ⟨ob, upd_frz m h⟩
  · exact .inr h
theorem upd_oth {b : Addr} {u : HO} (h : H b = some u) (n : b ≠ a) : upd H a o b = some u := by rw [upd_ne n]; exact h
mutual
theorem Rp.upd (m : Mut (H a)) : ∀ {d : D} {v : V} {os : List Addr}, Rp K H io d v os → a ∉ os → Rp K (upd H a o) io d v os
  | _, _, _, .non, _ => .non
  | _, _, _, .bl b, _ => .bl b
  | _, _, _, .int z, _ => .int z
  | _, _, _, .str h, _ => .str h
  | _, _, _, .lstS h r, _ => .lstS (upd_ls m h) (RpL.upd m r fun z => nomatch z)
  | _, _, _, .lstO h n r, hs => .lstO (upd_oth h fun e => hs (e ▸ List.mem_cons_self)) n (RpL.upd m r fun z => hs (List.mem_cons_of_mem _ z))
  | _, _, _, .tup h r, hs => .tup (h.of fun _ e => upd_frz m e) (RpL.upd m r hs)
  | _, _, _, .dctS h e r, _ => .dctS (upd_frz m h) e (RpK.upd m r fun z => nomatch z)
  | _, _, _, .dctO h e r, hs => .dctO (upd_oth h fun q => hs (q ▸ List.mem_cons_self)) e (RpK.upd m r fun z => hs (List.mem_cons_of_mem _ z))
  | _, _, _, .box h, _ => .box h
  | _, _, _, .scr h, _ => .scr (upd_lk m h)
theorem RpL.upd (m : Mut (H a)) : ∀ {ds : List D} {vs : List V} {os : List Addr}, RpL K H io ds vs os → a ∉ os → RpL K (upd H a o) io ds vs os
  | _, _, _, .nil, _ => .nil
  | _, _, _, .cons h r, hs => .cons (h.upd m fun z => hs (List.mem_append_left _ z)) (RpL.upd m r fun z => hs (List.mem_append_right _ z))
theorem RpK.upd (m : Mut (H a)) : ∀ {ds : List (DK × D)} {vs : List (DK × V)} {os : List Addr}, RpK K H io ds vs os → a ∉ os → RpK K (upd H a o) io ds vs os
  | _, _, _, .nil, _ => .nil
  | _, _, _, .cons hk h r, hs => .cons hk (h.upd m fun z => hs (List.mem_append_left _ z)) (RpK.upd m r fun z => hs (List.mem_append_right _ z))
end
theorem RpE.upd (m : Mut (H a)) : ∀ {r : Env} {σ : St} {oss : List (List Addr)}, RpE K H io r σ oss → a ∉ oss.flatten → RpE K (upd H a o) io r σ oss
  | _, _, _, .nil, _ => .nil
  | _, _, _, .no r, h => .no (RpE.upd m r fun z => h (by simpa using z))
  | _, _, _, .sh x r, h => .sh (x.upd m fun z => nomatch z) (RpE.upd m r fun z => h (by simpa using z))
  | _, _, _, .ow x r, h => .ow (x.upd m fun z => h (by rw [List.flatten_cons]; exact List.mem_append_left _ z)) (RpE.upd m r fun z => h (by rw [List.flatten_cons]; exact List.mem_append_right _ z))
theorem SR.upd {b : Bx} {r : Env} {oss : List (List Addr)} {σ : St} (S : SR K io b r oss σ H) (m : Mut (H a)) (h1 : a ∉ io) (h2 : a ∉ oss.flatten) : SR K io b r oss σ (upd H a o) :=
  ⟨S.len, fun n c zs e1 e2 => upd_oth (S.bx n c zs e1 e2) fun q => h1 (q ▸ List.mem_of_getElem? e1), S.nd, S.sl.upd m h2, S.od⟩
/-- the outer names behind what ran with other names -/
theorem SR.move {io' : List Addr} {b b' : Bx} {r r2 : Env} {oss oss2 : List (List Addr)} {σ σ2 : St} {H' : Hp} (S : SR K io b r oss σ H) (k : Kp io H io' H') (S2 : SR K io' b' r2 oss2 σ2 H') : SR K io' b' r oss σ H' :=
  ⟨S2.len, S2.bx, S2.nd, S.sl.keep k S.bl, S.od⟩
end

/-! ### tests -/
def tT (K : PySem.W.Frag) (f : Ev) : TT := fun σ H Q => ∃ io b r oss, SR K io b r oss σ H ∧ ∃ c b', f r b = some (.bl c, b') ∧ ∀ (H' : Hp) (io' : List Addr), Kp io H io' H' → SR K io' b' r oss σ H' → Q c H'
section
variable {X : Cx}
/-- a test from the expression's own reading -/
theorem tv_tt {f : Ev} {σ : St} {H : Hp} {Q : Bool → Hp → Prop} (h : tT X.K f σ H Q) : tV X.K f σ H (fun x H1 => ∃ c, x = .bl c ∧ Q c H1) := by
  obtain ⟨io, b, r, oss, S, c, b', e, q⟩ := h
  exact ⟨io, b, r, oss, S, .bl c, b', e, fun v H' io' os k S' x _ _ => ⟨c, x.bl_inv, q H' io' k S'⟩⟩
theorem dt_val {e : Expr} {f : Ev} (h : PE X e (tV X.K f)) (he : ∀ whole, isTrue e X.env whole = (do let v ← whole; standAt e.pos; holding [v] (truthy v))) : PT X e (tT X.K f) :=
  PT_wk (pt_val h he) fun σ H Q q => tv_tt q
theorem dt_two {a b : Expr} {m1 m2 : Bool} {f g : Ev} {op : D → D → Option D} {r : R2} {e : Expr} (ho : Op2 X.K m1 m2 op r) (ha : PE X a (tM X.K m1 f)) (hb : PE X b (tM X.K m2 g)) (he : ∀ ta tb, PE X a ta → PE X b tb → PT X e (tTest (tOp r ta tb))) : PT X e (tT X.K (e2 op f g)) :=
  PT_wk (he _ _ ha hb) fun σ H Q q => by
    have q' := tv_tt q
    obtain ⟨io, b, r', oss, S, d, b', e, q⟩ := q'
    obtain ⟨dx, b1, e1, e'⟩ := bnd_some e
    obtain ⟨dy, b2, e2, e3⟩ := bnd_some e'
    obtain ⟨e4, rfl⟩ := lift_some e3
    refine ⟨io, b, r', oss, S, dx, b1, e1, fun x H1 io1 os k1 S1 rx m1 => ⟨io1, b1, r', oss, S1, dy, b', e2, fun y H2 io2 ps k2 S2 ry m2 => ?_⟩⟩
    refine ho io2 H2 x y dx dy d os ps _ S2.bl (rx.keep k2 S1.bl) ry m1 m2 e4 fun v H3 qs k3 rv n fr => ?_
    have k12 := k1.trans k2 S.bl
    exact q v H3 io2 qs (k12.trans (Kp.of k3) S.bl) (S2.later k3) rv n fun a ha => fresh_back k12 S2 (fr a ha)
theorem dt_cmp {a b : Expr} {o : CmpOp} {pos : Pos} {m1 m2 : Bool} {f g : Ev} {op : D → D → Option D} {r : R2} (ho : Op2 X.K m1 m2 op r) (hr : OpR X (compareOp o) r) (ha : PE X a (tM X.K m1 f)) (hb : PE X b (tM X.K m2 g)) (hm : behindInMarks o b = false) : PT X (.Compare a [o] [b] pos) (tT X.K (e2 op f g)) :=
  dt_two ho ha hb fun _ _ h1 h2 => pt_cmpR hr h1 h2 hm
theorem dt_not {a : Expr} {pos : Pos} {f : Ev} (ha : PT X a (tT X.K f)) : PT X (.UnaryOp .Not a pos) (tT X.K (e1 oNot f)) :=
  PT_wk (pt_not ha) fun σ H Q ⟨io, b, r, oss, S, c, b', e, q⟩ => by
    obtain ⟨d, b1, e1, e2⟩ := bnd_some e
    obtain ⟨e3, rfl⟩ := lift_some e2
    cases d <;> first | cases e3 | skip
    rename_i k
    exact ⟨io, b, r, oss, S, k, b', e1, fun H' io' k' S' => q H' io' k' S'⟩
theorem dw_and1 {a : Expr} {pos : Pos} {f : Ev} (ha : PT X a (tT X.K f)) : PW X (.BoolOp .And [a] pos) (tT X.K f) := pw_and1 ha
theorem dw_or1 {a : Expr} {pos : Pos} {f : Ev} (ha : PT X a (tT X.K f)) : PW X (.BoolOp .Or [a] pos) (tT X.K f) := pw_or1 ha
theorem dw_and {a b : Expr} {rest : List Expr} {pos : Pos} {f g : Ev} (ha : PT X a (tT X.K f)) (hb : PW X (.BoolOp .And (b :: rest) pos) (tT X.K g)) : PW X (.BoolOp .And (a :: b :: rest) pos) (tT X.K (eAnd f g)) :=
  PW_wk (pw_and ha hb) fun σ H Q ⟨io, b, r, oss, S, c, b', e, q⟩ => by
    obtain ⟨d, b1, e1, e2⟩ := bnd_some e
    cases d <;> first | cases e2 | skip
    rename_i k
    refine ⟨io, b, r, oss, S, k, b1, e1, fun H' io' k' S' => ?_⟩
    cases k with
    | true =>
      rw [if_pos rfl]
      exact ⟨io', b1, r, oss, S', c, b', e2, fun H2 io2 k2 S2 => q H2 io2 (k'.trans k2 S.bl) S2⟩
    | false =>
      rw [if_neg Bool.false_ne_true]
      cases e2
      exact q H' io' k' S'
theorem dw_or {a b : Expr} {rest : List Expr} {pos : Pos} {f g : Ev} (ha : PT X a (tT X.K f)) (hb : PW X (.BoolOp .Or (b :: rest) pos) (tT X.K g)) : PW X (.BoolOp .Or (a :: b :: rest) pos) (tT X.K (eOr f g)) :=
  PW_wk (pw_or ha hb) fun σ H Q ⟨io, b, r, oss, S, c, b', e, q⟩ => by
    obtain ⟨d, b1, e1, e2⟩ := bnd_some e
    cases d <;> first | cases e2 | skip
    rename_i k
    refine ⟨io, b, r, oss, S, k, b1, e1, fun H' io' k' S' => ?_⟩
    cases k with
    | true =>
      rw [if_pos rfl]
      cases e2
      exact q H' io' k' S'
    | false =>
      rw [if_neg Bool.false_ne_true]
      exact ⟨io', b1, r, oss, S', c, b', e2, fun H2 io2 k2 S2 => q H2 io2 (k'.trans k2 S.bl) S2⟩
/-- as values -/
theorem de_and {a b : Expr} {rest : List Expr} {pos : Pos} {f g : Ev} (ha : PE X a (tV X.K f)) (hb : PE X (.BoolOp .And (b :: rest) pos) (tV X.K g)) : PE X (.BoolOp .And (a :: b :: rest) pos) (tV X.K (eAnd f g)) :=
  PE_wk (pe_and ha hb) fun σ H Q ⟨io, b, r, oss, S, c, b', e, q⟩ => by
    obtain ⟨d, b1, e1, e2⟩ := bnd_some e
    cases d <;> first | cases e2 | skip
    rename_i k
    refine ⟨io, b, r, oss, S, .bl k, b1, e1, fun v H' io' os k' S' x _ _ => ⟨k, x.bl_inv, ?_⟩⟩
    cases k with
    | true =>
      rw [if_pos rfl]
      exact ⟨io', b1, r, oss, S', c, b', e2, fun v H2 io2 os k2 S2 x n fr => q v H2 io2 os (k'.trans k2 S.bl) S2 x n fun a ha => fresh_back k' S' (fr a ha)⟩
    | false =>
      rw [if_neg Bool.false_ne_true]
      obtain ⟨rfl, rfl⟩ := ret_some e2
      exact q _ H' io' [] k' S' (.bl false) List.nodup_nil nil_all
theorem de_or {a b : Expr} {rest : List Expr} {pos : Pos} {f g : Ev} (ha : PE X a (tV X.K f)) (hb : PE X (.BoolOp .Or (b :: rest) pos) (tV X.K g)) : PE X (.BoolOp .Or (a :: b :: rest) pos) (tV X.K (eOr f g)) :=
  PE_wk (pe_or ha hb) fun σ H Q ⟨io, b, r, oss, S, c, b', e, q⟩ => by
    obtain ⟨d, b1, e1, e2⟩ := bnd_some e
    cases d <;> first | cases e2 | skip
    rename_i k
    refine ⟨io, b, r, oss, S, .bl k, b1, e1, fun v H' io' os k' S' x _ _ => ⟨k, x.bl_inv, ?_⟩⟩
    cases k with
    | true =>
      rw [if_pos rfl]
      obtain ⟨rfl, rfl⟩ := ret_some e2
      exact q _ H' io' [] k' S' (.bl true) List.nodup_nil nil_all
    | false =>
      rw [if_neg Bool.false_ne_true]
      exact ⟨io', b1, r, oss, S', c, b', e2, fun v H2 io2 os k2 S2 x n fr => q v H2 io2 os (k'.trans k2 S.bl) S2 x n fun a ha => fresh_back k' S' (fr a ha)⟩
theorem de_one {o : BoolOp} {a : Expr} {pos : Pos} {f : Ev} (h : PE X a (tV X.K f)) : PE X (.BoolOp o [a] pos) (tV X.K f) := pe_one h
theorem de_not {a : Expr} {pos : Pos} {f : Ev} (ha : PE X a (tV X.K f)) : PE X (.UnaryOp .Not a pos) (tV X.K (e1 oNot f)) :=
  PE_wk (pe_not ha) fun σ H Q ⟨io, b, r, oss, S, c, b', e, q⟩ => by
    obtain ⟨d, b1, e1, e2⟩ := bnd_some e
    obtain ⟨e3, rfl⟩ := lift_some e2
    cases d <;> first | cases e3 | skip
    rename_i k
    exact ⟨io, b, r, oss, S, .bl k, b', e1, fun v H' io' os k' S' x _ _ => ⟨k, x.bl_inv, q _ H' io' [] k' S' (.bl _) List.nodup_nil nil_all⟩⟩
theorem de_neg {a : Expr} {pos : Pos} {f : Ev} (ha : PE X a (tM X.K false f)) : PE X (.UnaryOp .USub a pos) (tV X.K (e1 oNeg f)) :=
  PE_wk (pe_un un_neg ha) fun σ H Q ⟨io, b, r, oss, S, c, b', e, q⟩ => by
    obtain ⟨d, b1, e1, e2⟩ := bnd_some e
    obtain ⟨e3, rfl⟩ := lift_some e2
    cases d <;> first | cases e3 | skip
    rename_i k
    exact ⟨io, b, r, oss, S, .int k, b', e1, fun v H' io' os k' S' x _ => ⟨k, x.int_inv, q _ H' io' [] k' S' (.int _) List.nodup_nil nil_all⟩⟩
theorem de_ite {c a b : Expr} {pos : Pos} {fc f g : Ev} (hc : PT X c (tT X.K fc)) (ha : PE X a (tV X.K f)) (hb : PE X b (tV X.K g)) : PE X (.IfExp c a b pos) (tV X.K (eIte fc f g)) :=
  PE_wk (pe_ifExp hc ha hb) fun σ H Q ⟨io, b, r, oss, S, d, b', e, q⟩ => by
    obtain ⟨dc, b1, e1, e2⟩ := bnd_some e
    cases dc <;> first | cases e2 | skip
    rename_i k
    refine ⟨io, b, r, oss, S, k, b1, e1, fun H' io' k' S' => ?_⟩
    cases k with
    | true =>
      rw [if_pos rfl]
      exact ⟨io', b1, r, oss, S', d, b', e2, fun v H2 io2 os k2 S2 x n fr => q v H2 io2 os (k'.trans k2 S.bl) S2 x n fun a ha => fresh_back k' S' (fr a ha)⟩
    | false =>
      rw [if_neg Bool.false_ne_true]
      exact ⟨io', b1, r, oss, S', d, b', e2, fun v H2 io2 os k2 S2 x n fr => q v H2 io2 os (k'.trans k2 S.bl) S2 x n fun a ha => fresh_back k' S' (fr a ha)⟩

/-! ### targets -/
def Tg.slots : Tg → List Nat
  | .one i => [i]
  | .two i j => [i, j]
  | .three i j k => [i, j, k]
def tG (K : PySem.W.Frag) (t : Tg) : TG := fun v σ H Q => ∃ io b r oss x r', SR K io b r oss σ H ∧ Rp K H io x v [] ∧ bindT t x r = some r' ∧
  ∀ (σ' : St) (oss' : List (List Addr)), SR K io b r' oss' σ' H → (∀ a ∈ oss'.flatten, a ∈ oss.flatten) → (∀ vs : List Nat, (∀ j ∈ t.slots, j ∈ vs) → wipe σ' vs = wipe σ vs) → Q σ' H
theorem wipe_set {i : Nat} {x : Option V} : ∀ {vs : List Nat} {σ : St}, i ∈ vs → wipe (σ.set i x) vs = wipe σ vs := by
  have get : ∀ (vs : List Nat) (σ : St) (j : Nat), (wipe σ vs)[j]? = if j ∈ vs ∧ j < σ.length then some none else σ[j]? := by
    intro vs
    induction vs with
    | nil => intro σ j; simp [wipe]
    | cons v vs ih =>
      intro σ j
      unfold wipe
      by_cases hj : v = j
      · subst hj
        by_cases hl : v < σ.length
        · rw [List.getElem?_set_self (by rw [wipe_length]; exact hl), if_pos ⟨List.mem_cons_self, hl⟩]
        · rw [List.getElem?_eq_none (by rw [List.length_set, wipe_length]; omega), if_neg (fun z => hl z.2), List.getElem?_eq_none (by omega)]
      · rw [List.getElem?_set_ne hj, ih]
        have : (j ∈ vs ∧ j < σ.length) ↔ (j ∈ v :: vs ∧ j < σ.length) := by
          constructor
          · exact fun z => ⟨List.mem_cons_of_mem _ z.1, z.2⟩
          · rintro ⟨z1, z2⟩
            exact ⟨(List.mem_cons.mp z1).resolve_left (fun e => hj e.symm), z2⟩
        simp only [this]
  intro vs σ hi
  refine List.ext_getElem? fun j => ?_
  rw [get, get, List.length_set]
  by_cases h : j ∈ vs ∧ j < σ.length
  · rw [if_pos h, if_pos h]
  · rw [if_neg h, if_neg h]
    by_cases hj : i = j
    · subst hj
      have : ¬ i < σ.length := fun z => h ⟨hi, z⟩
      rw [List.getElem?_eq_none (by rw [List.length_set]; omega), List.getElem?_eq_none (by omega)]
    · rw [List.getElem?_set_ne hj]
theorem set_lt {r : Env} {n : Nat} : ∀ {x : Sl}, (r.set n x).length = r.length := by simp
theorem SR.setS' {K : PySem.W.Frag} {io : List Addr} {b : Bx} {r : Env} {oss : List (List Addr)} {σ : St} {H : Hp} {i : Nat} {d : D} {v : V} (S : SR K io b r oss σ H) (x : Rp K H io d v []) : ∃ oss', SR K io b (r.set i (.sh d)) oss' (σ.set i (some v)) H ∧ ∀ a ∈ oss'.flatten, a ∈ oss.flatten := by
  by_cases hi : i < r.length
  · exact ⟨_, S.setS x hi, fun a ha => (mem_set_flat ha).elim (fun z => nomatch z) id⟩
  · refine ⟨oss, ?_, fun _ h => h⟩
    rw [List.set_eq_of_length_le (by omega), List.set_eq_of_length_le (by rw [← S.sl.lens.1]; omega)]
    exact S
theorem dg_one {i : Nat} {x : Str} {pos : Pos} (hN : X.N.Nodup) (hi : X.N[i]? = some x) (hx : Loc X.env.scope x) (hf : X.fn x = true ∨ X.env.scope.names.lookup x = some .local) : PG X (.Name x pos) (tG X.K (.one i)) :=
  ⟨fun pins s σ H v u Q I rv ⟨io, b, r, oss, d, r', S, rx, e, q⟩ => (pg_name hN hi hx hf).run pins s σ H v u Q I rv (by
    cases e
    obtain ⟨oss', S', m'⟩ := S.setS' (i := i) rx
    exact q _ oss' S' m' fun vs h => wipe_set (h i (by simp [Tg.slots])))⟩
theorem Rp.two0 {H : Hp} {io : List Addr} {d1 d2 : D} {vs : List V} (rl : RpL X.K H io [d1, d2] vs []) : ∃ v1 v2, vs = [v1, v2] ∧ Rp X.K H io d1 v1 [] ∧ Rp X.K H io d2 v2 [] := by
  generalize hq : ([] : List Addr) = qq at rl
  cases rl with
  | cons h1 rl =>
    cases rl with
    | cons h2 rl =>
      cases rl
      obtain ⟨z1, z2⟩ := List.append_eq_nil_iff.mp hq.symm
      rw [List.append_nil] at z2
      subst z1 z2
      exact ⟨_, _, rfl, h1, h2⟩
theorem Rp.three0 {H : Hp} {io : List Addr} {d1 d2 d3 : D} {vs : List V} (rl : RpL X.K H io [d1, d2, d3] vs []) : ∃ v1 v2 v3, vs = [v1, v2, v3] ∧ Rp X.K H io d1 v1 [] ∧ Rp X.K H io d2 v2 [] ∧ Rp X.K H io d3 v3 [] := by
  generalize hq : ([] : List Addr) = qq at rl
  cases rl with
  | cons h1 rl =>
    obtain ⟨z1, z2⟩ := List.append_eq_nil_iff.mp hq.symm
    subst z1 z2
    obtain ⟨v2, v3, rfl, h2, h3⟩ := Rp.two0 rl
    exact ⟨_, _, _, rfl, h1, h2, h3⟩
theorem dg_two {i j : Nat} {x y : Str} {p1 p2 pos : Pos} {kk : Nat} (hc : X.calm = true) (hN : X.N.Nodup) (hi : X.N[i]? = some x) (hj : X.N[j]? = some y) (hx : Loc X.env.scope x) (hy : Loc X.env.scope y)
    (hf : X.fn x = true ∨ X.env.scope.names.lookup x = some .local) (hf2 : X.fn y = true ∨ X.env.scope.names.lookup y = some .local) : PG X (.Tuple [.Name x p1, .Name y p2] kk pos) (tG X.K (.two i j)) :=
  ⟨fun pins s σ H v u Q I rv ⟨io, b, r, oss, d, r', S, rx, e, q⟩ => by
    have G := pgs_cons (pg_name (pos := p1) hN hi hx hf) (pgs_cons (pg_name (pos := p2) hN hj hy hf2) pgs_nil)
    have fin : ∀ d1 d2 v1 v2, some r' = some ((r.set i (.sh d1)).set j (.sh d2)) → Rp X.K H io d1 v1 [] → Rp X.K H io d2 v2 [] → Q ((σ.set i (some v1)).set j (some v2)) H := fun d1 d2 v1 v2 e h1 h2 => by
      cases e
      obtain ⟨oss1, S1, m1⟩ := S.setS' (i := i) h1
      obtain ⟨oss2, S2, m2⟩ := S1.setS' (i := j) h2
      refine q _ oss2 S2 (fun a ha => m1 a (m2 a ha)) fun ws h => ?_
      rw [wipe_set (h j (by simp [Tg.slots])), wipe_set (h i (by simp [Tg.slots]))]
    match d, e, rx with
    | .tup [d1, d2], e, rx =>
      obtain ⟨a, vs, ev, hs, rl⟩ := rx.tup_inv
      obtain ⟨v1, v2, rfl, h1, h2⟩ := Rp.two0 rl
      exact (pg_tup hc G).run pins s σ H v u Q I rv ⟨a, _, ev, hs, rfl, _, _, rfl, _, _, rfl, rfl, fin d1 d2 v1 v2 e.symm h1 h2⟩
    | .lst false [d1, d2], e, rx =>
      cases rx with
      | lstS h rl =>
        obtain ⟨v1, v2, rfl, h1, h2⟩ := Rp.two0 rl
        exact (pg_unl hc G).run pins s σ H _ u Q I rv ⟨_, _, rfl, h.sq, rfl, _, _, rfl, _, _, rfl, rfl, fin d1 d2 v1 v2 e.symm h1 h2⟩⟩
theorem dg_three {i j k : Nat} {x y z : Str} {p1 p2 p3 pos : Pos} {kk : Nat} (hc : X.calm = true) (hN : X.N.Nodup) (hi : X.N[i]? = some x) (hj : X.N[j]? = some y) (hk : X.N[k]? = some z) (hx : Loc X.env.scope x) (hy : Loc X.env.scope y) (hz : Loc X.env.scope z)
    (hf : X.fn x = true ∨ X.env.scope.names.lookup x = some .local) (hf2 : X.fn y = true ∨ X.env.scope.names.lookup y = some .local) (hf3 : X.fn z = true ∨ X.env.scope.names.lookup z = some .local) : PG X (.Tuple [.Name x p1, .Name y p2, .Name z p3] kk pos) (tG X.K (.three i j k)) :=
  ⟨fun pins s σ H v u Q I rv ⟨io, b, r, oss, d, r', S, rx, e, q⟩ => by
    have G := pgs_cons (pg_name (pos := p1) hN hi hx hf) (pgs_cons (pg_name (pos := p2) hN hj hy hf2) (pgs_cons (pg_name (pos := p3) hN hk hz hf3) pgs_nil))
    have fin : ∀ d1 d2 d3 v1 v2 v3, some r' = some (((r.set i (.sh d1)).set j (.sh d2)).set k (.sh d3)) → Rp X.K H io d1 v1 [] → Rp X.K H io d2 v2 [] → Rp X.K H io d3 v3 [] → Q (((σ.set i (some v1)).set j (some v2)).set k (some v3)) H := fun d1 d2 d3 v1 v2 v3 e h1 h2 h3 => by
      cases e
      obtain ⟨oss1, S1, m1⟩ := S.setS' (i := i) h1
      obtain ⟨oss2, S2, m2⟩ := S1.setS' (i := j) h2
      obtain ⟨oss3, S3, m3⟩ := S2.setS' (i := k) h3
      refine q _ oss3 S3 (fun a ha => m1 a (m2 a (m3 a ha))) fun ws h => ?_
      rw [wipe_set (h k (by simp [Tg.slots])), wipe_set (h j (by simp [Tg.slots])), wipe_set (h i (by simp [Tg.slots]))]
    match d, e, rx with
    | .tup [d1, d2, d3], e, rx =>
      obtain ⟨a, vs, ev, hs, rl⟩ := rx.tup_inv
      obtain ⟨v1, v2, v3, rfl, h1, h2, h3⟩ := Rp.three0 rl
      exact (pg_tup hc G).run pins s σ H v u Q I rv ⟨a, _, ev, hs, rfl, _, _, rfl, _, _, rfl, _, _, rfl, rfl, fin d1 d2 d3 v1 v2 v3 e.symm h1 h2 h3⟩
    | .lst false [d1, d2, d3], e, rx =>
      cases rx with
      | lstS h rl =>
        obtain ⟨v1, v2, v3, rfl, h1, h2, h3⟩ := Rp.three0 rl
        exact (pg_unl hc G).run pins s σ H _ u Q I rv ⟨_, _, rfl, h.sq, rfl, _, _, rfl, _, _, rfl, _, _, rfl, rfl, fin d1 d2 d3 v1 v2 v3 e.symm h1 h2 h3⟩⟩
end
end HF

/-! HF: what is walked; list comprehensions. -/
namespace HF
open PySem PySem.Spec L2
open PyProof.Rows hiding St

/-! ### from one heap to a later one, names changed between -/
structure Kf (io : List Addr) (H : Hp) (io' : List Addr) (H' : Hp) : Prop where
  st : ∀ a o, H a = some o → ¬ Mut (some o) → H' a = some o
  pre : io <+: io'
theorem Kf.refl (io : List Addr) (H : Hp) : Kf io H io H := ⟨fun _ _ h _ => h, List.prefix_refl _⟩
theorem Kf.trans {io io1 io2 : List Addr} {H H1 H2 : Hp} (a : Kf io H io1 H1) (b : Kf io1 H1 io2 H2) : Kf io H io2 H2 := ⟨fun c o h n => b.st c o (a.st c o h n) n, a.pre.trans b.pre⟩
theorem Kp.kf {io io' : List Addr} {H H' : Hp} (k : Kp io H io' H') (bl : BL io H) : Kf io H io' H' := ⟨fun a o h n => k.keep a o h fun hm => by
  obtain ⟨vs, e⟩ := bl a hm
  rw [h] at e; cases e; exact n trivial, k.pre⟩
theorem Kf.upd {io : List Addr} {H : Hp} {a : Addr} {o : HO} (m : Mut (H a)) : Kf io H io (L2.upd H a o) := ⟨fun b u h n => by
  rw [upd_ne]; exact h
  intro e; subst e; rw [h] at m; exact n m, List.prefix_refl _⟩
theorem Fz.kf {io : List Addr} {os : List Addr} {H H' : Hp} (f : Fz os H H') : Kf io H io H' := ⟨fun a o h n => f.other h n, List.prefix_refl _⟩
theorem Kf.sqT {K : PySem.W.Frag} {io io' : List Addr} {H H' : Hp} {a : Addr} {vs : List V} (k : Kf io H io' H') (h : SqT K H a vs) : SqT K H' a vs := by
  rcases h with (h | ⟨o, h⟩) | h
  · exact .inl (.inl (k.st a _ h fun z => z))
  · exact .inl (.inr ⟨o, k.st a _ h fun z => z⟩)
  · exact .inr h
theorem Kf.ls {io io' : List Addr} {H H' : Hp} {a : Addr} {vs : List V} (k : Kf io H io' H') (h : LS H a vs) : LS H' a vs := let ⟨o, h⟩ := h; ⟨o, k.st a _ h fun z => z⟩
theorem Kf.lk {K : PySem.W.Frag} {io io' : List Addr} {H H' : Hp} {a : Addr} {vs : List V} (k : Kf io H io' H') (h : LK K H a vs) : LK K H' a vs := by
  rcases h with ⟨o, h⟩ | h
  · exact .inl ⟨o, k.st a _ h fun z => z⟩
  · exact .inr h
section
variable {K : PySem.W.Frag} {io io' : List Addr} {H H' : Hp}
mutual
theorem Rp.keepS (k : Kf io H io' H') : ∀ {d : D} {v : V} {os : List Addr}, Rp K H io d v os → os = [] → Rp K H' io' d v []
  | _, _, _, .non, _ => .non
  | _, _, _, .bl b, _ => .bl b
  | _, _, _, .int z, _ => .int z
  | _, _, _, .str h, _ => .str h
  | _, _, _, .lstS h r, _ => .lstS (k.ls h) (RpL.keepS k r rfl)
  | _, _, _, .lstO _ _ _, h => nomatch h
  | _, _, _, .tup h r, e => .tup (h.of fun _ e => k.st _ _ e fun z => z) (RpL.keepS k r e)
  | _, _, _, .dctS h e r, _ => .dctS (k.st _ _ h fun z => z) e (RpK.keepS k r rfl)
  | _, _, _, .dctO _ _ _, h => nomatch h
  | _, _, _, .box h, _ => .box (by
      obtain ⟨t, e⟩ := k.pre
      rw [← e]
      rw [List.getElem?_append_left (List.getElem?_eq_some_iff.mp h).1]
      exact h)
  | _, _, _, .scr h, _ => .scr (k.lk h)
theorem RpL.keepS (k : Kf io H io' H') : ∀ {ds : List D} {vs : List V} {os : List Addr}, RpL K H io ds vs os → os = [] → RpL K H' io' ds vs []
  | _, _, _, .nil, _ => .nil
  | _, _, _, .cons h r, e => by
    obtain ⟨e1, e2⟩ := List.append_eq_nil_iff.mp e
    exact .cons (os := []) (ps := []) (h.keepS k e1) (RpL.keepS k r e2)
theorem RpK.keepS (k : Kf io H io' H') : ∀ {ds : List (DK × D)} {vs : List (DK × V)} {os : List Addr}, RpK K H io ds vs os → os = [] → RpK K H' io' ds vs []
  | _, _, _, .nil, _ => .nil
  | _, _, _, .cons hk h r, e => by
    obtain ⟨e1, e2⟩ := List.append_eq_nil_iff.mp e
    exact .cons (os := []) (ps := []) hk (h.keepS k e1) (RpK.keepS k r e2)
end
end

/-! ### what is walked -/
def Feed (K : PySem.W.Frag) (J : L2.It) (io : List Addr) (H : Hp) (ds : List D) : Prop :=
  Walk J ds.length (fun H' => ∃ io', Kf io H io' H') fun i H' x H'' => (∀ a o, H' a = some o → H'' a = some o) ∧ ∃ d, ds[i]? = some d ∧ ∀ io', Kf io H io' H' → BL io' H' → Rp K H'' io' d x []
def tI (K : PySem.W.Frag) (it : Ws) : TI := fun σ H R => ∃ io b r oss, SR K io b r oss σ H ∧ ∃ ds b', it r b = some (ds, b') ∧ ∀ J H' io', Kp io H io' H' → SR K io' b' r oss σ H' → Feed K J io' H' ds → R J H'
section
variable {X : Cx} {K : PySem.W.Frag} {io : List Addr} {H : Hp}
theorem Feed.list {a : Addr} {vs : List V} {ds : List D} (h : LS H a vs) (r : RpL K H io ds vs []) : Feed K (Itl K a) io H ds := by
  have w : Walk (Itl K a) vs.length _ _ := walk_list (K := K) (a := a) (xs := vs)
  unfold Feed
  rw [r.length]
  refine w.mono (fun H' ⟨io', k⟩ => (k.ls h).sq) fun i H' x H'' hi ⟨_, _⟩ y => ?_
  obtain ⟨rfl, e⟩ := y
  obtain ⟨d, e', rx⟩ := r.get0 e
  exact ⟨fun _ _ z => z, d, e', fun io' k _ => rx.keepS k rfl⟩
theorem Feed.tup {a : Addr} {vs : List V} {ds : List D} (h : SqT K H a vs) (r : RpL K H io ds vs []) : Feed K (Itt K a) io H ds := by
  have w : Walk (Itt K a) vs.length _ _ := walk_tup (K := K) (a := a) (xs := vs)
  unfold Feed
  rw [r.length]
  refine w.mono (fun H' ⟨io', k⟩ => k.sqT h) fun i H' x H'' hi ⟨_, _⟩ y => ?_
  obtain ⟨rfl, e⟩ := y
  obtain ⟨d, e', rx⟩ := r.get0 e
  exact ⟨fun _ _ z => z, d, e', fun io' k _ => rx.keepS k rfl⟩
theorem Feed.range {lo : Int} {n : Nat} {ds : List D} (hl : ds.length = n) (hd : ∀ i, i < n → ds[i]? = some (.int (lo + i))) : Feed K (Itr lo n) io H ds := by
  have w : Walk (Itr lo n) n _ _ := walk_range (lo := lo) (n := n)
  unfold Feed
  rw [hl]
  refine w.mono (fun _ _ => trivial) fun i H' x H'' hi ⟨_, _⟩ y => ?_
  obtain ⟨rfl, rfl⟩ := y
  exact ⟨fun _ _ z => z, _, hd i hi, fun io' k _ => .int _⟩
end
end HF

/-! HF: zip and enumerate of lists and tuples, the pairs without a dict. -/
namespace HF
open PySem PySem.Spec L2
open PyProof.Rows hiding St
inductive SK where
  | l | t
def itO (k : SK) (a : Addr) : Obj := match k with
  | .l => { cls := .type "list_iterator", data := .fields #[.ref a, .int 0 0] }
  | .t => { cls := .type "tuple_iterator", data := .fields #[.ref a, .int 0 0] }
def IsSq (k : SK) (h : Heap) (a : Addr) (items : Array Value) : Prop := match k with
  | .l => h.IsList a items
  | .t => h.IsTuple a items
def IsIt (k : SK) (h : Heap) (it a : Addr) (i : Nat) : Prop := match k with
  | .l => h.IsListIter it a i
  | .t => h.IsTupleIter it a i
def SqX (k : SK) (K : PySem.W.Frag) (H : Hp) (a : Addr) (xs : List V) : Prop := match k with
  | .l => SqL K H a xs
  | .t => SqT K H a xs
theorem drawsX {prog : Program} {w : World} {A : Around} (k : SK) (hh : A.handled = none) (it a : Addr) (hne : a ≠ it) (items : Array Value) : Draws prog w A it [it, a] items.size (fun i v => items[i]? = some v) (fun i h => IsIt k h it a i ∧ IsSq k h a items) := by
  cases k with
  | l => exact .list hh it a hne items
  | t => exact .tuple hh it a hne items
theorem beginsX (k : SK) (a : Addr) (items : Array Value) : Begins (.ref a) (itO k a) fun h => IsSq k h a items := by
  cases k with
  | l => exact begins_list a items
  | t => exact begins_tuple a items
theorem isIt0 {k : SK} {h : Heap} {it a : Addr} (e : h.get? it = some (itO k a)) : IsIt k h it a 0 := by
  cases k with
  | l => exact ⟨_, e, rfl, rfl⟩
  | t => exact ⟨_, e, rfl, rfl⟩
theorem IsIt.at' {k : SK} {h h' : Heap} {it a : Addr} {i : Nat} (x : IsIt k h it a i) (f : ∀ o, h.get? it = some o → h'.get? it = some o) : IsIt k h' it a i := by
  cases k with
  | l => exact Heap.IsListIter.at x f
  | t => exact Heap.IsTupleIter.at x f
theorem IsIt.ob {k : SK} {h : Heap} {it a : Addr} {i : Nat} (x : IsIt k h it a i) : ∃ o, h.get? it = some o ∧ ∀ v, o.data ≠ .cell v := by
  cases k with
  | l => obtain ⟨o, e, _, d⟩ := x; exact ⟨o, e, fun v q => by rw [d] at q; cases q⟩
  | t => obtain ⟨o, e, _, d⟩ := x; exact ⟨o, e, fun v q => by rw [d] at q; cases q⟩
theorem IsSq.lt {k : SK} {h : Heap} {a : Addr} {items : Array Value} (x : IsSq k h a items) : a < h.objs.size := by
  cases k with
  | l => obtain ⟨o, e, _⟩ := x; exact Heap.lt_size e
  | t => obtain ⟨o, e, _⟩ := x; exact Heap.lt_size e
section
variable {X : Cx} {pins : List (Addr × Obj)} {σ : St} {H : Hp} {s : Shared}
theorem inv_sq {k : SK} {a : Addr} {xs : List V} (I : Inv X pins σ H s) (h : SqX k X.K H a xs) : ∃ its : List Value, Vals xs its ∧ IsSq k s.heap a its.toArray ∧ xs.length ≤ sizeLine := by
  cases k with
  | l =>
    obtain ⟨its, r, p, z⟩ := I.list h
    exact ⟨its, r, p.isList, z⟩
  | t =>
    obtain ⟨its, r, p, z⟩ := I.tuple h
    exact ⟨its, r, p, z⟩
theorem sq_inj {k : SK} {a : Addr} {xs ys : List V} (I : Inv X pins σ H s) (h : SqX k X.K H a xs) (h' : SqX k X.K H a ys) : xs = ys := by
  cases k with
  | l => exact I.list_inj h h'
  | t => exact I.tuple_inj h h'
end
/-- pairs of what two such bear -/
def ItzF (k1 k2 : SK) (K : PySem.W.Frag) (a b : Addr) : L2.It :=
  ⟨fun i H => ∃ (xs ys : List V) (x y : V), SqX k1 K H a xs ∧ SqX k2 K H b ys ∧ xs[i]? = some x ∧ ys[i]? = some y,
    fun i H v H' => ∃ T o x y, v = .ref T ∧ H T = none ∧ o.dict = none ∧ H' = upd H T (.frz o (.tup [x, y])) ∧ (∀ xs, SqX k1 K H a xs → xs[i]? = some x) ∧ ∀ ys, SqX k2 K H b ys → ys[i]? = some y,
    fun i H => ∃ xs ys : List V, SqX k1 K H a xs ∧ SqX k2 K H b ys ∧ i ≤ xs.length ∧ i ≤ ys.length ∧ (xs.length = i ∨ ys.length = i)⟩
theorem pair_new {X : Cx} {H : Hp} {h'' : Heap} {T : Addr} {x y : V} {u u2 : Value} (ru : RelV x u) (ru2 : RelV y u2) (hT : h''.get? T = some (tupO #[u, u2])) : ObjOk X.prog X.w (upd H T (.frz (tupO #[u, u2]) (.tup [x, y]))) h'' T (.frz (tupO #[u, u2]) (.tup [x, y])) :=
  ⟨hT, by show 2 ≤ sizeLine; decide, [u, u2], .cons ru (.cons ru2 .nil), ⟨_, hT, rfl, _, rfl⟩⟩
theorem turn_zipF {P : Program} {w : World} {K : PySem.W.Frag} {elts : List Expr} {kk : Nat} {tpos : Pos} {k1 k2 : SK} {a b z TI TO i1 i2 : Addr} (S : ZipSep2 z TI TO i1 i2 [i1, a] [i2, b]) (n1 : a ≠ i1) (n2 : b ≠ i2) :
    Turn P w K (.Tuple elts kk tpos) (ItzF k1 k2 K a b) [z, TI, TO, i1, i2] z (fun i h => IsZip h z TI TO .none ∧ IsTupOf2 h TI (.ref i1) (.ref i2) ∧ (∃ x y, IsTupOf2 h TO x y) ∧ IsIt k1 h i1 a i ∧ IsIt k2 h i2 b i) where
  mem := by simp
  obj := fun i h st c hc => by
    obtain ⟨hz, hTI, ⟨x, y, hTO⟩, h1, h2⟩ := st
    have e' : c = z ∨ c = TI ∨ c = TO ∨ c = i1 ∨ c = i2 := by simpa using hc
    rcases e' with rfl | rfl | rfl | rfl | rfl
    · exact ⟨_, hz, fun v q => nomatch q⟩
    · exact ⟨_, hTI, fun v q => nomatch q⟩
    · exact ⟨_, hTO, fun v q => nomatch q⟩
    · exact h1.ob
    · exact h2.ob
  keep := fun i h h' ⟨hz, hTI, ⟨x, y, hTO⟩, h1, h2⟩ k => ⟨k z (by simp) _ hz, k TI (by simp) _ hTI, ⟨x, y, k TO (by simp) _ hTO⟩, h1.at' fun o q => k i1 (by simp) o q, h2.at' fun o q => k i2 (by simp) o q⟩
  item := by
    intro X hP hw hK hc i pins s σ H E I hf ⟨hz, hTI, ⟨x0, y0, hTO⟩, h1, h2⟩ ⟨xs, ys, x, y, hqx, hqy, hx, hy⟩
    subst hP hw hK
    obtain ⟨its, rv, p, _⟩ := inv_sq I hqx
    obtain ⟨its2, rv2, p2, _⟩ := inv_sq I hqy
    obtain ⟨u, hu, ru⟩ := rv.get hx
    obtain ⟨u2, hu2, ru2⟩ := rv2.get hy
    have hd := I.ok.hd hc
    have D1 := drawsX (prog := X.prog) (w := X.w) (A := X.A.in1) k1 hd i1 a n1 its.toArray
    have D2 := drawsX (prog := X.prog) (w := X.w) (A := X.A.in1) k2 hd i2 b n2 its2.toArray
    have e1 := (List.getElem?_eq_some_iff.mp hu).1
    have e2 := (List.getElem?_eq_some_iff.mp hu2).1
    refine wpAny_pyNext_zipD2_item S D1 D2 hz hTI hTO ⟨h1, p⟩ ⟨h2, p2⟩ (by simpa using e1) (by simpa using e2) fun x1 x2 h' tk g1 g2 z' TO' ⟨h1', _⟩ ⟨h2', _⟩ hT hsz hk => ?_
    obtain rfl : u = x1 := Option.some.inj (hu.symm.trans (by simpa using g1))
    obtain rfl : u2 = x2 := Option.some.inj (hu2.symm.trans (by simpa using g2))
    have lt : ∀ {c o}, s.heap.get? c = some o → c < s.heap.objs.size := fun e => Heap.lt_size e
    have zl := lt hz
    have ne5 : ∀ {c : Addr} {l : List Addr}, c ∉ l → ∀ d ∈ l, c ≠ d := fun h d hd e => h (e ▸ hd)
    refine ⟨_, rfl, wpAny_letOwnedTupleGo_zip (s := { s with heap := h', toks := tk }) z' fun h'' z'' sb => ?_⟩
    have hT2 : h''.get? s.heap.objs.size = some (tupO #[u, u2]) := (sb.2 _ (Nat.ne_of_gt zl)).trans hT
    have I1 : Inv X pins σ (upd H s.heap.objs.size (.frz (tupO #[u, u2]) (.tup [x, y]))) { s with heap := h'', toks := tk } :=
      I.turnedNew (ch := [z, TI, TO, i1, i2]) (fun c o hb q => by
        have hb' : c ≠ z ∧ c ≠ TI ∧ c ≠ TO ∧ c ≠ i1 ∧ c ≠ i2 := by simpa using hb
        exact (sb.2 c hb'.1).trans (hk c o hb'.1 hb'.2.2.1 hb'.2.2.2.1 hb'.2.2.2.2 q)) hf (Nat.le_refl _) (pair_new ru ru2 hT2)
    refine ⟨.ref s.heap.objs.size, _, I1, rfl, ⟨_, _, x, y, rfl, I.hok.fresh (Nat.le_refl _), rfl, rfl, fun l hl => by rw [sq_inj I hl hqx]; exact hx, fun l hl => by rw [sq_inj I hl hqy]; exact hy⟩, ⟨z'', ?_, ⟨u, u2, ?_⟩, ?_, ?_⟩, fun c hcm => ?_⟩
    · exact (sb.2 _ S.TIz).trans (hk _ _ S.TIz S.TITO S.TIi1 S.TIi2 hTI)
    · exact (sb.2 _ S.TOz).trans TO'
    · exact h1'.at' fun o q => (sb.2 _ S.zi1.symm).trans q
    · exact h2'.at' fun o q => (sb.2 _ S.zi2.symm).trans q
    · have hlt : c < s.heap.objs.size := by
        have e' : c = z ∨ c = TI ∨ c = TO ∨ c = i1 ∨ c = i2 := by simpa using hcm
        rcases e' with rfl | rfl | rfl | rfl | rfl
        · exact zl
        · exact lt hTI
        · exact lt hTO
        · obtain ⟨_, q, _⟩ := h1.ob; exact lt q
        · obtain ⟨_, q, _⟩ := h2.ob; exact lt q
      rw [upd_ne (Nat.ne_of_lt hlt)]
      exact (hf c hcm).1
  done := by
    intro X hP hw hK hc i pins s σ H E I hf ⟨hz, hTI, ⟨x0, y0, hTO⟩, h1, h2⟩ ⟨xs, ys, hqx, hqy, hl1, hl2, hend⟩
    subst hP hw hK
    obtain ⟨its, rv, p, _⟩ := inv_sq I hqx
    obtain ⟨its2, rv2, p2, _⟩ := inv_sq I hqy
    have hd := I.ok.hd hc
    have D1 := drawsX (prog := X.prog) (w := X.w) (A := X.A.in1) k1 hd i1 a n1 its.toArray
    have D2 := drawsX (prog := X.prog) (w := X.w) (A := X.A.in1) k2 hd i2 b n2 its2.toArray
    have l1 := rv.length
    have l2 := rv2.length
    refine wpAny_pyNext_zipD2_end S D1 D2 hz hTI hTO ⟨h1, p⟩ ⟨h2, p2⟩ (by simp; omega) (by simp; omega) (by simp; omega) fun h' tk hk => ⟨rfl, ?_⟩
    exact I.turnedL (ch := [z, TI, TO, i1, i2]) (fun c o hb q => by
      have hb' : c ≠ z ∧ c ≠ TI ∧ c ≠ TO ∧ c ≠ i1 ∧ c ≠ i2 := by simpa using hb
      exact hk c o hb'.1 hb'.2.2.1 hb'.2.2.2.1 hb'.2.2.2.2 q) hf
  self := fun A i s Q E st h => wpAny_pyIter_zip st.1 h
def iZipF (K : PySem.W.Frag) (ta : TA) : TI := fun σ H R => ta σ H fun vs H1 => ∃ k1 k2 a b xs ys, vs = [.ref a, .ref b] ∧ SqX k1 K H1 a xs ∧ SqX k2 K H1 b ys ∧ R (ItzF k1 k2 K a b) H1
theorem pi_zipF {X : Cx} {e e2 : Expr} {ta : TA} {p pos tpos : Pos} {elts : List Expr} {kk : Nat} (hg : Gl X "zip") (hm : X.mg "zip" = none) (ha : PA X [e, e2] ta) (hs : starEach [e, e2] X.env = (false, eval e X.env) :: starEach [e2] X.env) (hpl : (backTo pos (starEach [e2] X.env)).any (·.1) = false) :
    PI X (.Tuple elts kk tpos) (.Call (.Name "zip" p) [e, e2] [] pos) (iZipF X.K ta) := by
  refine ⟨fun pins s σ H R I h => ?_⟩
  refine Call_ (ld_blt I hg hm PyProof.Rows.boot_zip (PyProof.Rows.callWith_type1 (thn (ha.run pos pins s σ H _ I h) fun us s1 ⟨vs, H1, I1, r1, k1, k2, a, b, xs, ys, ex, hqx, hqy, q⟩ => ?_) hs hpl))
  subst ex
  obtain ⟨u1, u2, rfl, r1, r2⟩ := r1.two
  cases r1
  cases r2
  obtain ⟨its, rv, p1, _⟩ := inv_sq I1 hqx
  obtain ⟨its2, rv2, p2, _⟩ := inv_sq I1 hqy
  refine zip_begins2 (beginsX k1 a its.toArray) (beginsX k2 b its2.toArray) p1 p2 fun h' hz hTI hTO g1 g2 hsz hk => wpAny_pyIter_zip hz ?_
  have I2 : Inv X pins σ H1 { s1 with heap := h' } := I1.kept (t' := s1.toks) hk
  have S := zip_sep2 (N := s1.heap.objs.size) (fp1 := [a]) (fp2 := [b]) (fun c hc => by rw [List.mem_singleton.mp hc]; exact p1.lt) (fun c hc => by rw [List.mem_singleton.mp hc]; exact p2.lt)
  refine ⟨s1.heap.objs.size + 4, [s1.heap.objs.size + 4, s1.heap.objs.size + 2, s1.heap.objs.size + 3, s1.heap.objs.size, s1.heap.objs.size + 1], _, _, H1, rfl, I2, turn_zipF S (Nat.ne_of_lt p1.lt) (Nat.ne_of_lt (Nat.lt_succ_of_lt p2.lt)), ⟨hz, hTI, ⟨_, _, hTO⟩, isIt0 g1, isIt0 g2⟩, fun c hcm => ?_, q⟩
  have e' : c = s1.heap.objs.size + 4 ∨ c = s1.heap.objs.size + 2 ∨ c = s1.heap.objs.size + 3 ∨ c = s1.heap.objs.size ∨ c = s1.heap.objs.size + 1 := by simpa using hcm
  have hle : s1.heap.objs.size ≤ c := by
    rcases e' with z | z | z | z | z
    · rw [z]; exact Nat.le_add_right _ _
    · rw [z]; exact Nat.le_add_right _ _
    · rw [z]; exact Nat.le_add_right _ _
    · rw [z]; exact Nat.le_refl _
    · rw [z]; exact Nat.le_add_right _ _
  exact I1.fpOk hle (I1.hok.fresh hle)
/-! ### enumerate -/
def IteF (k : SK) (K : PySem.W.Frag) (a : Addr) : L2.It :=
  ⟨fun i H => ∃ (xs : List V) (x : V), SqX k K H a xs ∧ xs[i]? = some x, fun i H v H' => ∃ T o x, v = .ref T ∧ H T = none ∧ o.dict = none ∧ H' = upd H T (.frz o (.tup [.int (i : Nat), x])) ∧ ∀ xs, SqX k K H a xs → xs[i]? = some x,
    fun i H => ∃ xs : List V, SqX k K H a xs ∧ xs.length = i⟩
theorem turn_enumF {P : Program} {w : World} {K : PySem.W.Frag} {elts : List Expr} {kk : Nat} {tpos : Pos} {k : SK} {a e it : Addr} (n1 : a ≠ it) (n2 : e ≠ it) (n3 : e ≠ a) :
    Turn P w K (.Tuple elts kk tpos) (IteF k K a) [e, it] e (fun i h => (∃ old, IsEnum h e it ((i : Nat) : Int) old) ∧ IsIt k h it a i) where
  mem := by simp
  obj := fun i h ⟨⟨old, he⟩, hi⟩ b hb => by
    have e' : b = e ∨ b = it := by simpa using hb
    rcases e' with rfl | rfl
    · exact ⟨_, he, fun v q => nomatch q⟩
    · exact hi.ob
  keep := fun i h h' ⟨⟨old, he⟩, hi⟩ f => ⟨⟨old, f e (by simp) _ he⟩, hi.at' fun o q => f it (by simp) o q⟩
  item := by
    intro X hP hw hK hc i pins s σ H E I hf ⟨⟨old, he⟩, hit⟩ ⟨xs, x, hq, hx⟩
    subst hP hw hK
    obtain ⟨its, rv, p, _⟩ := inv_sq I hq
    obtain ⟨u, hu, ru⟩ := rv.get hx
    have D := drawsX (prog := X.prog) (w := X.w) (A := X.A.in1) k (I.ok.hd hc) it a n1 its.toArray
    have e1 := (List.getElem?_eq_some_iff.mp hu).1
    have hel : e < s.heap.objs.size := Heap.lt_size he
    refine wpAny_pyNext_enum_itemC D he ⟨hit, p⟩ (by simpa using e1) n2 (by simp [n2, n3]) fun x1 h' tk g ho ⟨hit', _⟩ hT hsz hk => ?_
    obtain rfl : u = x1 := Option.some.inj (hu.symm.trans (by simpa using g))
    refine ⟨_, rfl, wpAny_letOwnedTupleGo_enum (s := { s with heap := h', toks := tk + 1 }) ho fun h'' he' sb => ?_⟩
    have hT2 : h''.get? s.heap.objs.size = some (tupO #[.int i tk, u]) := (sb.2 _ (Nat.ne_of_gt hel)).trans hT
    have I1 : Inv X pins σ (upd H s.heap.objs.size (.frz (tupO #[.int i tk, u]) (.tup [.int (i : Nat), x]))) { s with heap := h'', toks := tk + 1 } :=
      I.turnedNew (ch := [e, it]) (fun b ob hb q => by
        have hb' : b ≠ e ∧ b ≠ it := by simpa using hb
        exact (sb.2 b hb'.1).trans (hk b ob hb'.1 hb'.2 q)) hf (Nat.le_refl _) (pair_new ⟨_, rfl⟩ ru hT2)
    refine ⟨.ref s.heap.objs.size, _, I1, rfl, ⟨_, _, x, rfl, I.hok.fresh (Nat.le_refl _), rfl, rfl, fun ys hy => by rw [sq_inj I hy hq]; exact hx⟩, ⟨⟨u, ?_⟩, hit'.at' fun o q => (sb.2 it (Ne.symm n2)).trans q⟩, fun b hb => ?_⟩
    · have ei : ((i + 1 : Nat) : Int) = (i : Int) + 1 := by omega
      rw [ei]; exact he'
    · have hb' : b < s.heap.objs.size := by
        have e' : b = e ∨ b = it := by simpa using hb
        rcases e' with rfl | rfl
        · exact hel
        · obtain ⟨_, q, _⟩ := hit.ob; exact Heap.lt_size q
      rw [upd_ne (Nat.ne_of_lt hb')]
      exact (hf b hb).1
  done := by
    intro X hP hw hK hc i pins s σ H E I hf ⟨⟨old, he⟩, hit⟩ ⟨xs, hq, hl⟩
    subst hP hw hK
    obtain ⟨its, rv, p, _⟩ := inv_sq I hq
    have D := drawsX (prog := X.prog) (w := X.w) (A := X.A.in1) k (I.ok.hd hc) it a n1 its.toArray
    have hl2 := rv.length
    have hi : its.toArray.size = i := by simp; omega
    refine wpAny_pyNext_enum_endD D he (by rw [hi]; exact ⟨hit, p⟩) fun h' eb => ⟨rfl, I.turnedL (t' := s.toks) (ch := [e, it]) (fun b o hb q => eb b o (fun z => hb (by simp [z])) q) hf⟩
  self := fun A i s Q E ⟨⟨_, he⟩, _⟩ h => wpAny_pyIter_enum he h
end HF

/-! HF: enumerate begins. -/
namespace HF
open PySem PySem.Spec L2
open PyProof.Rows hiding St
open Sem (wp)
abbrev enO (it : Addr) : Obj := { cls := .type "enumerate", data := .fields #[.none, .bool false, .ref it, rawInt 0, .none, .none] }
set_option maxHeartbeats 8000000 in
theorem enum_new {v : Value} {o : Obj} {Ok : Heap → Prop} (B : Begins v o Ok) :
    Meets (Builtin.«enumerate.__new__» ⟨[.type "enumerate", v], []⟩) (fun _ R s => Ok s.heap ∧ R (.ok (.ret (.ref (s.heap.push o).objs.size))) { s with heap := (s.heap.push o).push (enO s.heap.objs.size) }) :=
  .of_wp fun prog w A R s h => by
    obtain ⟨hp, g, d, tk, os⟩ := s
    obtain ⟨h1, h⟩ := h
    have hsub := sub_enumerate
    have start : ∀ {A' : Around} {E : Value → Shared → Prop} {Q : Value → Shared → Prop}, Q (.ref hp.objs.size) ⟨hp.push o, g, d, tk, os⟩ → wpAny (model prog w) A' (pyIter v) Q E ⟨hp, g, d, tk, os⟩ := fun q =>
      B.iter prog w _ _ ⟨hp, g, d, tk, os⟩ _ h1 q
    wp_walk using start
    refine wpAny_stack_any fun st => wpAny_pure ?_
    split
    · rename_i c _ _ _ _ _
      cases (c == Value.type "enumerate") <;>
      · wp_walk using start
        exact ⟨_, rfl, h⟩
    · wp_walk using start
      exact ⟨_, rfl, h⟩
theorem call_enum1 {prog : Program} {w : World} {A : Around} {E : Value → Shared → Prop} {s : Shared} {v : Value} {o : Obj} {Ok : Heap → Prop} {Q : Value → Shared → Prop} (B : Begins v o Ok) (h1 : Ok s.heap)
    (h : ∀ h', IsEnum h' (s.heap.objs.size + 1) s.heap.objs.size 0 .none → h'.get? s.heap.objs.size = some o → (∀ b o, s.heap.get? b = some o → h'.get? b = some o) → Q (.ref (s.heap.objs.size + 1)) { s with heap := h' }) :
    wpAny (model prog w) A (call (.type "enumerate") [v]) Q E s := by
  refine callType_new F.called_enumerate (by decide) (F.typeCall_enumerate_1 _) (F.newCall_enumerate_1 _) (fun obj => F.args_object_init_2 obj _) F.entry_enumerate_new (enum_new B) ⟨h1, ?_⟩
  have hz : (s.heap.push o).objs.size = s.heap.objs.size + 1 := Heap.size_push ..
  show _ ∧ _
  rw [hz]
  have he : IsEnum ((s.heap.push o).push (enO s.heap.objs.size)) (s.heap.objs.size + 1) s.heap.objs.size 0 .none := by
    have := Heap.get?_push_size (s.heap.push o) (o := enO s.heap.objs.size) rfl
    rw [hz] at this
    exact this
  exact ⟨⟨_, he, rfl⟩, h _ he (Heap.get?_push_of_some _ (Heap.get?_push_size _ B.free)) fun b o x => Heap.get?_push_of_some _ (Heap.get?_push_of_some _ x)⟩
def iEnumF (K : PySem.W.Frag) (ta : TA) : TI := fun σ H R => ta σ H fun vs H1 => ∃ k a xs, vs = [.ref a] ∧ SqX k K H1 a xs ∧ R (IteF k K a) H1
theorem pi_enumF {X : Cx} {e : Expr} {ta : TA} {p pos tpos : Pos} {elts : List Expr} {kk : Nat} (hg : Gl X "enumerate") (hm : X.mg "enumerate" = none) (ha : PA X [e] ta) (hs : starEach [e] X.env = [(false, eval e X.env)]) :
    PI X (.Tuple elts kk tpos) (.Call (.Name "enumerate" p) [e] [] pos) (iEnumF X.K ta) := by
  refine ⟨fun pins s σ H R I h => ?_⟩
  refine Call_ (ld_blt I hg hm boot_enumerate (PyProof.Rows.callWith_type1 (thn (ha.run pos pins s σ H _ I h) fun us s1 ⟨vs, H1, I1, r1, k, a, xs, ex, hq, q⟩ => ?_) hs rfl))
  subst ex
  obtain ⟨u, rfl, r⟩ := r1.one
  cases r
  obtain ⟨its, rv, p1, _⟩ := inv_sq I1 hq
  refine call_enum1 (beginsX k a its.toArray) p1 fun h' he g1 hk => wpAny_pyIter_enum he ?_
  have I2 : Inv X pins σ H1 { s1 with heap := h' } := I1.kept (t' := s1.toks) hk
  have al := p1.lt
  refine ⟨s1.heap.objs.size + 1, [s1.heap.objs.size + 1, s1.heap.objs.size], _, _, H1, rfl, I2, turn_enumF (Nat.ne_of_lt al) (Nat.succ_ne_self _) (Nat.ne_of_gt (Nat.lt_succ_of_lt al)), ⟨⟨.none, he⟩, isIt0 g1⟩, fun b hb => ?_, q⟩
  have hle : s1.heap.objs.size ≤ b := by
    have e' : b = s1.heap.objs.size + 1 ∨ b = s1.heap.objs.size := by simpa using hb
    rcases e' with z | z
    · rw [z]; exact Nat.le_add_right _ _
    · rw [z]; exact Nat.le_refl _
  exact I1.fpOk hle (I1.hok.fresh hle)
end HF

/-! HF: walks by a name, a range; list comprehensions. -/
namespace HF
open PySem PySem.Spec L2
open PyProof.Rows hiding St
section
variable {X : Cx} {tg : Expr}
theorem Rp.lstF {K : PySem.W.Frag} {H : Hp} {io : List Addr} {o : Bool} {ds : List D} {v : V} (h : Rp K H io (.lst o ds) v []) : o = false ∧ ∃ a vs, v = .ref a ∧ LS H a vs ∧ RpL K H io ds vs [] := by
  generalize hq : ([] : List Addr) = q at h
  cases h with
  | lstS h r => exact ⟨rfl, _, _, rfl, h, r⟩
  | lstO _ _ _ => cases hq
theorem Rp.dctF {K : PySem.W.Frag} {H : Hp} {io : List Addr} {o : Bool} {ds : List (DK × D)} {v : V} (h : Rp K H io (.dct o ds) v []) : o = false ∧ ∃ a ob kvs ks, v = .ref a ∧ H a = some (.frz ob (.dK ks)) ∧ kvs = ks.map (fun p => (keyDK p.1, p.2)) ∧ RpK K H io ds kvs [] := by
  generalize hq : ([] : List Addr) = q at h
  cases h with
  | dctS h e r =>
    obtain ⟨k, rfl, e2⟩ := e
    exact ⟨rfl, _, _, _, _, rfl, h, e2, r⟩
  | dctO _ _ _ => cases hq
theorem RpK.keys {K : PySem.W.Frag} {H : Hp} {io : List Addr} : ∀ {ds : List (DK × D)} {vs : List (DK × V)} {os : List Addr}, RpK K H io ds vs os → ds.map Prod.fst = vs.map Prod.fst
  | _, _, _, .nil => rfl
  | _, _, _, .cons _ _ r => by simp [RpK.keys r]
theorem RpK.okAll {K : PySem.W.Frag} {H : Hp} {io : List Addr} : ∀ {ds : List (DK × D)} {vs : List (DK × V)} {os : List Addr}, RpK K H io ds vs os → ∀ p ∈ ds, okK p.1 = true
  | _, _, _, .nil, _, h => nomatch h
  | _, _, _, .cons hk _ r, p, h => by
    rcases List.mem_cons.mp h with rfl | h
    · exact hk
    · exact r.okAll p h
theorem Feed.keys {K : PySem.W.Frag} {H : Hp} {io : List Addr} {a : Addr} {ob : Obj} {ks : List (Key × V)} {ds : List (DK × D)} (h : H a = some (.frz ob (.dK ks))) (r : RpK K H io ds (ks.map fun p => (keyDK p.1, p.2)) []) : Feed K (Itk a ob ks) io H (ds.map fun p => keyD p.1) := by
  have w : Walk (Itk a ob ks) ks.length _ _ := walk_keys (d := a) (o := ob) (kvs := ks)
  have hk : ds.map Prod.fst = ks.map fun p => keyDK p.1 := by
    rw [r.keys, List.map_map]
    rfl
  have hl : ks.length = (ds.map fun p => keyD p.1).length := by
    have := congrArg List.length hk
    simpa using this.symm
  unfold Feed
  rw [← hl]
  refine w.mono (fun H' ⟨io', k⟩ => k.st _ _ h fun z => z) fun i H' x H'' hi ⟨_, _⟩ y => ?_
  obtain ⟨rfl, k, v, e, rfl⟩ := y
  have e1 : (ds.map Prod.fst)[i]? = some (keyDK k) := by rw [hk]; simp [e]
  have e2 : ∃ p, ds[i]? = some p ∧ p.1 = keyDK k := by
    rw [List.getElem?_map] at e1
    cases q : ds[i]? with
    | none => rw [q] at e1; cases e1
    | some p => rw [q] at e1; exact ⟨p, rfl, by simpa using e1⟩
  obtain ⟨p, e3, e4⟩ := e2
  refine ⟨fun _ _ z => z, keyD p.1, by simp [e3], fun io' _ _ => ?_⟩
  rw [e4]
  cases k with
  | inl z => exact .int z
  | inr z =>
    have := r.okAll p (List.mem_of_getElem? e3)
    rw [e4] at this
    exact .str this
theorem Feed.str {K : PySem.W.Frag} {H : Hp} {io : List Addr} {z : Str} (h : PyData.strOk z = true) : Feed K (Its z) io H (signs z) := by
  have w : Walk (Its z) z.cps.size _ _ := walk_str (z := z)
  unfold Feed
  rw [show (signs z).length = z.cps.size by simp [signs]]
  refine w.mono (fun _ _ => trivial) fun i H' x H'' hi ⟨_, _⟩ y => ?_
  obtain ⟨rfl, c, e, rfl⟩ := y
  refine ⟨fun _ _ z => z, .str ⟨#[c]⟩, by simp [signs, e], fun io' _ _ => .str ?_⟩
  have : c ∈ z.cps := Array.mem_of_getElem? e
  have := Array.all_eq_true_iff_forall_mem.mp h c this
  simpa [PyData.strOk] using this

/-- a name, or what was given to all: a list, a tuple, a text -/
theorem di_seq {e : Expr} {f : Ev} (h : PE X e (tS X.K f)) : PI X tg e (tI X.K (itD itSeq f)) := by
  refine ⟨fun pins s σ H R I ⟨io, b, r, oss, S, ds, b', e, q⟩ => ?_⟩
  obtain ⟨d, b1, e1, e2⟩ := bnd_some e
  obtain ⟨e3, rfl⟩ := lift_some e2
  cases d with
  | lst o xs =>
    cases e3
    refine (pi_list h).run pins s σ H R I ⟨io, b, r, oss, S, _, b', e1, fun v H' io' k S' x => ?_⟩
    obtain ⟨rfl, a, vs, rfl, hl, rl⟩ := x.lstF
    exact ⟨a, rfl, ⟨vs, hl.sq⟩, q _ H' io' k S' (.list hl rl)⟩
  | tup xs =>
    cases e3
    refine (pi_tup h).run pins s σ H R I ⟨io, b, r, oss, S, _, b', e1, fun v H' io' k S' x => ?_⟩
    obtain ⟨a, vs, rfl, hl, rl⟩ := x.tup_inv
    exact ⟨a, rfl, ⟨vs, hl⟩, q _ H' io' k S' (.tup hl rl)⟩
  | str z =>
    cases e3
    refine (pi_str h).run pins s σ H R I ⟨io, b, r, oss, S, _, b', e1, fun v H' io' k S' x => ?_⟩
    cases x with
    | str hz => exact ⟨z, rfl, q _ H' io' k S' (.str hz)⟩
  | dct o kvs =>
    cases o with
    | true => cases e3
    | false =>
      cases e3
      refine (pi_keys h).run pins s σ H R I ⟨io, b, r, oss, S, _, b', e1, fun v H' io' k S' x => ?_⟩
      obtain ⟨_, a, ob, _, ks, rfl, ha, rfl, rk⟩ := x.dctF
      exact ⟨a, ob, rfl, .inl ⟨ks, ha, q _ H' io' k S' (.keys ha rk)⟩⟩
  | non => cases e3
  | bl _ => cases e3
  | int _ => cases e3
  | box _ => cases e3
  | scr _ => cases e3
/-- range(n), range(a, b) -/
def itRange2 (x y : D) : Option (List D) := match x, y with
  | .int a, .int b => if a.natAbs < 2 ^ 60 ∧ b.natAbs < 2 ^ 60 then some ((List.range (b - a).toNat).map fun (i : Nat) => D.int (a + (i : Int))) else none
  | _, _ => none
def itN (op : List D → Option (List D)) (fs : List Ev) : Ws := fun r => bnd (evs fs r) fun xs => lift (op xs)
def l1 (op : D → Option (List D)) : List D → Option (List D)
  | [x] => op x
  | _ => none
def l2 (op : D → D → Option (List D)) : List D → Option (List D)
  | [x, y] => op x y
  | _ => none
theorem di_range1 {a : Expr} {f : Ev} {p pos : Pos} (hg : Gl X "range") (hm : X.mg "range" = none) (ha : PA X [a] (tAM X.K false [f])) (hs : starEach [a] X.env = [(false, eval a X.env)]) : PI X tg (.Call (.Name "range" p) [a] [] pos) (tI X.K (itN (l1 itRange) [f])) := by
  refine PI_wk (pi_range1 hg hm ha hs) fun σ H R ⟨io, b, r, oss, S, ds, b', e, q⟩ => ?_
  obtain ⟨xs, b1, e1, e2⟩ := bnd_some e
  obtain ⟨e3, rfl⟩ := lift_some e2
  refine ⟨io, b, r, oss, S, xs, b', e1, fun vs H' io' os k S' x _ => ?_⟩
  cases x with
  | nil => cases e3
  | cons h rl =>
    cases rl with
    | cons _ _ => cases e3
    | nil =>
      cases h <;> first | cases e3 | skip
      rename_i n _
      have e4 : itRange (.int n) = some ds := e3
      unfold itRange at e4
      dsimp only at e4
      split at e4
      · rename_i hn
        cases e4
        refine ⟨n, rfl, by omega, by omega, q _ H' io' k S' (.range (by simp) fun i hi => ?_)⟩
        simp [hi]
      · cases e4
theorem di_range2 {a c : Expr} {f g : Ev} {p pos : Pos} (hg : Gl X "range") (hm : X.mg "range" = none) (ha : PA X [a, c] (tAM X.K false [f, g])) (hs : starEach [a, c] X.env = [(false, eval a X.env), (false, eval c X.env)]) (hs2 : starEach [c] X.env = [(false, eval c X.env)]) : PI X tg (.Call (.Name "range" p) [a, c] [] pos) (tI X.K (itN (l2 itRange2) [f, g])) := by
  refine PI_wk (pi_range2 hg hm ha hs hs2) fun σ H R ⟨io, b, r, oss, S, ds, b', e, q⟩ => ?_
  obtain ⟨xs, b1, e1, e2⟩ := bnd_some e
  obtain ⟨e3, rfl⟩ := lift_some e2
  refine ⟨io, b, r, oss, S, xs, b', e1, fun vs H' io' os k S' x _ => ?_⟩
  cases x with
  | nil => cases e3
  | cons h rl =>
    cases rl with
    | nil => cases e3
    | cons h' rl =>
      cases rl with
      | cons _ _ => cases e3
      | nil =>
        cases h <;> first | cases e3 | skip
        cases h' <;> first | cases e3 | skip
        rename_i n m _
        have e4 : itRange2 (.int n) (.int m) = some ds := e3
        unfold itRange2 at e4
        dsimp only at e4
        split at e4
        · rename_i hn
          cases e4
          refine ⟨n, m, rfl, by omega, q _ H' io' k S' (.range (by simp) fun i hi => ?_)⟩
          simp [hi]
        · cases e4
/-- both lists, or both tuples -/
theorem RpL.pair {K : PySem.W.Frag} {H : Hp} {io : List Addr} {d : D} {v : V} {ds : List D} {vs : List V} (h : RpL K H io (d :: ds) (v :: vs) []) : Rp K H io d v [] ∧ RpL K H io ds vs [] := by
  generalize hq : ([] : List Addr) = q at h
  cases h with
  | cons h r =>
    obtain ⟨z1, z2⟩ := List.append_eq_nil_iff.mp hq.symm
    subst z1 z2
    exact ⟨h, r⟩
/-- a new pair that has no dict -/
def YPairF (xs ys : Nat → Option V) : Nat → Hp → V → Hp → Prop := fun i H v H' => ∃ T o x y, v = .ref T ∧ H T = none ∧ o.dict = none ∧ H' = upd H T (.frz o (.tup [x, y])) ∧ xs i = some x ∧ ys i = some y
theorem walk_zipF {K : PySem.W.Frag} {k1 k2 : SK} {a b : Addr} {xs ys : List V} {n : Nat} (hn : n = min xs.length ys.length) : Walk (ItzF k1 k2 K a b) n (fun H => SqX k1 K H a xs ∧ SqX k2 K H b ys) (YPairF (fun i => xs[i]?) (fun i => ys[i]?)) := by
  subst hn
  refine ⟨fun i _ hi q => ?_, fun _ q => ⟨xs, ys, q.1, q.2, by omega, by omega, by omega⟩, fun i H v H' _ q ⟨T, o, x, z, h1, h2, h3, h4, h5, h6⟩ => ⟨T, o, x, z, h1, h2, h3, h4, h5 xs q.1, h6 ys q.2⟩⟩
  have h1 : i < xs.length := by omega
  have h2 : i < ys.length := by omega
  exact ⟨xs, ys, xs[i], ys[i], q.1, q.2, by simp [h1], by simp [h2]⟩
theorem walk_enumF {K : PySem.W.Frag} {k : SK} {a : Addr} {xs : List V} : Walk (IteF k K a) xs.length (fun H => SqX k K H a xs) (YPairF (fun i => some (.int (i : Nat))) (fun i => xs[i]?)) :=
  ⟨fun i _ hi q => ⟨xs, xs[i], q, by simp [hi]⟩, fun _ q => ⟨xs, q, rfl⟩, fun i H v H' _ q ⟨T, o, x, h1, h2, h3, h4, h5⟩ => ⟨T, o, _, x, h1, h2, h3, h4, rfl, h5 xs q⟩⟩
/-- a list or a tuple that stays -/
theorem Rp.sqX {K : PySem.W.Frag} {H : Hp} {io : List Addr} {d : D} {v : V} {ds : List D} (h : Rp K H io d v []) (e : itemsD d = some ds) : ∃ k a vs, v = .ref a ∧ (∀ io' H', Kf io H io' H' → SqX k K H' a vs) ∧ RpL K H io ds vs [] := by
  cases d <;> cases e
  · obtain ⟨rfl, a, vs, rfl, hl, rl⟩ := h.lstF
    exact ⟨.l, a, vs, rfl, fun io' H' k => (k.ls hl).sq, rl⟩
  · obtain ⟨a, vs, rfl, hl, rl⟩ := h.tup_inv
    exact ⟨.t, a, vs, rfl, fun io' H' k => k.sqT hl, rl⟩
theorem Feed.pairs {K : PySem.W.Frag} {H : Hp} {io : List Addr} {J : L2.It} {n : Nat} {ds es : List D} {vs ws : List V} (w : Walk J n (fun H' => ∃ io', Kf io H io' H') (YPairF (fun i => vs[i]?) (fun i => ws[i]?))) (hn : n = min ds.length es.length) (r : RpL K H io ds vs []) (r' : RpL K H io es ws []) : Feed K J io H ((ds.zip es).map fun p => .tup [p.1, p.2]) := by
  unfold Feed
  rw [show ((ds.zip es).map fun p => D.tup [p.1, p.2]).length = n by simp [hn]]
  refine w.mono (fun H' k => k) fun i H' x H'' hi ⟨_, _⟩ y => ?_
  obtain ⟨T, o, x, y, rfl, hT, ho, rfl, e1, e2⟩ := y
  obtain ⟨d, e1', rx⟩ := r.get0 e1
  obtain ⟨d2, e2', ry⟩ := r'.get0 e2
  refine ⟨ext_upd hT, .tup [d, d2], ?_, fun io' k bl => ?_⟩
  · rw [List.getElem?_map, List.getElem?_zip_eq_some (z := (d, d2)) |>.mpr ⟨e1', e2'⟩]; rfl
  · exact .newT ho bl hT (os := []) (.cons (os := []) (ps := []) (rx.keepS k rfl) (.cons (os := []) (ps := []) (ry.keepS k rfl) .nil))
theorem Feed.enum {K : PySem.W.Frag} {H : Hp} {io : List Addr} {J : L2.It} {ds : List D} {vs : List V} (w : Walk J vs.length (fun H' => ∃ io', Kf io H io' H') (YPairF (fun i => some (.int (i : Nat))) (fun i => vs[i]?))) (r : RpL K H io ds vs []) : Feed K J io H (ds.zipIdx.map fun p => .tup [.int p.2, p.1]) := by
  unfold Feed
  rw [show (ds.zipIdx.map fun p => D.tup [.int p.2, p.1]).length = vs.length by simp [r.length]]
  refine w.mono (fun H' k => k) fun i H' x H'' hi ⟨_, _⟩ y => ?_
  obtain ⟨T, o, x, y, rfl, hT, ho, rfl, e1, e2⟩ := y
  cases e1
  obtain ⟨d, e', ry⟩ := r.get0 e2
  refine ⟨ext_upd hT, .tup [.int i, d], by simp [e'], fun io' k bl => ?_⟩
  exact .newT ho bl hT (os := []) (.cons (os := []) (ps := []) (.int _) (.cons (os := []) (ps := []) (ry.keepS k rfl) .nil))
end
end HF

/-! HF: arguments that all may hold; zip, enumerate, items; list comprehensions. -/
namespace HF
open PySem PySem.Spec L2
open PyProof.Rows hiding St
def tAS (K : PySem.W.Frag) (fs : List Ev) : TA := fun σ H Q => ∃ io b r oss, SR K io b r oss σ H ∧ ∃ ds b', evs fs r b = some (ds, b') ∧
  ∀ (vs : List V) (H' : Hp) (io' : List Addr), Kp io H io' H' → SR K io' b' r oss σ H' → RpL K H' io' ds vs [] → Q vs H'
section
variable {X : Cx} {tg : Expr}
theorem da_nilS : PA X [] (tAS X.K []) := PA_wk pa_nil fun σ H Q ⟨io, b, r, oss, S, d, b', e, q⟩ => by
  obtain ⟨rfl, rfl⟩ := ret_some e
  exact q [] H io (Kp.refl _ _) S .nil
theorem da_consS {e : Expr} {es : List Expr} {f : Ev} {fs : List Ev} (he : PE X e (tS X.K f)) (hes : PA X es (tAS X.K fs)) (hs : starEach (e :: es) X.env = (false, eval e X.env) :: starEach es X.env) : PA X (e :: es) (tAS X.K (f :: fs)) :=
  PA_wk (pa_cons he hes hs) fun σ H Q ⟨io, b, r, oss, S, ds, b', e, q⟩ => by
    obtain ⟨d, b1, e1, e'⟩ := bnd_some e
    obtain ⟨ds', b2, e2, e3⟩ := bnd_some e'
    obtain ⟨rfl, rfl⟩ := ret_some e3
    refine ⟨io, b, r, oss, S, d, b1, e1, fun x H1 io1 k1 S1 rx => ⟨io1, b1, r, oss, S1, ds', b', e2, fun xs H2 io2 k2 S2 rxs => ?_⟩⟩
    exact q (x :: xs) H2 io2 (k1.trans k2 S.bl) S2 (.cons (os := []) (ps := []) (rx.keep k2 S1.bl) rxs)
theorem RpL.one {K : PySem.W.Frag} {H : Hp} {io : List Addr} {d : D} {ds : List D} {vs : List V} (h : RpL K H io (d :: ds) vs []) : ∃ v ws, vs = v :: ws ∧ Rp K H io d v [] ∧ RpL K H io ds ws [] := by
  cases vs with
  | nil => cases h
  | cons v ws => exact ⟨v, ws, rfl, h.pair⟩
theorem RpL.zero {K : PySem.W.Frag} {H : Hp} {io : List Addr} {vs : List V} {os : List Addr} (h : RpL K H io [] vs os) : vs = [] := by cases h; rfl

/-- zip, enumerate -/
theorem di_zip {e e2 : Expr} {f g : Ev} {p pos tpos : Pos} {elts : List Expr} {kk : Nat} (hg : Gl X "zip") (hm : X.mg "zip" = none) (ha : PA X [e, e2] (tAS X.K [f, g]))
    (hs : starEach [e, e2] X.env = (false, eval e X.env) :: starEach [e2] X.env) (hpl : (backTo pos (starEach [e2] X.env)).any (·.1) = false) :
    PI X (.Tuple elts kk tpos) (.Call (.Name "zip" p) [e, e2] [] pos) (tI X.K (itN (l2 itZip) [f, g])) := by
  refine PI_wk (pi_zipF hg hm ha hs hpl) fun σ H R ⟨io, b, r, oss, S, ds, b', e, q⟩ => ?_
  obtain ⟨xs, b1, e1, e2⟩ := bnd_some e
  obtain ⟨e3, rfl⟩ := lift_some e2
  refine ⟨io, b, r, oss, S, xs, b', e1, fun vs H' io' k S' x => ?_⟩
  match xs, e3, x with
  | [dx, dy], e3, x =>
    obtain ⟨v, ws, rfl, rx, x⟩ := x.one
    obtain ⟨w, ws, rfl, ry, x⟩ := x.one
    obtain rfl := x.zero
    replace e3 : itZip dx dy = some ds := e3
    unfold itZip at e3
    cases h1 : itemsD dx with
    | none => rw [h1] at e3; cases e3
    | some xs =>
      cases h2 : itemsD dy with
      | none => rw [h1, h2] at e3; cases e3
      | some ys =>
        rw [h1, h2] at e3
        cases e3
        obtain ⟨k1, a, vs, rfl, hl, rl⟩ := rx.sqX h1
        obtain ⟨k2, a', vs', rfl, hl', rl'⟩ := ry.sqX h2
        have w := (walk_zipF (K := X.K) (k1 := k1) (k2 := k2) (a := a) (b := a') (xs := vs) (ys := vs') rfl).mono (G' := fun H2 => ∃ io2, Kf io' H' io2 H2) (fun H2 ⟨io2, k⟩ => ⟨hl io2 H2 k, hl' io2 H2 k⟩) fun i H2 x H3 hi _ y => y
        exact ⟨k1, k2, a, a', vs, vs', rfl, hl _ _ (Kf.refl _ _), hl' _ _ (Kf.refl _ _), q _ H' io' k S' (.pairs w (by rw [rl.length, rl'.length]) rl rl')⟩
def itEnumD (x : D) : Option (List D) := (itemsD x).map fun xs => xs.zipIdx.map fun p => .tup [.int p.2, p.1]
theorem di_enum {e : Expr} {f : Ev} {p pos tpos : Pos} {elts : List Expr} {kk : Nat} (hg : Gl X "enumerate") (hm : X.mg "enumerate" = none) (ha : PA X [e] (tAS X.K [f])) (hs : starEach [e] X.env = [(false, eval e X.env)]) :
    PI X (.Tuple elts kk tpos) (.Call (.Name "enumerate" p) [e] [] pos) (tI X.K (itN (l1 itEnumD) [f])) := by
  refine PI_wk (pi_enumF hg hm ha hs) fun σ H R ⟨io, b, r, oss, S, ds, b', e, q⟩ => ?_
  obtain ⟨xs, b1, e1, e2⟩ := bnd_some e
  obtain ⟨e3, rfl⟩ := lift_some e2
  refine ⟨io, b, r, oss, S, xs, b', e1, fun vs H' io' k S' x => ?_⟩
  match xs, e3, x with
  | [dx], e3, x =>
    obtain ⟨v, ws, rfl, rx, x⟩ := x.one
    obtain rfl := x.zero
    have e4 : (itemsD dx).map (fun xs => xs.zipIdx.map fun p => D.tup [.int p.2, p.1]) = some ds := e3
    cases h1 : itemsD dx with
    | none => rw [h1] at e4; cases e4
    | some xs =>
      rw [h1] at e4
      cases e4
      obtain ⟨k1, a, vs, rfl, hl, rl⟩ := rx.sqX h1
      have w := (walk_enumF (K := X.K) (k := k1) (a := a) (xs := vs)).mono (G' := fun H2 => ∃ io2, Kf io' H' io2 H2) (fun H2 ⟨io2, k⟩ => hl io2 H2 k) fun i H2 x H3 hi _ y => y
      exact ⟨k1, a, vs, rfl, hl _ _ (Kf.refl _ _), q _ H' io' k S' (.enum w rl)⟩

/-! ### list comprehensions -/
theorem wipe_wipe (σ : St) (vs : List Nat) : wipe (wipe σ vs) vs = wipe σ vs := by
  refine List.ext_getElem? fun j => ?_
  by_cases h : j ∈ vs
  · have get : ∀ (vs : List Nat) (σ : St) (j : Nat), j ∈ vs → (wipe σ vs)[j]? = if j < σ.length then some none else none := by
      intro vs
      induction vs with
      | nil => intro σ j h; cases h
      | cons v vs ih =>
        intro σ j h
        unfold wipe
        by_cases hj : v = j
        · subst hj
          by_cases hl : v < σ.length
          · rw [List.getElem?_set_self (by rw [wipe_length]; exact hl), if_pos hl]
          · rw [List.getElem?_eq_none (by rw [List.length_set, wipe_length]; omega), if_neg hl]
        · rw [List.getElem?_set_ne hj]
          exact ih σ j ((List.mem_cons.mp h).resolve_left fun e => hj e.symm)
    rw [get _ _ _ h, get _ _ _ h, wipe_length]
  · rw [wipe_out h, wipe_out h]
theorem SR.set_no {K : PySem.W.Frag} {io : List Addr} {b : Bx} {r : Env} {oss : List (List Addr)} {σ : St} {H : Hp} (i : Nat) (S : SR K io b r oss σ H) : ∃ oss', SR K io b (r.set i .no) oss' (σ.set i none) H ∧ ∀ a ∈ oss'.flatten, a ∈ oss.flatten := by
  have go : ∀ {r : Env} {σ : St} {oss : List (List Addr)} (i : Nat), RpE K H io r σ oss → RpE K H io (r.set i .no) (σ.set i none) (oss.set i []) := by
    intro r σ oss i h
    induction h generalizing i with
    | nil => exact .nil
    | no r ih => cases i with
      | zero => exact .no r
      | succ i => exact .no (ih i)
    | sh x r ih => cases i with
      | zero => exact .no r
      | succ i => exact .sh x (ih i)
    | ow x r ih => cases i with
      | zero => exact .no r
      | succ i => exact .ow x (ih i)
  exact ⟨_, ⟨S.len, S.bx, S.nd, go i S.sl, nodup_set_flat List.nodup_nil S.od fun _ h => nomatch h⟩, fun a ha => (mem_set_flat ha).elim (fun z => nomatch z) id⟩
theorem SR.wipe {K : PySem.W.Frag} {io : List Addr} {b : Bx} {r : Env} {oss : List (List Addr)} {σ : St} {H : Hp} (S : SR K io b r oss σ H) : ∀ vs : List Nat, ∃ oss', SR K io b (wipeE r vs) oss' (L2.wipe σ vs) H ∧ ∀ a ∈ oss'.flatten, a ∈ oss.flatten
  | [] => ⟨oss, S, fun _ h => h⟩
  | v :: vs => by
    obtain ⟨o1, S1, h1⟩ := S.wipe vs
    obtain ⟨o2, S2, h2⟩ := S1.set_no v
    exact ⟨o2, S2, fun a ha => h1 a (h2 a ha)⟩
/-- a clause's tests -/
def tC? (K : PySem.W.Frag) : Option Ev → TT
  | none => tYes
  | some f => tT K f
theorem dts_nil : PTs X [] (tC? X.K none) := pts_nil
theorem dts_one {c : Expr} {f : Ev} (h : PT X c (tT X.K f)) : PTs X [c] (tC? X.K (some f)) := pts_one h
end
end HF

/-! HF: list comprehensions. -/
namespace HF
open PySem PySem.Spec L2
open PyProof.Rows hiding St
section
variable {X : Cx} {tg : Expr}
/-- what holds ahead of the i-th turn: the new list is at D -/
structure LcI (K : PySem.W.Frag) (t : Tg) (co : Option Ev) (f : Ev) (ds : List D) (r0 : Env) (σ0 : St) (o0 : List (List Addr)) (io1 : List Addr) (H1 : Hp) (A : Addr) (res : D) (bf : Bx) (i : Nat) (H : Hp) : Prop where
  ex : ∃ io b acc vs os, Kp io1 H1 io H ∧ SR K io b r0 o0 σ0 H ∧ H A = some (.lst vs) ∧ A ∉ io ∧ RpL K H io acc vs os ∧ os.Nodup ∧ A ∉ os ∧ (∀ a ∈ os, H1 a = none) ∧ lcGo t r0 co f (ds.drop i) acc b = some (res, bf)
theorem RpL.append' {K : PySem.W.Frag} {H : Hp} {io : List Addr} {ds : List D} {vs : List V} {os ps : List Addr} {d : D} {v : V} (h : RpL K H io ds vs os) (x : Rp K H io d v ps) : RpL K H io (ds ++ [d]) (vs ++ [v]) (os ++ ps) := by
  have := h.append (.cons x .nil)
  rwa [List.append_nil] at this
theorem lc_step {K : PySem.W.Frag} {t : Tg} {co : Option Ev} {f : Ev} {ds : List D} {r0 : Env} {σ0 : St} {o0 : List (List Addr)} {io1 : List Addr} {H1 : Hp} {A : Addr} {res : D} {bf : Bx} {i : Nat} {H H' : Hp} {x : V} {own : List Nat} {b1 : Bx}
    (S1 : SR K io1 b1 r0 o0 σ0 H1) (hA : H1 A = none) (hs : ∀ i ∈ t.slots, i ∈ own) (hw : σ0 = L2.wipe σ0 own) (p : LcI K t co f ds r0 σ0 o0 io1 H1 A res bf i H) (ext : ∀ a o, H a = some o → H' a = some o) (d : D) (ed : ds[i]? = some d) (rx : ∀ io', Kf io1 H1 io' H → BL io' H → Rp K H' io' d x []) :
    tG K t x σ0 H' fun σ2 H2 => L2.wipe σ2 own = σ0 ∧ tC? K co σ2 H2 fun b H3 =>
      if b = true then tV K f σ2 H3 fun y H4 => ∃ acc, H4 A = some (.lst acc) ∧ acc.length < sizeLine ∧ LcI K t co f ds r0 σ0 o0 io1 H1 A res bf (i + 1) (upd H4 A (.lst (acc ++ [y]))) else LcI K t co f ds r0 σ0 o0 io1 H1 A res bf (i + 1) H3 := by
  obtain ⟨io, b, acc, vs, os, k, S, eA, nA, rl, nd, nAo, fr, go⟩ := p.ex
  have hdr : ds.drop i = d :: ds.drop (i + 1) := by
    obtain ⟨hi, e⟩ := List.getElem?_eq_some_iff.mp ed
    rw [List.drop_eq_getElem_cons hi, e]
  rw [hdr] at go
  unfold lcGo at go
  have S' := S.later ext
  have k' : Kp io1 H1 io H' := k.trans (Kp.of ext) S1.bl
  have bl1 := S1.bl
  cases hb : bindT t d r0 with
  | none => rw [hb] at go; cases go
  | some r1 =>
    rw [hb] at go
    dsimp only at go
    refine ⟨io, b, r0, o0, d, r1, S', rx io (k.kf bl1) S.bl, hb, fun σ2 o2 S2 _ hw2 => ⟨by rw [hw2 own hs, ← hw], ?_⟩⟩
    have nA0 : A ∉ o0.flatten := fun hm => by
      obtain ⟨_, u, e, _⟩ := S1.sl.ownd bl1 A hm
      rw [hA] at e; cases e
    -- the next item put on
    have put : ∀ (b2 : Bx) (io2 : List Addr) (H3 : Hp), Kp io H' io2 H3 → SR K io2 b2 r1 o2 σ2 H3 → (if acc.length < sizeLine then bnd (f r1) fun d => lcGo t r0 co f (ds.drop (i + 1)) (acc ++ [d]) else fail) b2 = some (res, bf) →
        tV K f σ2 H3 fun y H4 => ∃ acc, H4 A = some (.lst acc) ∧ acc.length < sizeLine ∧ LcI K t co f ds r0 σ0 o0 io1 H1 A res bf (i + 1) (upd H4 A (.lst (acc ++ [y]))) := by
      intro b2 io2 H3 k3 S3 g
      split at g
      · rename_i hl
        obtain ⟨dy, b4, g1, g2⟩ := bnd_some g
        refine ⟨io2, b2, r1, o2, S3, dy, b4, g1, fun y H4 io4 os4 k4 S4 ry n4 f4 => ?_⟩
        have k34 := k3.trans k4 S'.bl
        have eA' : H4 A = some (.lst vs) := k34.keep A _ (ext A _ eA) nA
        have nA4 : A ∉ io4 := k34.notin (ext A _ eA) nA
        have SB : SR K io4 b4 r0 o0 σ0 H4 := S'.move k34 S4
        have m : Mut (H4 A) := by rw [eA']; trivial
        have rl4 : RpL K H4 io4 acc vs os := (rl.keep (Kp.of ext) S.bl).keep k34 S'.bl
        have nA44 : A ∉ os4 := fun hm => by
          have z := f4 A hm
          rw [k3.keep A _ (ext A _ eA) nA] at z; cases z
        have kA : Kp io1 H1 io4 H4 := k'.trans k34 bl1
        refine ⟨vs, eA', by rw [← rl.length]; exact hl, ⟨io4, b4, acc ++ [dy], vs ++ [y], os ++ os4, ⟨fun a o e n => ?_, kA.pre, kA.new⟩, SB.upd m nA4 nA0, upd_same, nA4, (rl4.upd m nAo).append' (ry.upd m nA44), ?_, ?_, ?_, g2⟩⟩
        · rw [upd_ne (fun q => by subst q; rw [hA] at e; cases e)]
          exact kA.keep a o e n
        · refine List.nodup_append.mpr ⟨nd, n4, fun a ha c hc q => ?_⟩
          subst q
          have z := f4 a hc
          obtain ⟨na, u, eu, _⟩ := rl.ownd S.bl a ha
          rw [k3.keep a u (ext a u eu) na] at z; cases z
        · exact fun hm => (List.mem_append.mp hm).elim nAo nA44
        · refine fun a ha => (List.mem_append.mp ha).elim (fr a) fun h => ?_
          exact fresh_back (k'.trans k3 bl1) (S'.move k3 S3) (f4 a h)
      · cases g
    cases co with
    | none => exact put b io H' (Kp.refl _ _) S2 go
    | some c =>
      dsimp only at go
      obtain ⟨dc, b2, g1, g2⟩ := bnd_some go
      cases dc <;> first | cases g2 | skip
      rename_i kk
      refine ⟨io, b, r1, o2, S2, kk, b2, g1, fun H3 io3 k3 S3 => ?_⟩
      cases kk with
      | true =>
        rw [if_pos rfl]
        exact put b2 io3 H3 k3 S3 g2
      | false =>
        rw [if_neg Bool.false_ne_true]
        have SB : SR K io3 b2 r0 o0 σ0 H3 := S'.move k3 S3
        exact ⟨io3, b2, acc, vs, os, k'.trans k3 bl1, SB, k3.keep A _ (ext A _ eA) nA, k3.notin (ext A _ eA) nA, (rl.keep (Kp.of ext) S.bl).keep k3 S'.bl, nd, nAo, fr, g2⟩
theorem lc_reads {K : PySem.W.Frag} {own : List Nat} {t : Tg} {it : Ws} {co : Option Ev} {f : Ev} (hs : ∀ i ∈ t.slots, i ∈ own) {σ : St} {H : Hp} {Q : VK} (h : tV K (eLc own t it co f) σ H Q) : tLc (tI K it) (tG K t) (tC? K co) (tV K f) own σ H Q := by
    obtain ⟨io, b, r, oss, S, d, bf, e, q⟩ := h
    obtain ⟨ds, b1, e1, e2⟩ := bnd_some e
    refine ⟨io, b, r, oss, S, ds, b1, e1, fun J H1 io1 k1 S1 fd A hA => ?_⟩
    obtain ⟨o0, S0, ho⟩ := S1.wipe own
    refine lc_it fd (LcI K t co f ds (wipeE r own) (L2.wipe σ own) o0 io1 H1 A d bf) ?_ (fun i H2 _ p => ?_) (fun i x H2 H3 hlt p y => ?_) fun H2 p => ?_
    · have h0 := S0.later (ext_upd (o := .lst []) hA)
      exact ⟨io1, b1, [], [], [], Kp.of (ext_upd hA), h0, upd_same, S1.bl.fresh hA, .nil, List.nodup_nil, fun z => (nomatch z), nil_all, e2⟩
    · obtain ⟨io2, _, _, _, _, k, _⟩ := p.ex
      exact ⟨io2, k.kf S1.bl⟩
    · obtain ⟨ext, d1, ed, rx⟩ := y
      have := lc_step S0 hA hs (wipe_wipe _ _).symm p ext d1 ed rx
      exact this
    · obtain ⟨io2, b2, acc, vs, os, k, S2, eA, nA, rl, nd, nAo, fr, go⟩ := p.ex
      rw [List.drop_length] at go
      unfold lcGo at go
      cases go
      have kk := k1.trans k S.bl
      exact q _ H2 io2 (A :: os) kk (S1.move k S2) (.lstO eA nA rl) (List.nodup_cons.mpr ⟨nAo, nd⟩) fun a ha => by
        rcases List.mem_cons.mp ha with rfl | ha
        · exact fresh_back k1 S1 hA
        · exact fresh_back k1 S1 (fr a ha)
theorem de_lc {elt iter : Expr} {ifs : List Expr} {scope : Scope} {own : List (Str × Nat)} {pos : Pos} {t : Tg} {it : Ws} {co : Option Ev} {f : Ev} (hc : X.calm = true) (hN : X.N.Nodup) (hi : PI X tg iter (tI X.K it)) (ok : BlkOk X.N X.env.scope scope own) (hs : ∀ i ∈ t.slots, i ∈ own.map (·.2))
    (hg : ∀ (s : Shared) (H : Hp) (C : Addr) (cl : List (Str × Addr)) (fp : List Addr), PG (X.blk s H scope (compEnvC scope cl C X.env) fp) tg (tG X.K t)) (ht : ∀ (s : Shared) (H : Hp) (C : Addr) (cl : List (Str × Addr)) (fp : List Addr), PTs (X.blk s H scope (compEnvC scope cl C X.env) fp) ifs (tC? X.K co))
    (he : ∀ (s : Shared) (H : Hp) (C : Addr) (cl : List (Str × Addr)) (fp : List Addr), PE (X.blk s H scope (compEnvC scope cl C X.env) fp) elt (tV X.K f)) (hf : ∀ x, foldedSetIterable iter X.env x = pure x) :
    PE X (.ListComp elt [⟨tg, iter, ifs, 0⟩] scope pos) (tV X.K (eLc (own.map (·.2)) t it co f)) :=
  PE_wk (pe_lc hc hN hi ok hg ht he hf) fun σ H Q h => lc_reads hs h
end
end HF

/-! HF: dict comprehensions. -/
namespace HF
open PySem PySem.Spec L2
open PyProof.Rows hiding St
def putD (kvs : List (DK × D)) (k : DK) (d : D) : List (DK × D) := if (kvs.any fun p => decide (p.1 = k)) = true then kvs.map (fun p => if p.1 = k then (p.1, d) else p) else kvs ++ [(k, d)]
def dcGo (t : Tg) (r : Env) (cond : Option Ev) (fk fv : Ev) : List D → List (DK × D) → M D
  | [], acc => ret (.dct true acc)
  | x :: xs, acc => match bindT t x r with
    | none => fail
    | some r' => match cond with
      | none => if acc.length < PySem.sizeLine then bnd (fk r') fun dk => bnd (fv r') fun d => match keyOf dk with
          | some k => dcGo t r cond fk fv xs (putD acc k d)
          | none => fail
        else fail
      | some c => bnd (c r') fun b => match b with
        | .bl true => if acc.length < PySem.sizeLine then bnd (fk r') fun dk => bnd (fv r') fun d => match keyOf dk with
            | some k => dcGo t r cond fk fv xs (putD acc k d)
            | none => fail
          else fail
        | .bl false => dcGo t r cond fk fv xs acc
        | _ => fail
def eDc (own : List Nat) (t : Tg) (it : Ws) (cond : Option Ev) (fk fv : Ev) : Ev := fun r => bnd (it r) fun xs => dcGo t (wipeE r own) cond fk fv xs []
section
variable {X : Cx} {tg : Expr}
theorem RpK.len {K : PySem.W.Frag} {H : Hp} {io : List Addr} : ∀ {ds : List (DK × D)} {vs : List (DK × V)} {os : List Addr}, RpK K H io ds vs os → ds.length = vs.length
  | _, _, _, .nil => rfl
  | _, _, _, .cons _ _ r => by simpa using r.len
theorem keyDK_inj {a b : Key} (h : keyDK a = keyDK b) : a = b := by
  cases a <;> cases b <;> simp [keyDK] at h <;> simp [h]
theorem RpK.map {K : PySem.W.Frag} {H : Hp} {io : List Addr} {k : Key} {d : D} {v : V} (x : Rp K H io d v []) : ∀ {ds : List (DK × D)} {ks : List (Key × V)}, RpK K H io ds (ks.map fun p => (keyDK p.1, p.2)) [] → RpK K H io (ds.map fun p => if p.1 = keyDK k then (p.1, d) else p) ((ks.map fun kv => if kv.1 = k then (kv.1, v) else kv).map fun p => (keyDK p.1, p.2)) [] ∧ (ds.any fun p => decide (p.1 = keyDK k)) = ks.any fun kv => decide (kv.1 = k)
  | ds, [], h => by
    cases h
    exact ⟨.nil, rfl⟩
  | ds, (j, w) :: ks, h => by
    generalize hq : ([] : List Addr) = q at h
    cases h with
    | cons hj h r =>
      rename_i d1 ds o1 o2
      obtain ⟨z1, z2⟩ := List.append_eq_nil_iff.mp hq.symm
      subst z1 z2
      obtain ⟨i1, i2⟩ := RpK.map (k := k) x r
      by_cases e : j = k
      · subst e
        refine ⟨?_, by simp [i2]⟩
        simp only [List.map_cons, if_true]
        exact .cons (os := []) (ps := []) hj x i1
      · have e' : ¬ keyDK j = keyDK k := fun z => e (keyDK_inj z)
        refine ⟨?_, by simp [i2, e, e']⟩
        simp only [List.map_cons, if_neg e, if_neg e']
        exact .cons (os := []) (ps := []) hj h i1
theorem RpK.app {K : PySem.W.Frag} {H : Hp} {io : List Addr} {k : DK} {d : D} {v : V} (hk : okK k = true) (x : Rp K H io d v []) : ∀ {ds : List (DK × D)} {vs : List (DK × V)}, RpK K H io ds vs [] → RpK K H io (ds ++ [(k, d)]) (vs ++ [(k, v)]) []
  | ds, [], h => by
    cases h
    exact .cons (os := []) (ps := []) hk x .nil
  | ds, (j, w) :: vs, h => by
    generalize hq : ([] : List Addr) = q at h
    cases h with
    | cons hj h r =>
      obtain ⟨z1, z2⟩ := List.append_eq_nil_iff.mp hq.symm
      subst z1 z2
      exact .cons (os := []) (ps := []) hj h (RpK.app hk x r)
theorem RpK.put {K : PySem.W.Frag} {H : Hp} {io : List Addr} {k : Key} {d : D} {v : V} (hk : okK (keyDK k) = true) (x : Rp K H io d v []) {ds : List (DK × D)} {ks : List (Key × V)} (h : RpK K H io ds (ks.map fun p => (keyDK p.1, p.2)) []) : RpK K H io (putD ds (keyDK k) d) ((putK ks k v).map fun p => (keyDK p.1, p.2)) [] := by
  obtain ⟨i1, i2⟩ := h.map (k := k) x
  unfold putD putK
  rw [i2]
  split
  · exact i1
  · rw [List.map_append]
    exact h.app hk x
theorem Rp.keyK {K : PySem.W.Frag} {H : Hp} {io : List Addr} {d : D} {v : V} {os : List Addr} {q : DK} (h : Rp K H io d v os) (e : keyOf d = some q) : ∃ k : Key, v = kV k ∧ q = keyDK k ∧ okK q = true := by
  cases h <;> first | cases e | skip
  · exact ⟨.inl _, rfl, rfl, rfl⟩
  · exact ⟨.inr _, rfl, rfl, by assumption⟩
/-- what holds ahead of the i-th turn: the new dict is at A -/
structure DcI (K : PySem.W.Frag) (t : Tg) (co : Option Ev) (fk f : Ev) (ds : List D) (r0 : Env) (σ0 : St) (o0 : List (List Addr)) (io1 : List Addr) (H1 : Hp) (A : Addr) (res : D) (bf : Bx) (i : Nat) (H : Hp) : Prop where
  ex : ∃ io b acc ks, Kp io1 H1 io H ∧ SR K io b r0 o0 σ0 H ∧ H A = some (.dK ks) ∧ A ∉ io ∧ RpK K H io acc (ks.map fun p => (keyDK p.1, p.2)) [] ∧ dcGo t r0 co fk f (ds.drop i) acc b = some (res, bf)
theorem dc_step {K : PySem.W.Frag} {t : Tg} {co : Option Ev} {fk f : Ev} {ds : List D} {r0 : Env} {σ0 : St} {o0 : List (List Addr)} {io1 : List Addr} {H1 : Hp} {A : Addr} {res : D} {bf : Bx} {i : Nat} {H H' : Hp} {x : V} {own : List Nat} {b1 : Bx}
    (S1 : SR K io1 b1 r0 o0 σ0 H1) (hA : H1 A = none) (hs : ∀ i ∈ t.slots, i ∈ own) (hw : σ0 = L2.wipe σ0 own) (p : DcI K t co fk f ds r0 σ0 o0 io1 H1 A res bf i H) (ext : ∀ a o, H a = some o → H' a = some o) (d : D) (ed : ds[i]? = some d) (rx : ∀ io', Kf io1 H1 io' H → BL io' H → Rp K H' io' d x []) :
    tG K t x σ0 H' fun σ2 H2 => L2.wipe σ2 own = σ0 ∧ tC? K co σ2 H2 fun b H3 =>
      if b = true then tS K fk σ2 H3 fun y H4 => tS K f σ2 H4 fun z H5 => ∃ kvs k, y = kV k ∧ H5 A = some (.dK kvs) ∧ kvs.length < sizeLine ∧ DcI K t co fk f ds r0 σ0 o0 io1 H1 A res bf (i + 1) (upd H5 A (.dK (putK kvs k z))) else DcI K t co fk f ds r0 σ0 o0 io1 H1 A res bf (i + 1) H3 := by
  obtain ⟨io, b, acc, ks, k, S, eA, nA, rl, go⟩ := p.ex
  have hdr : ds.drop i = d :: ds.drop (i + 1) := by
    obtain ⟨hi, e⟩ := List.getElem?_eq_some_iff.mp ed
    rw [List.drop_eq_getElem_cons hi, e]
  rw [hdr] at go
  unfold dcGo at go
  have S' := S.later ext
  have k' : Kp io1 H1 io H' := k.trans (Kp.of ext) S1.bl
  have bl1 := S1.bl
  cases hb : bindT t d r0 with
  | none => rw [hb] at go; cases go
  | some r1 =>
    rw [hb] at go
    dsimp only at go
    refine ⟨io, b, r0, o0, d, r1, S', rx io (k.kf bl1) S.bl, hb, fun σ2 o2 S2 _ hw2 => ⟨by rw [hw2 own hs, ← hw], ?_⟩⟩
    have nA0 : A ∉ o0.flatten := fun hm => by
      obtain ⟨_, u, e, _⟩ := S1.sl.ownd bl1 A hm
      rw [hA] at e; cases e
    have put : ∀ (b2 : Bx) (io2 : List Addr) (H3 : Hp), Kp io H' io2 H3 → SR K io2 b2 r1 o2 σ2 H3 → (if acc.length < sizeLine then bnd (fk r1) fun dk => bnd (f r1) fun d => match keyOf dk with
          | some k => dcGo t r0 co fk f (ds.drop (i + 1)) (putD acc k d)
          | none => fail
        else fail) b2 = some (res, bf) →
        tS K fk σ2 H3 fun y H4 => tS K f σ2 H4 fun z H5 => ∃ kvs k, y = kV k ∧ H5 A = some (.dK kvs) ∧ kvs.length < sizeLine ∧ DcI K t co fk f ds r0 σ0 o0 io1 H1 A res bf (i + 1) (upd H5 A (.dK (putK kvs k z))) := by
      intro b2 io2 H3 k3 S3 g
      split at g
      · rename_i hl
        obtain ⟨dk, b4, g1, g2⟩ := bnd_some g
        obtain ⟨dv, b5, g3, g4⟩ := bnd_some g2
        refine ⟨io2, b2, r1, o2, S3, dk, b4, g1, fun y H4 io4 k4 S4 ry => ⟨io4, b4, r1, o2, S4, dv, b5, g3, fun z H5 io5 k5 S5 rz => ?_⟩⟩
        cases hk : keyOf dk with
        | none => rw [hk] at g4; cases g4
        | some q =>
          rw [hk] at g4
          dsimp only at g4
          obtain ⟨ky, rfl, rfl, hok⟩ := ry.keyK hk
          have k35 := (k3.trans k4 S'.bl).trans k5 S'.bl
          have eA' : H5 A = some (.dK ks) := k35.keep A _ (ext A _ eA) nA
          have nA5 : A ∉ io5 := k35.notin (ext A _ eA) nA
          have SB : SR K io5 b5 r0 o0 σ0 H5 := S'.move k35 S5
          have m : Mut (H5 A) := by rw [eA']; trivial
          have rl5 : RpK K H5 io5 acc (ks.map fun p => (keyDK p.1, p.2)) [] := (rl.keep (Kp.of ext) S.bl).keep k35 S'.bl
          have kA : Kp io1 H1 io5 H5 := k'.trans k35 bl1
          have hlen : acc.length = ks.length := by have := rl.len; simpa using this
          refine ⟨ks, ky, rfl, eA', by rw [← hlen]; exact hl, ⟨io5, b5, putD acc (keyDK ky) dv, putK ks ky z, ⟨fun a o e n => ?_, kA.pre, kA.new⟩, SB.upd m nA5 nA0, upd_same, nA5, RpK.put hok (rz.upd m fun q => (nomatch q)) (rl5.upd m fun q => (nomatch q)), g4⟩⟩
          rw [upd_ne (fun q => by subst q; rw [hA] at e; cases e)]
          exact kA.keep a o e n
      · cases g
    cases co with
    | none => exact put b io H' (Kp.refl _ _) S2 go
    | some c =>
      dsimp only at go
      obtain ⟨dc, b2, g1, g2⟩ := bnd_some go
      cases dc <;> first | cases g2 | skip
      rename_i kk
      refine ⟨io, b, r1, o2, S2, kk, b2, g1, fun H3 io3 k3 S3 => ?_⟩
      cases kk with
      | true =>
        rw [if_pos rfl]
        exact put b2 io3 H3 k3 S3 g2
      | false =>
        rw [if_neg Bool.false_ne_true]
        have SB : SR K io3 b2 r0 o0 σ0 H3 := S'.move k3 S3
        exact ⟨io3, b2, acc, ks, k'.trans k3 bl1, SB, k3.keep A _ (ext A _ eA) nA, k3.notin (ext A _ eA) nA, (rl.keep (Kp.of ext) S.bl).keep k3 S'.bl, g2⟩
theorem dc_it {J : L2.It} {n : Nat} {G : Hp → Prop} {Y : Nat → Hp → V → Hp → Prop} (w : Walk J n G Y) {g : TG} {tt : TT} {tk te : TE} {vs : List Nat} {σ : St} {H1 : Hp} {A : Addr} {Qd : Hp → Prop} (Pv : Nat → Hp → Prop) (h0 : Pv 0 (upd H1 A (.dK []))) (hG : ∀ i H, i ≤ n → Pv i H → G H)
    (hs : ∀ i x H H', i < n → Pv i H → Y i H x H' → g x (L2.wipe σ vs) H' fun σ2 H2 => L2.wipe σ2 vs = L2.wipe σ vs ∧ tt σ2 H2 fun b H3 =>
      if b = true then tk σ2 H3 fun y H4 => te σ2 H4 fun z H5 => ∃ kvs k, y = kV k ∧ H5 A = some (.dK kvs) ∧ kvs.length < sizeLine ∧ Pv (i + 1) (upd H5 A (.dK (putK kvs k z))) else Pv (i + 1) H3) (hd : ∀ H, Pv n H → Qd H) :
    ∃ W : Nat → Nat → Hp → Prop, (∃ m, W 0 m (upd H1 A (.dK []))) ∧ ∀ i m H, W i m H →
      (J.stop i H ∧ Qd H) ∨ (J.go i H ∧ ∃ Nx : Hp → Prop, (∀ H', Nx H' → ∃ m', m' < m ∧ W (i + 1) m' H') ∧ ∀ x H', J.yld i H x H' → g x (L2.wipe σ vs) H' fun σ2 H2 => L2.wipe σ2 vs = L2.wipe σ vs ∧ tt σ2 H2 fun b H3 =>
        if b = true then tk σ2 H3 fun y H4 => te σ2 H4 fun z H5 => ∃ kvs k, y = kV k ∧ H5 A = some (.dK kvs) ∧ kvs.length < sizeLine ∧ Nx (upd H5 A (.dK (putK kvs k z))) else Nx H3) := by
  refine ⟨fun i m H => m = n - i ∧ i ≤ n ∧ Pv i H, ⟨n, by simp, Nat.zero_le _, h0⟩, ?_⟩
  rintro i m H ⟨rfl, hi, pv⟩
  have gg := hG i H hi pv
  rcases Nat.lt_or_ge i n with hlt | hge
  · exact .inr ⟨w.goes i H hlt gg, Pv (i + 1), fun H' p' => ⟨n - (i + 1), by omega, rfl, hlt, p'⟩, fun x H' y => hs i x H H' hlt pv (w.yields i H x H' hlt gg y)⟩
  · obtain rfl : i = n := by omega
    exact .inl ⟨w.stops H gg, hd H pv⟩
theorem dc_reads {K : PySem.W.Frag} {own : List Nat} {t : Tg} {it : Ws} {co : Option Ev} {fk f : Ev} (hs : ∀ i ∈ t.slots, i ∈ own) {σ : St} {H : Hp} {Q : VK} (h : tV K (eDc own t it co fk f) σ H Q) : tDc (tI K it) (tG K t) (tC? K co) (tS K fk) (tS K f) own σ H Q := by
    obtain ⟨io, b, r, oss, S, d, bf, e, q⟩ := h
    obtain ⟨ds, b1, e1, e2⟩ := bnd_some e
    refine ⟨io, b, r, oss, S, ds, b1, e1, fun J H1 io1 k1 S1 fd A hA => ?_⟩
    obtain ⟨o0, S0, ho⟩ := S1.wipe own
    refine dc_it fd (DcI K t co fk f ds (wipeE r own) (L2.wipe σ own) o0 io1 H1 A d bf) ?_ (fun i H2 _ p => ?_) (fun i x H2 H3 hlt p y => ?_) fun H2 p => ?_
    · exact ⟨io1, b1, [], [], Kp.of (ext_upd hA), S0.later (ext_upd (o := .dK []) hA), upd_same, S1.bl.fresh hA, .nil, e2⟩
    · obtain ⟨io2, _, _, _, k, _⟩ := p.ex
      exact ⟨io2, k.kf S1.bl⟩
    · obtain ⟨ext, d1, ed, rx⟩ := y
      have := dc_step S0 hA hs (wipe_wipe _ _).symm p ext d1 ed rx
      exact this
    · obtain ⟨io2, b2, acc, ks, k, S2, eA, nA, rl, go⟩ := p.ex
      rw [List.drop_length] at go
      unfold dcGo at go
      cases go
      have kk := k1.trans k S.bl
      exact q _ H2 io2 [A] kk (S1.move k S2) (.dctO eA ⟨ks, rfl, rfl⟩ rl) (List.nodup_cons.mpr ⟨fun z => (nomatch z), List.nodup_nil⟩) fun a ha => by
        obtain rfl := List.mem_singleton.mp ha
        exact fresh_back k1 S1 hA
theorem de_dc {kx vx iter : Expr} {ifs : List Expr} {scope : Scope} {own : List (Str × Nat)} {pos : Pos} {t : Tg} {it : Ws} {co : Option Ev} {fk f : Ev} (hc : X.calm = true) (hN : X.N.Nodup) (hi : PI X tg iter (tI X.K it)) (ok : BlkOk X.N X.env.scope scope own) (hs : ∀ i ∈ t.slots, i ∈ own.map (·.2))
    (hg : ∀ (s : Shared) (H : Hp) (C : Addr) (cl : List (Str × Addr)) (fp : List Addr), PG (X.blk s H scope (compEnvC scope cl C X.env) fp) tg (tG X.K t)) (ht : ∀ (s : Shared) (H : Hp) (C : Addr) (cl : List (Str × Addr)) (fp : List Addr), PTs (X.blk s H scope (compEnvC scope cl C X.env) fp) ifs (tC? X.K co))
    (hk : ∀ (s : Shared) (H : Hp) (C : Addr) (cl : List (Str × Addr)) (fp : List Addr), PE (X.blk s H scope (compEnvC scope cl C X.env) fp) kx (tS X.K fk))
    (he : ∀ (s : Shared) (H : Hp) (C : Addr) (cl : List (Str × Addr)) (fp : List Addr), PE (X.blk s H scope (compEnvC scope cl C X.env) fp) vx (tS X.K f)) (hf : ∀ x, foldedSetIterable iter X.env x = pure x) :
    PE X (.DictComp kx vx [⟨tg, iter, ifs, 0⟩] scope pos) (tV X.K (eDc (own.map (·.2)) t it co fk f)) :=
  PE_wk (pe_dc hc hN hi ok hg ht hk he hf) fun σ H Q h => dc_reads hs h
end
end HF

/-! HF: statements. -/
namespace HF
open PySem PySem.Spec L2
open PyProof.Rows hiding St
/-- where a statement's end is to lead; io0, H0: as the def was entered -/
def EndN (K : PySem.W.Frag) (io0 : List Addr) (H0 : Hp) (io : List Addr) (H : Hp) (r' : Env) (b' : Bx) (P : St → Hp → Prop) : Prop :=
  ∀ (σ' : St) (H' : Hp) (io' : List Addr) (oss' : List (List Addr)), SR K io' b' r' oss' σ' H' → Kp io0 H0 io' H' → Kf io H io' H' → (∀ a ∈ oss'.flatten, H0 a = none) → P σ' H'
def EndR (K : PySem.W.Frag) (io0 : List Addr) (H0 : Hp) (d : D) (b' : Bx) (P : VK) : Prop :=
  ∀ (v : V) (H' : Hp) (io' os : List Addr), SR K io' b' [] [] [] H' → Kp io0 H0 io' H' → Rp K H' io' d v os → os.Nodup → (∀ a ∈ os, H0 a = none) → P v H'
def EndF (K : PySem.W.Frag) (io0 : List Addr) (H0 : Hp) (io : List Addr) (H : Hp) (D : Ends) (b' : Bx) : Fl → Env → Prop
  | .nx, r' => EndN K io0 H0 io H r' b' D.nx
  | .bk, r' => EndN K io0 H0 io H r' b' D.bk
  | .ct, r' => EndN K io0 H0 io H r' b' D.ct
  | .rt d, _ => EndR K io0 H0 d b' D.rt
/-- as a statement is come to -/
structure At (K : PySem.W.Frag) (io0 : List Addr) (H0 : Hp) (io : List Addr) (b : Bx) (r : Env) (oss : List (List Addr)) (σ : St) (H : Hp) : Prop where
  sr : SR K io b r oss σ H
  kp : Kp io0 H0 io H
  bl : BL io0 H0
  fr : ∀ a ∈ oss.flatten, H0 a = none
def tD (K : PySem.W.Frag) (sv : Sv) : TS := fun D σ H => ∃ io0 H0 io b r oss, At K io0 H0 io b r oss σ H ∧ ∃ fl r' b', sv r b = some ((fl, r'), b') ∧ EndF K io0 H0 io H D b' fl r'
theorem SR.bare {K : PySem.W.Frag} {io : List Addr} {b : Bx} {r : Env} {oss : List (List Addr)} {σ : St} {H : Hp} (S : SR K io b r oss σ H) : SR K io b [] [] [] H := ⟨S.len, S.bx, S.nd, .nil, List.nodup_nil⟩
theorem EndN.mono {K : PySem.W.Frag} {io0 io io1 : List Addr} {H0 H H1 : Hp} {r' : Env} {b' : Bx} {P : St → Hp → Prop} (h : EndN K io0 H0 io H r' b' P) (k : Kf io H io1 H1) : EndN K io0 H0 io1 H1 r' b' P := fun σ' H' io' oss' S k0 kf fr => h σ' H' io' oss' S k0 (k.trans kf) fr
theorem EndF.mono {K : PySem.W.Frag} {io0 io io1 : List Addr} {H0 H H1 : Hp} {D : Ends} {b' : Bx} {fl : Fl} {r' : Env} (h : EndF K io0 H0 io H D b' fl r') (k : Kf io H io1 H1) : EndF K io0 H0 io1 H1 D b' fl r' := by
  cases fl with
  | nx => exact EndN.mono h k
  | bk => exact EndN.mono h k
  | ct => exact EndN.mono h k
  | rt d => exact h
section
variable {X : Cx}
theorem ds_nil : PSs X [] (tD X.K sNx) := PSs_wk pss_nil fun D σ H ⟨io0, H0, io, b, r, oss, A, fl, r', b', e, q⟩ => by
  cases e
  exact q σ H io oss A.sr A.kp (Kf.refl _ _) A.fr
theorem ds_pass {pos : Pos} : PS X (.Pass pos) (tD X.K sNx) := PS_wk ps_pass fun D σ H ⟨io0, H0, io, b, r, oss, A, fl, r', b', e, q⟩ => by
  cases e
  exact q σ H io oss A.sr A.kp (Kf.refl _ _) A.fr
def sBk : Sv := fun r => ret (.bk, r)
def sCt : Sv := fun r => ret (.ct, r)
theorem ds_break {pos : Pos} : PS X (.Break pos) (tD X.K sBk) := PS_wk ps_break fun D σ H ⟨io0, H0, io, b, r, oss, A, fl, r', b', e, q⟩ => by
  cases e
  exact q σ H io oss A.sr A.kp (Kf.refl _ _) A.fr
theorem ds_continue {pos : Pos} : PS X (.Continue pos) (tD X.K sCt) := PS_wk ps_continue fun D σ H ⟨io0, H0, io, b, r, oss, A, fl, r', b', e, q⟩ => by
  cases e
  exact q σ H io oss A.sr A.kp (Kf.refl _ _) A.fr
theorem ds_one {s : Stmt} {f : Sv} (h : PS X s (tD X.K f)) : PSs X [s] (tD X.K f) := pss_one h
theorem ds_cons {s : Stmt} {rest : List Stmt} {f g : Sv} (h : PS X s (tD X.K f)) (h2 : PSs X rest (tD X.K g)) : PSs X (s :: rest) (tD X.K (sSeq f g)) :=
  PSs_wk (pss_cons h h2) fun D σ H ⟨io0, H0, io, b, r, oss, A, fl, r', b', e, q⟩ => by
    obtain ⟨⟨fl1, r1⟩, b1, e1, e2⟩ := bnd_some e
    refine ⟨io0, H0, io, b, r, oss, A, fl1, r1, b1, e1, ?_⟩
    cases fl1 with
    | nx =>
      intro σ1 H1 io1 oss1 S1 k1 kf1 fr1
      exact ⟨io0, H0, io1, b1, r1, oss1, ⟨S1, k1, A.bl, fr1⟩, fl, r', b', e2, q.mono kf1⟩
    | bk => cases e2; exact q
    | ct => cases e2; exact q
    | rt d => cases e2; exact q

/-! ### stores -/
theorem SR.setF {K : PySem.W.Frag} {io : List Addr} {b : Bx} {r : Env} {oss : List (List Addr)} {σ : St} {H : Hp} {i : Nat} {d : D} {v : V} (S : SR K io b r oss σ H) (x : Rp K H io d v []) : ∃ oss', SR K io b (r.set i (.sh d)) oss' (σ.set i (some v)) H ∧ ∀ a ∈ oss'.flatten, a ∈ oss.flatten := by
  by_cases hi : i < r.length
  · exact ⟨_, S.setS x hi, fun a ha => (mem_set_flat ha).elim (fun z => nomatch z) id⟩
  · refine ⟨oss, ?_, fun _ h => h⟩
    rw [List.set_eq_of_length_le (by omega), List.set_eq_of_length_le (by rw [← S.sl.lens.1]; omega)]
    exact S
theorem SR.setO {K : PySem.W.Frag} {io : List Addr} {b : Bx} {r : Env} {oss : List (List Addr)} {σ : St} {H : Hp} {i : Nat} {d : D} {v : V} {os : List Addr} (S : SR K io b r oss σ H) (x : Rp K H io d v os) (n : os.Nodup) (h2 : ∀ a ∈ os, a ∉ oss.flatten) : ∃ oss', SR K io b (r.set i (.ow d)) oss' (σ.set i (some v)) H ∧ ∀ a ∈ oss'.flatten, a ∈ os ∨ a ∈ oss.flatten := by
  by_cases hi : i < r.length
  · exact ⟨_, S.set x n h2 hi, fun a ha => mem_set_flat ha⟩
  · refine ⟨oss, ?_, fun _ h => .inr h⟩
    rw [List.set_eq_of_length_le (by omega), List.set_eq_of_length_le (by rw [← S.sl.lens.1]; omega)]
    exact S
/-- what is new is no name's own -/
theorem SR.apart {K : PySem.W.Frag} {io : List Addr} {b : Bx} {r : Env} {oss : List (List Addr)} {σ : St} {H : Hp} (S : SR K io b r oss σ H) {os : List Addr} (f : ∀ a ∈ os, H a = none) : ∀ a ∈ os, a ∉ oss.flatten := fun a ha hm => by
  obtain ⟨_, u, e, _⟩ := S.sl.ownd S.bl a hm
  rw [f a ha] at e; cases e
theorem ds_set {i : Nat} {x : Str} {e : Expr} {f : Ev} {pos pos' : Pos} (hN : X.N.Nodup) (hi : X.N[i]? = some x) (hx : Loc X.env.scope x) (he : PE X e (tS X.K f)) (hs : swapsWith e (some (.Name x pos')) pos.line X.env = pure false) (hf : X.fn x = true ∨ X.env.scope.names.lookup x = some .local) :
    PS X (.Assign [.Name x pos'] e pos) (tD X.K (sSet i f)) :=
  PS_wk (ps_set hN hi hx he hs hf) fun D σ H ⟨io0, H0, io, b, r, oss, A, fl, r', b', e, q⟩ => by
    obtain ⟨d, b1, e1, e2⟩ := bnd_some e
    cases e2
    refine ⟨io, b, r, oss, A.sr, d, _, e1, fun v H1 io1 k1 S1 rx => ?_⟩
    obtain ⟨oss2, S2, ho⟩ := S1.setF (i := i) rx
    exact q _ H1 io1 oss2 S2 (A.kp.trans k1 A.bl) (k1.kf A.sr.bl) fun a ha => A.fr a (ho a ha)
theorem ds_setO {i : Nat} {x : Str} {e : Expr} {f : Ev} {pos pos' : Pos} (hN : X.N.Nodup) (hi : X.N[i]? = some x) (hx : Loc X.env.scope x) (he : PE X e (tV X.K f)) (hs : swapsWith e (some (.Name x pos')) pos.line X.env = pure false) (hf : X.fn x = true ∨ X.env.scope.names.lookup x = some .local) :
    PS X (.Assign [.Name x pos'] e pos) (tD X.K (sSetO i f)) :=
  PS_wk (ps_set hN hi hx he hs hf) fun D σ H ⟨io0, H0, io, b, r, oss, A, fl, r', b', e, q⟩ => by
    obtain ⟨d, b1, e1, e2⟩ := bnd_some e
    cases e2
    refine ⟨io, b, r, oss, A.sr, d, _, e1, fun v H1 io1 os k1 S1 rx n f => ?_⟩
    obtain ⟨oss2, S2, ho⟩ := S1.setO (i := i) rx n (A.sr.apart f)
    exact q _ H1 io1 oss2 S2 (A.kp.trans k1 A.bl) (k1.kf A.sr.bl) fun a ha => (ho a ha).elim (fun z => fresh_back A.kp A.sr (f a z)) (A.fr a)
/-- (a, b) = e -/
def sAsg (t : Tg) (f : Ev) : Sv := fun r => bnd (f r) fun d => match bindT t d r with
  | some r' => ret (.nx, r')
  | none => fail
theorem ds_asg {tg e : Expr} {t : Tg} {f : Ev} {pos : Pos} (he : PE X e (tS X.K f)) (hg : PG X tg (tG X.K t)) (hs : swapsWithSole [tg] e pos.line X.env = pure false) (hw : swappedStores [tg] e X.env = pure none) (h1 : (assignEach [tg] X.env).map (·.2) = [assign tg X.env]) : PS X (.Assign [tg] e pos) (tD X.K (sAsg t f)) :=
  PS_wk (ps_asg he hg hs hw h1) fun D σ H ⟨io0, H0, io, b, r, oss, A, fl, r', b', e, q⟩ => by
    obtain ⟨d, b1, e1, e2⟩ := bnd_some e
    refine ⟨io, b, r, oss, A.sr, d, b1, e1, fun v H1 io1 k1 S1 rx => ?_⟩
    cases hb : bindT t d r with
    | none => rw [hb] at e2; cases e2
    | some r2 =>
      rw [hb] at e2
      cases e2
      exact ⟨io1, _, r, oss, d, _, S1, rx, hb, fun σ2 oss2 S2 ho _ => q σ2 H1 io1 oss2 S2 (A.kp.trans k1 A.bl) (k1.kf A.sr.bl) fun a ha => A.fr a (ho a ha)⟩
theorem RpL.consI {K : PySem.W.Frag} {H : Hp} {io : List Addr} {d : D} {ds : List D} {vs : List V} {os : List Addr} (h : RpL K H io (d :: ds) vs os) : ∃ v ws o1 o2, vs = v :: ws ∧ os = o1 ++ o2 ∧ Rp K H io d v o1 ∧ RpL K H io ds ws o2 := by
  cases h with
  | cons h r => exact ⟨_, _, _, _, rfl, rfl, h, r⟩
/-- a, b = e, e': each its own, or what all may hold -/
def putS (o : Bool) (i : Nat) (d : D) (r : Env) : Option Env := if o then some (r.set i (.ow d)) else if still d then some (r.set i (.sh d)) else none
def sPar (i : Nat) (oi : Bool) (j : Nat) (oj : Bool) (f g : Ev) : Sv := fun r => bnd (evs [f, g] r) fun ds => match ds with
  | [d, e] => match putS oi i d r with
    | some r1 => match putS oj j e r1 with
      | some r2 => ret (.nx, r2)
      | none => fail
    | none => fail
  | _ => fail
theorem SR.putS {K : PySem.W.Frag} {io : List Addr} {b : Bx} {r r' : Env} {oss : List (List Addr)} {σ : St} {H : Hp} {i : Nat} {o : Bool} {d : D} {v : V} {os : List Addr} (S : SR K io b r oss σ H) (x : Rp K H io d v os) (n : os.Nodup) (h2 : ∀ a ∈ os, a ∉ oss.flatten) (e : HF.putS o i d r = some r') : ∃ oss', SR K io b r' oss' (σ.set i (some v)) H ∧ ∀ a ∈ oss'.flatten, a ∈ os ∨ a ∈ oss.flatten := by
  unfold HF.putS at e
  split at e
  · cases e
    exact S.setO x n h2
  · split at e
    · rename_i hs
      cases e
      obtain rfl := x.still_nil hs
      obtain ⟨o2, S2, h⟩ := S.setF (i := i) x
      exact ⟨o2, S2, fun a ha => .inr (h a ha)⟩
    · cases e
theorem ds_par {i j : Nat} {oi oj : Bool} {x y : Str} {a c : Expr} {f g : Ev} {px py pt pos : Pos} {kt k2 pt2} (hc : X.calm = true) (hN : X.N.Nodup) (hi : X.N[i]? = some x) (hj : X.N[j]? = some y) (hij : i ≠ j)
    (hx : X.env.scope.names.lookup x = some .local) (hy : X.env.scope.names.lookup y = some .local) (ha : PA X [a, c] (tAV X.K [f, g]))
    (hw : swappedStores [.Tuple [.Name x px, .Name y py] kt pt] (.Tuple [a, c] k2 pt2) X.env = pure (some [x, y]))
    (hs : swapsWithSole [.Tuple [.Name x px, .Name y py] kt pt] (.Tuple [a, c] k2 pt2) pos.line X.env = pure false) :
    PS X (.Assign [.Tuple [.Name x px, .Name y py] kt pt] (.Tuple [a, c] k2 pt2) pos) (tD X.K (sPar i oi j oj f g)) :=
  PS_wk (ps_par hc hN hi hj hij hx hy ha hw hs) fun D σ H ⟨io0, H0, io, b, r, oss, A, fl, r', b', e, q⟩ => by
    obtain ⟨ds, b1, e1, e2⟩ := bnd_some e
    refine ⟨io, b, r, oss, A.sr, ds, b1, e1, fun vs H1 io1 os k1 S1 rl n f => ?_⟩
    match ds, e2, rl, e1 with
    | [d, d2], e2, rl, _ =>
      dsimp only at e2
      cases h1 : putS oi i d r with
      | none => rw [h1] at e2; cases e2
      | some r1 =>
        rw [h1] at e2
        dsimp only at e2
        cases h2 : putS oj j d2 r1 with
        | none => rw [h2] at e2; cases e2
        | some r2 =>
          rw [h2] at e2
          cases e2
          obtain ⟨v, ws, o1, o2, rfl, rfl, x, rl⟩ := rl.consI
          obtain ⟨w, ws, o2, o3, rfl, rfl, y, rl⟩ := rl.consI
          cases rl
          rw [List.append_nil] at n f
          obtain ⟨n1, n2, n3⟩ := List.nodup_append.mp n
          have f1 : ∀ a ∈ o1, H a = none := fun a ha => f a (List.mem_append_left _ ha)
          have f2 : ∀ a ∈ o2, H a = none := fun a ha => f a (List.mem_append_right _ ha)
          obtain ⟨p1, S2, m2⟩ := S1.putS x n1 (A.sr.apart f1) h1
          obtain ⟨p2, S3, m3⟩ := S2.putS y n2 (fun a ha hm => (m2 a hm).elim (fun z => n3 a z a ha rfl) (A.sr.apart f2 a ha)) h2
          refine ⟨v, w, rfl, q _ H1 io1 p2 S3 (A.kp.trans k1 A.bl) (k1.kf A.sr.bl) fun a ha => ?_⟩
          rcases m3 a ha with z | z
          · exact fresh_back A.kp A.sr (f2 a z)
          · rcases m2 a z with z | z
            · exact fresh_back A.kp A.sr (f1 a z)
            · exact A.fr a z
/-! ### return, tests -/
theorem ds_ret {e : Expr} {f : Ev} {pos : Pos} (he : PE X e (tV X.K f)) : PS X (.Return (some e) pos) (tD X.K (sRet f)) :=
  PS_wk (ps_ret he) fun D σ H ⟨io0, H0, io, b, r, oss, A, fl, r', b', e, q⟩ => by
    obtain ⟨d, b1, e1, e2⟩ := bnd_some e
    cases e2
    exact ⟨io, b, r, oss, A.sr, d, _, e1, fun v H1 io1 os k1 S1 rx n f => q v H1 io1 os S1.bare (A.kp.trans k1 A.bl) rx n fun a ha => fresh_back A.kp A.sr (f a ha)⟩
theorem mem_flat {oss : List (List Addr)} {i : Nat} {os : List Addr} (h : oss[i]? = some os) : (∀ a ∈ os, a ∈ oss.flatten) ∧ (oss.flatten.Nodup → os.Nodup) := by
  have hm := List.mem_of_getElem? h
  exact ⟨fun a ha => List.mem_flatten.mpr ⟨os, hm, ha⟩, fun n => (List.pairwise_flatten.mp n).1 os hm⟩
theorem ds_retV {i : Nat} {x : Str} {pos pos' : Pos} (hN : X.N[i]? = some x) (hv : Vis X.env.scope x) (hd : (x == ("__debug__" : Str)) = false) (hcd : (x == ("__classdict__" : Str)) = false) : PS X (.Return (some (.Name x pos')) pos) (tD X.K (sRetV i)) :=
  PS_wk (ps_ret (pe_var hN hv hd hcd)) fun D σ H ⟨io0, H0, io, b, r, oss, A, fl, r', b', e, q⟩ => by
    unfold sRetV at e
    cases hr : r[i]? with
    | none => rw [hr] at e; cases e
    | some sl =>
      rw [hr] at e
      rcases A.sr.sl.get hr with rfl | ⟨d', v, rfl, hv, hx⟩ | ⟨d', v, os, rfl, hv, ho, hx⟩
      · cases e
      · cases e
        exact ⟨v, hv, q v H io [] A.sr.bare A.kp hx List.nodup_nil nil_all⟩
      · cases e
        obtain ⟨m1, m2⟩ := mem_flat ho
        exact ⟨v, hv, q v H io os A.sr.bare A.kp hx (m2 A.sr.od) fun a ha => A.fr a (m1 a ha)⟩
theorem ds_retN {pos : Pos} : PS X (.Return none pos) (tD X.K sRetN) := PS_wk ps_retN fun D σ H ⟨io0, H0, io, b, r, oss, A, fl, r', b', e, q⟩ => by
  cases e
  exact q .non H io [] A.sr.bare A.kp .non List.nodup_nil nil_all
theorem ds_if {c : Expr} {a z : List Stmt} {fc : Ev} {f g : Sv} {pos : Pos} (hc : PT X c (tT X.K fc)) (ha : PSs X a (tD X.K f)) (hb : PSs X z (tD X.K g)) : PS X (.If c a z pos) (tD X.K (sIf fc f g)) :=
  PS_wk (ps_if hc ha hb) fun D σ H ⟨io0, H0, io, b, r, oss, A, fl, r', b', e, q⟩ => by
    obtain ⟨d, b1, e1, e2⟩ := bnd_some e
    cases d <;> first | cases e2 | skip
    rename_i k
    refine ⟨io, b, r, oss, A.sr, k, b1, e1, fun H1 io1 k1 S1 => ?_⟩
    have A1 : At X.K io0 H0 io1 b1 r oss σ H1 := ⟨S1, A.kp.trans k1 A.bl, A.bl, A.fr⟩
    cases k with
    | true => exact ⟨io0, H0, io1, b1, r, oss, A1, fl, r', b', e2, q.mono (k1.kf A.sr.bl)⟩
    | false => exact ⟨io0, H0, io1, b1, r, oss, A1, fl, r', b', e2, q.mono (k1.kf A.sr.bl)⟩
theorem ds_drop {e : Expr} {f : Ev} {pos : Pos} (he : PE X e (tV X.K f)) (hs : swapsWith e none pos.line X.env = pure false) : PS X (.Expr e pos) (tD X.K (sDrop f)) :=
  PS_wk (ps_expr he hs) fun D σ H ⟨io0, H0, io, b, r, oss, A, fl, r', b', e, q⟩ => by
    obtain ⟨d, b1, e1, e2⟩ := bnd_some e
    cases e2
    exact ⟨io, b, r, oss, A.sr, d, _, e1, fun v H1 io1 os k1 S1 rx n f => q σ H1 io1 oss S1 (A.kp.trans k1 A.bl) (k1.kf A.sr.bl) A.fr⟩

/-! ### loops -/
theorem ds_for {tg iter : Expr} {body : List Stmt} {t : Tg} {it : Ws} {f : Sv} {pos : Pos} (hp : PassesOwn (model X.prog X.w) X.A X.env X.xe) (hc : X.calm = true) (hi : PI X tg iter (tI X.K it)) (hg : PG X tg (tG X.K t)) (hb : PSs X body (tD X.K f))
    (hs : ∀ x, foldedSetIterable iter X.env x = pure x) : PS X (.For tg iter body [] pos) (tD X.K (sFor t it f)) :=
  PS_wk (ps_for hp hc hi hg hb hs) fun D σ H ⟨io0, H0, io, b, r, oss, A, fl, r', b', e, q⟩ => by
    obtain ⟨ds, b1, e1, e2⟩ := bnd_some e
    refine ⟨io, b, r, oss, A.sr, ds, b1, e1, fun J H1 io1 k1 S1 fd => ?_⟩
    have A1 : At X.K io0 H0 io1 b1 r oss σ H1 := ⟨S1, A.kp.trans k1 A.bl, A.bl, A.fr⟩
    have q1 := q.mono (k1.kf A.sr.bl)
    refine for_it fd (fun i σ2 H2 => ∃ io2 b2 r2 oss2, At X.K io0 H0 io2 b2 r2 oss2 σ2 H2 ∧ Kf io1 H1 io2 H2 ∧ forGo t f (ds.drop i) r2 b2 = some ((fl, r'), b')) ?_ (fun i σ2 H2 _ p => ?_) (fun i x σ2 H2 H3 hlt p y => ?_) fun σ2 H2 p => ?_
    · exact ⟨io1, b1, r, oss, A1, Kf.refl _ _, e2⟩
    · obtain ⟨io2, _, _, _, _, k, _⟩ := p
      exact ⟨io2, k⟩
    · obtain ⟨io2, b2, r2, oss2, A2, k2, go⟩ := p
      obtain ⟨ext, d, ed, rx⟩ := y
      have hdr : ds.drop i = d :: ds.drop (i + 1) := by
        obtain ⟨hi, e⟩ := List.getElem?_eq_some_iff.mp ed
        rw [List.drop_eq_getElem_cons hi, e]
      rw [hdr] at go
      unfold forGo at go
      cases hb : bindT t d r2 with
      | none => rw [hb] at go; cases go
      | some r3 =>
        rw [hb] at go
        dsimp only at go
        obtain ⟨⟨fl3, r4⟩, b4, g1, g2⟩ := bnd_some go
        have kk : Kp io2 H2 io2 H3 := Kp.of ext
        have S3 := A2.sr.later ext
        refine ⟨io2, b2, r2, oss2, d, r3, S3, rx io2 k2 A2.sr.bl, hb, fun σ4 o4 S4 ho _ => ?_⟩
        have k03 : Kp io0 H0 io2 H3 := A2.kp.trans kk A2.bl
        have k13 : Kf io1 H1 io2 H3 := k2.trans (kk.kf A2.sr.bl)
        refine ⟨io0, H0, io2, b2, r3, o4, ⟨S4, k03, A2.bl, fun a ha => A2.fr a (ho a ha)⟩, fl3, r4, b4, g1, ?_⟩
        cases fl3 with
        | nx => exact fun σ5 H5 io5 o5 S5 k05 k35 fr5 => ⟨io5, b4, r4, o5, ⟨S5, k05, A2.bl, fr5⟩, k13.trans k35, g2⟩
        | ct => exact fun σ5 H5 io5 o5 S5 k05 k35 fr5 => ⟨io5, b4, r4, o5, ⟨S5, k05, A2.bl, fr5⟩, k13.trans k35, g2⟩
        | bk => cases g2; exact fun σ5 H5 io5 o5 S5 k05 k35 fr5 => q1 σ5 H5 io5 o5 S5 k05 (k13.trans k35) fr5
        | rt d => cases g2; exact q1
    · obtain ⟨io2, b2, r2, oss2, A2, k2, go⟩ := p
      rw [List.drop_length] at go
      cases go
      exact q1 σ2 H2 io2 oss2 A2.sr A2.kp k2 A2.fr
theorem ds_while {c : Expr} {body : List Stmt} {fc : Ev} {f : Sv} {pos : Pos} (n : Nat) (hp : PassesOwn (model X.prog X.w) X.A X.env X.xe) (hc : PT X c (tT X.K fc)) (hb : PSs X body (tD X.K f)) : PS X (.While c body [] pos) (tD X.K (sWhile n fc f)) :=
  PS_wk (ps_while hp hc hb) fun D σ H ⟨io0, H0, io, b, r, oss, A, fl, r', b', e, q⟩ => by
    refine ⟨fun m σ2 H2 => ∃ io2 b2 r2 oss2, At X.K io0 H0 io2 b2 r2 oss2 σ2 H2 ∧ Kf io H io2 H2 ∧ whileGo fc f m r2 b2 = some ((fl, r'), b'), ⟨n, io, b, r, oss, A, Kf.refl _ _, e⟩, ?_⟩
    rintro m σ2 H2 ⟨io2, b2, r2, oss2, A2, k2, go⟩
    cases m with
    | zero => cases go
    | succ m =>
      unfold whileGo at go
      obtain ⟨d, b3, g1, g2⟩ := bnd_some go
      cases d <;> first | cases g2 | skip
      rename_i k
      refine ⟨io2, b2, r2, oss2, A2.sr, k, b3, g1, fun H3 io3 k3 S3 => ?_⟩
      have A3 : At X.K io0 H0 io3 b3 r2 oss2 σ2 H3 := ⟨S3, A2.kp.trans k3 A2.bl, A2.bl, A2.fr⟩
      have k03 := k2.trans (k3.kf A2.sr.bl)
      cases k with
      | false => cases g2; exact q σ2 H3 io3 oss2 S3 A3.kp k03 A3.fr
      | true =>
        obtain ⟨⟨fl4, r4⟩, b4, g3, g4⟩ := bnd_some g2
        refine ⟨fun σ' H' => ∃ io2 b2 r2 oss2, At X.K io0 H0 io2 b2 r2 oss2 σ' H' ∧ Kf io H io2 H' ∧ whileGo fc f m r2 b2 = some ((fl, r'), b'), fun σ' H' p => ⟨m, Nat.lt_succ_self m, p⟩, io0, H0, io3, b3, r2, oss2, A3, fl4, r4, b4, g3, ?_⟩
        cases fl4 with
        | nx => exact fun σ5 H5 io5 o5 S5 k05 k35 fr5 => ⟨io5, b4, r4, o5, ⟨S5, k05, A2.bl, fr5⟩, k03.trans k35, g4⟩
        | ct => exact fun σ5 H5 io5 o5 S5 k05 k35 fr5 => ⟨io5, b4, r4, o5, ⟨S5, k05, A2.bl, fr5⟩, k03.trans k35, g4⟩
        | bk => cases g4; exact fun σ5 H5 io5 o5 S5 k05 k35 fr5 => q σ5 H5 io5 o5 S5 k05 (k03.trans k35) fr5
        | rt d => cases g4; exact q
end
end HF

/-! HF: calls of defs. No guard of repr stands in any of them. -/
namespace HF
open PySem PySem.Spec L2
open PyProof.Rows hiding St
abbrev CXn : CXT := fun _ _ _ _ _ _ => False
/-- a def's promise where no repr is under way -/
structure FnG (P : Program) (w : World) (K : PySem.W.Frag) (mg : Str → Option Value) (base : Heap) (k : Nat) (f : Addr) (fd : FuncData) (ps : List Str) (sp : Sp) : Prop where
  len : ∀ vs H Q E, sp vs H Q E → vs.length = ps.length
  run : ∀ (A : Around) (outer : List PySem.Env) (s : Shared) (H : Hp) (args : Args) (us : List Value) (vs : List V) (Q : VK) (E : XK), A.guards = some [] → Room k A →
    Env0 P w K mg base A outer s H → BindsTo s fd args (ps.zip us) → Vals vs us → sp vs H Q E → codeAny (model P w) A (.call (.ref f) args) (CR CXn outer P w H s Q E) s
theorem FnG.mono {P : Program} {w : World} {K : PySem.W.Frag} {mg : Str → Option Value} {base : Heap} {j k : Nat} {f : Addr} {fd : FuncData} {ps : List Str} {sp : Sp}
    (F : FnG P w K mg base j f fd ps sp) (h : j ≤ k) : FnG P w K mg base k f fd ps sp :=
  ⟨F.len, fun A outer s H args us vs Q E hg hr => F.run A outer s H args us vs Q E hg (hr.mono h)⟩
/-- .. over plain data -/
def spF (K : PySem.W.Frag) (fn : Fn) (n : Nat) : Sp := fun vs H Q _ => ∃ io b ds d b', SR K io b [] [] [] H ∧ RpL K H io ds vs [] ∧ ds.length = n ∧ fn ds b = some (d, b') ∧
  ∀ (v : V) (H' : Hp) (io' os : List Addr), Kp io H io' H' → SR K io' b' [] [] [] H' → Rp K H' io' d v os → os.Nodup → (∀ a ∈ os, H a = none) → Q v H'
theorem spF.len {K : PySem.W.Frag} {fn : Fn} {n : Nat} : ∀ vs H Q E, spF K fn n vs H Q E → vs.length = n := fun vs H Q E ⟨_, _, _, _, _, _, r, h, _⟩ => by rw [← r.length]; exact h
theorem deeper_guards {A : Around} {e : PySem.Env} (h : A.guards = some []) : (A.deeper e).guards = some [] := h

theorem start_rp {K : PySem.W.Frag} {H : Hp} {io : List Addr} {m : Nat} : ∀ {ds : List D} {vs : List V}, RpL K H io ds vs [] → RpE K H io (ds.map Sl.sh ++ List.replicate m Sl.no) (vs.map some ++ List.replicate m none) (List.replicate (ds.length + m) [])
  | [], vs, h => by
    obtain rfl := h.zero
    simp only [List.map_nil, List.nil_append, List.length_nil, Nat.zero_add]
    induction m with
    | zero => exact .nil
    | succ m ih => exact .no ih
  | d :: ds, vs, h => by
    obtain ⟨v, ws, rfl, x, r⟩ := h.one
    have := start_rp (m := m) r
    rw [show (d :: ds).length + m = (ds.length + m) + 1 by simp; omega]
    exact .sh x this
theorem flat_nil : ∀ n : Nat, (List.replicate n ([] : List Addr)).flatten = []
  | 0 => rfl
  | n + 1 => by rw [List.replicate_succ, List.flatten_cons, flat_nil n]; rfl
section
variable {P : Program} {w : World} {K : PySem.W.Frag} {mg : Str → Option Value} {base : Heap}
/-- a def by its body -/
theorem fn_g {k : Nat} {f : Addr} {name qual : Str} {params : Arguments} {body : List Stmt} {scope : Scope} {dV kV doc pm cdv ct oc : Value} {an od : Option Addr} {osl : Array (Option Value)} {N ps : List Str} {sv : Sv} (n : Nat)
    (lk : K.lookup f = some ⟨oc, od, .func (PySem.W.fnOf name qual params body scope dV kV doc pm an cdv ct), osl⟩) (hcd : PySem.W.codeIn K cdv qual = true) (S : FnScope N ps scope) (hn : N.length = ps.length + n)
    (hbody : ∀ (A : Around) (outer : List PySem.Env) (s : Shared) (H : Hp) (E : XK), A.guards = some [] → Room k (A.deeper (envOfC qual scope s.heap.objs.size f cdv)) → PSs (cxOf CXn P w K mg base N qual scope f cdv A outer s H E).nox body (tD K sv)) :
    FnG P w K mg base (k + 1) f (PySem.W.fnOf name qual params body scope dV kV doc pm an cdv ct) ps (spF K (runFn n sv) ps.length) := by
  refine ⟨spF.len, fun A outer s H args us vs Q E hg hr e0 hb r hsp => ?_⟩
  have hl := spF.len _ _ _ _ hsp
  have inK : K.In s.heap := e0.mod.kin.keeps fun b o e => (e0.bs b o e).1
  have noL : s.heap.NoLimit := e0.mod.nolimit.keeps fun b o e => (e0.bs b o e).1
  refine codeAny_call_function hr.depth (inK _ _ lk) rfl S.co S.gen rfl (PySem.W.codeRec_of inK hcd) (hb _ _ _ _ ?_)
  refine wpAny_newFunctionEnv_cells S.kind (fun y hy => (S.par y.1 (List.of_mem_zip hy).1).imp id fun q => ⟨q, PySem.W.cellsFrom_some _ _ _ (.inl q)⟩) fun env he s1 x => ?_
  subst he
  refine ⟨noL.keeps x.toInCall.keep, codeAny_func ?_⟩
  have I := inv_start (CX := CXn) (E := E) S hr.hd e0 hl r x
  obtain ⟨io, b, ds, d, b', S0, rl, hlen, e, q⟩ := hsp
  have hv : vs.length = ds.length := rl.length.symm
  have hst : L2.start N vs = vs.map some ++ List.replicate n none := by
    unfold L2.start
    rw [show N.length - vs.length = n by omega]
  have hS : SR K io b (ds.map Sl.sh ++ List.replicate n Sl.no) (List.replicate (ds.length + n) []) (L2.start N vs) H := ⟨S0.len, S0.bx, S0.nd, hst ▸ start_rp rl, by rw [flat_nil]; exact List.nodup_nil⟩
  obtain ⟨⟨fl, r'⟩, b1, e1, e2⟩ := bnd_some e
  have hq : tD K sv { nx := fun _ H' => Q .non H', rt := Q } (L2.start N vs) H := by
    refine ⟨io, H, io, b, _, _, ⟨hS, Kp.refl _ _, S0.bl, fun a ha => by rw [flat_nil] at ha; cases ha⟩, fl, r', b1, e1, ?_⟩
    cases fl with
    | nx =>
      cases e2
      exact fun σ' H' io' oss' S' k0 _ _ => q .non H' io' [] k0 S'.bare .non List.nodup_nil nil_all
    | rt d0 =>
      cases e2
      exact fun v H' io' os S' k0 rx nd fr => q v H' io' os k0 S' rx nd fr
    | bk => cases e2
    | ct => cases e2
  refine wpAny_mono ((hbody A outer s H E hg (hr.deeper _)).nox.run [] s1 (L2.start N vs) H _ I hq) (fun fl s' hs => ?_) fun e s' hs => hs
  cases fl with
  | ret u =>
    obtain ⟨v, σ', H', J, rv, q⟩ := hs
    exact ⟨v, H', J.os, J.bare, J.base, J.hok, rv, q⟩
  | next =>
    obtain ⟨σ', H', J, q⟩ := hs
    exact ⟨.non, H', J.os, J.bare, J.base, J.hok, rfl, q⟩
  | brk => exact hs.choose_spec.choose_spec.2.elim
  | cont => exact hs.choose_spec.choose_spec.2.elim
end

/-! ### calls -/
section
variable {X : Cx} {k : Nat} {f : Addr} {fd : FuncData} {ps : List Str} {fn : Fn} {x : Str} {p pos : Pos} {e : Expr} {es : List Expr}
def pick {α : Type} (idx : List Nat) (xs : List α) : List α := idx.filterMap fun i => xs[i]?
theorem Vals.pick {vs : List V} {us : List Value} (h : Vals vs us) : ∀ idx : List Nat, Vals (HF.pick idx vs) (HF.pick idx us)
  | [] => .nil
  | i :: idx => by
    unfold HF.pick
    have ih := Vals.pick h idx
    cases e : vs[i]? with
    | none =>
      have e2 : us[i]? = none := by
        rw [List.getElem?_eq_none_iff] at e ⊢
        rw [← h.length]; exact e
      rw [List.filterMap_cons_none e, List.filterMap_cons_none e2]
      exact ih
    | some v =>
      obtain ⟨u, e2, r⟩ := h.get e
      rw [List.filterMap_cons_some e, List.filterMap_cons_some e2]
      exact .cons r ih
theorem RpL.pick {K : PySem.W.Frag} {H : Hp} {io : List Addr} {ds : List D} {vs : List V} (h : RpL K H io ds vs []) : ∀ idx : List Nat, RpL K H io (HF.pick idx ds) (HF.pick idx vs) []
  | [] => .nil
  | i :: idx => by
    unfold HF.pick
    have ih := RpL.pick h idx
    cases e : vs[i]? with
    | none =>
      have e2 : ds[i]? = none := by
        rw [List.getElem?_eq_none_iff] at e ⊢
        rw [h.length]; exact e
      rw [List.filterMap_cons_none e, List.filterMap_cons_none e2]
      exact ih
    | some v =>
      obtain ⟨d, e2, r⟩ := h.get0 e
      rw [List.filterMap_cons_some e, List.filterMap_cons_some e2]
      exact .cons (os := []) (ps := []) r ih
theorem evs_len : ∀ {fs : List Ev} {r : Env} {b b' : Bx} {ds : List D}, evs fs r b = some (ds, b') → ds.length = fs.length
  | [], _, _, _, _, e => by cases e; rfl
  | f :: fs, _, _, _, _, e => by
    obtain ⟨d1, b2, g1, g2⟩ := bnd_some e
    obtain ⟨ds2, b3, g3, g4⟩ := bnd_some g2
    cases g4
    simpa using evs_len g3
/-- the callee runs; behind it the caller goes on -/
theorem go_fn {sp : Sp} {pins : List (Addr × Obj)} {σ : St} {H : Hp} {s : Shared} {Q : VK} {us : List Value} {kw : List (Str × Value)} {as : List Value} {vs : List V} (F : FnG X.prog X.w X.K X.mg X.base k f fd ps sp) (hg : X.A.guards = some []) (hr : Room k X.A)
    (hb : BindsTo s fd ⟨us, kw⟩ (ps.zip as)) (I : Inv X pins σ H s) (r : Vals vs as) (h : sp vs H Q E0) : wpAny (model X.prog X.w) X.A (call (.ref f) us kw) (EP X pins σ Q) X.xe s := by
  refine wpAny_call (codeAny_mono (F.run X.A X.stack s H ⟨us, kw⟩ as vs Q E0 hg hr I.env0 hb r h) fun r s' hq => ?_)
  cases r with
  | error e => exact False.elim hq
  | ok fl =>
    cases fl with
    | ret u => exact I.after hq
    | next => exact False.elim hq
    | brk => exact False.elim hq
    | cont => exact False.elim hq
/-- from the caller's reading to the callee's promise -/
theorem sp_call {K : PySem.W.Frag} {io io1 : List Addr} {b b1 b' : Bx} {r : Env} {oss : List (List Addr)} {σ : St} {H H1 : Hp} {n : Nat} {ds : List D} {vs : List V} {d : D} {Q : VK} (S : SR K io b r oss σ H) (k1 : Kp io H io1 H1) (S1 : SR K io1 b1 r oss σ H1) (rl : RpL K H1 io1 ds vs []) (hn : ds.length = n) (e : fn ds b1 = some (d, b'))
    (q : ∀ (v : V) (H' : Hp) (io' os : List Addr), Kp io H io' H' → SR K io' b' r oss σ H' → Rp K H' io' d v os → os.Nodup → (∀ a ∈ os, H a = none) → Q v H') : spF K fn n vs H1 Q E0 :=
  ⟨io1, b1, ds, d, b', S1.bare, rl, hn, e, fun v H' io' os k2 S2 rx nd fr => q v H' io' os (k1.trans k2 S.bl) (S1.move k2 S2) rx nd fun a ha => fresh_back k1 S1 (fr a ha)⟩
theorem de_call {fs : List Ev} {n : Nat} (F : FnG X.prog X.w X.K X.mg X.base k f fd ps (spF X.K fn n)) (hg : X.A.guards = some []) (hr : Room k X.A) (hgl : Gl X x) (hm : X.mg x = some (.ref f)) (hk : PySem.W.keepIn X.K (.ref f) = true)
    (hb : ∀ (s : Shared) (us : List Value), X.K.In s.heap → us.length = n → BindsTo s fd ⟨us, []⟩ (ps.zip us)) (hn : fs.length = n) (ha : PA X (e :: es) (tAS X.K fs)) (hdb : (x == ("__debug__" : Str)) = false)
    (he : starEach (e :: es) X.env = (false, eval e X.env) :: starEach es X.env) (hpl : (backTo pos (starEach es X.env)).any (·.1) = false) : PE X (.Call (.Name x p) (e :: es) [] pos) (tV X.K (eCall fn fs)) := by
  refine ⟨fun pins s σ H Q I ⟨io, b, r, oss, S, d, b', e, q⟩ => ?_⟩
  obtain ⟨ds, b1, e1, e2⟩ := bnd_some e
  refine wpAny_Call_Name_kw (ld_glob I hgl hm ?_ hdb)
  refine PySem.W.callWith_K (h₀ := X.base) I.ok.mod.kin hk (thn (ha.run pos pins s σ H (fun vs H1 => ∃ io1, Kp io H io1 H1 ∧ SR X.K io1 b1 r oss σ H1 ∧ RpL X.K H1 io1 ds vs []) I ⟨io, b, r, oss, S, ds, b1, e1, fun vs H1 io1 k1 S1 rl => ⟨io1, k1, S1, rl⟩⟩) fun us s1 ⟨vs, H1, I1, rv, io1, k1, S1, rl⟩ => ⟨I1.kIn, ?_⟩) he hpl
  have hds : ds.length = n := (evs_len e1).trans hn
  exact go_fn F hg hr (hb s1 us I1.kIn (by rw [← rv.length, ← rl.length]; exact hds)) I1 rv (sp_call S k1 S1 rl hds e2 q)
end
end HF

/-! HF: the law's head. -/
namespace HF
open PySem PySem.Spec L2
open PyProof.Rows hiding St
theorem LK.of {K : PySem.W.Frag} {H : Hp} {a : Addr} {vs : List V} (hO : Only H) (h : SqL K H a vs) : LK K H a vs := by
  rcases h with (h | h) | h
  · rcases hO a with z | ⟨o, xs, z⟩
    · rw [h] at z; cases z
    · rw [h] at z; cases z
  · exact .inl h
  · exact .inr h
/-- what the run at the caller's is to give -/
abbrev Told (s : Shared) (r : Result) (s' : Shared) : Prop := r = .ok (.ret (.bool true)) ∧ OldK s.heap s'.heap ∧ s'.os = s.os ∧ AllBare s'.gens
section
variable {P : Program} {w : World} {K : PySem.W.Frag} {mg mb : Str → Option Value} {k : Nat} {fa a : Addr} {fd : FuncData} {x : Str} {fn : Fn} {s : Shared} {vs : List Value} {ns : List Int}
/-- from a heap in which at most the script is tracked -/
theorem law_at (H : Hp) (inK : K.In s.heap) (hns : s.heap.Ns mainGlobals mg) (hb : s.heap.Ns builtinsNs mb) (hbb : ∀ x : Str, x ≠ "__name__" → mb x = bootBuiltins x) (hlim : s.heap.NoLimit) (hg : s.gens = #[])
    (ha : s.heap.get? a = some { cls := .type "list", data := .seq vs.toArray }) (hr : Room k callerA) (F : ∀ base : Heap, K.In base → base.Ns mainGlobals mg → FnG P w K mg base k fa fd [x] (spF K fn 1))
    (hbind : ∀ (s : Shared) (u : Value), BindsTo s fd ⟨[u], []⟩ [(x, u)]) (hp : ∃ b', fn [.scr ns] [] = some (.bl true, b'))
    (hO : Only H) (hS : SqL K H a (ns.map V.int)) (ok : HOk P w H s.heap) (hA : ∀ b, H b ≠ none → b = a) (hK : H a ≠ none → K.lookup a = none) :
    codeAny (model P w) callerA (.call (.ref fa) ⟨[.ref a], []⟩) (Told s) s := by
  have only : ∀ {b : Addr}, b ≠ a → H b = none := fun {b} n => Classical.byContradiction fun z => n (hA b z)
  have keepB : ∀ {b : Addr} {o : Obj}, s.heap.get? b = some o → (b = a → H a = none) → (hidT s.heap H).get? b = some o := fun {b o} e n => hidT_get e (by
    by_cases hb : b = a
    · rw [hb]; exact n hb
    · exact only hb)
  have keepN : ∀ {b : Addr} {m : Str → Option Value}, s.heap.Ns b m → (hidT s.heap H).Ns b m := fun {b m} ⟨o, es, ep, e, d, r⟩ => ⟨o, es, ep, keepB e (fun z => by
    rw [z, ha] at e
    cases e
    cases d), d, r⟩
  have inB : K.In (hidT s.heap H) := fun b o e => keepB (inK b o e) fun z => Classical.byContradiction fun q => by
    rw [z, hK q] at e; cases e
  have nsB := keepN hns
  have md : Mod K mg (hidT s.heap H) := ⟨inB, nsB, ⟨mb, keepN hb, hbb⟩, hlim.elim fun mc h => ⟨mc, keepN h.1, h.2⟩⟩
  have e0 : Env0 P w K mg (hidT s.heap H) callerA [] s H := { frames := rfl, mod := md, bs := fun b o e => of_hidT e, bsz := Nat.le_of_eq (hidT_size _ _), funs := trivial, frf := fun b z => (by cases z), hok := ok, bare := .of_eq hg }
  obtain ⟨b', hb'⟩ := hp
  have sp0 : spF K fn 1 [.ref a] H (fun v _ => v = .bl true) E0 := by
    refine ⟨[], [], [.scr ns], .bl true, b', ⟨rfl, fun n a zs e => by simp at e, List.nodup_nil, .nil, List.nodup_nil⟩, .cons (os := []) (ps := []) (.scr (.of hO hS)) .nil, rfl, hb', fun v H' io' os _ _ rx _ _ => ?_⟩
    exact rx.bl_inv
  have run := (F _ inB nsB).run callerA [] s H ⟨[.ref a], []⟩ [.ref a] [.ref a] _ _ rfl hr e0 (hbind s (.ref a)) (.cons rfl .nil) sp0
  refine codeAny_mono run fun r s' h => ?_
  match r, h with
  | .ok (.ret u), ⟨v, H', os, bare, un, ok', rv, q⟩ =>
    obtain rfl : v = .bl true := q
    obtain rfl : u = Value.bool true := rv
    refine ⟨rfl, OldK.of_keep fun b o e => ?_, os, bare⟩
    cases hq : H b with
    | none => exact un.keep b o e hq (fun z => by cases z) (by simp)
    | some u =>
      rcases hO b with z | ⟨ob, xs, z⟩
      · rw [hq] at z; cases z
      · obtain ⟨e1, _⟩ := ok b _ z
        obtain ⟨e2, _⟩ := ok' b _ (un.frzs b ob _ z)
        rw [e] at e1; cases e1
        exact e2
theorem law_go (inK : K.In s.heap) (hns : s.heap.Ns mainGlobals mg) (hb : s.heap.Ns builtinsNs mb) (hbb : ∀ x : Str, x ≠ "__name__" → mb x = bootBuiltins x) (hlim : s.heap.NoLimit) (hg : s.gens = #[])
    (ha : s.heap.get? a = some { cls := .type "list", data := .seq vs.toArray }) (hi : IntsAre vs ns) (hl : ns.length ≤ sizeLine) (hr : Room k callerA) (F : ∀ base : Heap, K.In base → base.Ns mainGlobals mg → FnG P w K mg base k fa fd [x] (spF K fn 1))
    (hbind : ∀ (s : Shared) (u : Value), BindsTo s fd ⟨[u], []⟩ [(x, u)]) (hp : ∃ b', fn [.scr ns] [] = some (.bl true, b')) : codeAny (model P w) callerA (.call (.ref fa) ⟨[.ref a], []⟩) (Told s) s := by
  have rv : Vals (ns.map V.int) vs := vals_ints hi
  cases hk : K.lookup a with
  | some o =>
    have e := inK a o hk
    rw [ha] at e
    cases e
    refine law_at (fun _ => none) inK hns hb hbb hlim hg ha hr F hbind hp (fun _ => .inl rfl) (.inr ⟨_, vs.toArray, _, hk, rfl, rfl, rfl, by rw [List.size_toArray, hi.length]; exact hl, by simpa using rv⟩) ?_ (fun b z => absurd rfl z) fun z => absurd rfl z
    intro b u z
    simp at z
  | none =>
    let H : Hp := fun b => if b = a then some (.frz { cls := .type "list", data := .seq vs.toArray } (.lst (ns.map V.int))) else none
    have Ha : H a = some (.frz { cls := .type "list", data := .seq vs.toArray } (.lst (ns.map V.int))) := if_pos rfl
    have Hn : ∀ {b : Addr}, b ≠ a → H b = none := fun n => if_neg n
    refine law_at H inK hns hb hbb hlim hg ha hr F hbind hp (fun b => ?_) (.inl (.inr ⟨_, Ha⟩)) (fun b u z => ?_) (fun b z => ?_) fun _ => hk
    · by_cases h : b = a
      · subst h; exact .inr ⟨_, _, Ha⟩
      · exact .inl (Hn h)
    · by_cases h : b = a
      · subst h
        rw [Ha] at z
        cases z
        exact ⟨ha, by rw [List.length_map]; exact hl, vs, _, rv, ha⟩
      · rw [Hn h] at z; cases z
    · exact Classical.byContradiction fun h => z (Hn h)
end
/-- the goal that k_head leaves, from the law's promise -/
theorem walk_go {l : PySem.W.OpenLaw} {n k : Nat} {q : Program} {loose : List Str} {XP : (Str → Option Value) → Heap → Prop} {YP : World → Heap → Prop} {d : DefRec} {K : Params → PySem.W.Frag} {fn : Fn} {x : Str}
    (hn : l.most = some n) (hn2 : n ≤ sizeLine) (hdf : d.params.defaults = []) (hr : Room k callerA) (hY : ∀ (w : World) (h : Heap), YP w h → (K w.params).In h)
    (F : ∀ (w : World) (mg : Str → Option Value) (fa : Addr) (h : Heap), (K w.params).In h → h.Ns mainGlobals mg → mg d.name = some (.ref fa) → ∃ fd : FuncData, (∀ (s : Shared) (u : Value), BindsTo s fd ⟨[u], []⟩ [(x, u)]) ∧
      ∀ base : Heap, (K w.params).In base → base.Ns mainGlobals mg → FnG l.prog w (K w.params) mg base k fa fd [x] (spF (K w.params) fn 1))
    (hp : ∀ ns : List Int, ns.length ≤ n → ∃ b', fn [.scr ns] [] = some (.bl true, b')) : PySem.W.WalkO q loose XP YP l.row.toRowW d [] (fun f vs => PySem.call f vs) :=
  Att.attach_call hn hdf fun w s0 s mg mb fa o pm cd doc a vs ns G Y ho hd hcd hmg hobj hints hlen hg => by
    obtain ⟨fd, hb, hF⟩ := F w mg fa _ (hY w _ Y) G.T.g hmg
    exact law_go (hY w _ Y) G.T.g G.T.b G.T.builtins G.T.nolimit hg hobj hints (Nat.le_trans hlen hn2) hr hF hb (hp ns hlen)
end HF

/-! HF: changes in place, boxes, displays. -/
namespace HF
open PySem PySem.Spec L2
open PyProof.Rows hiding St
section
variable {K : PySem.W.Frag} {H : Hp} {io : List Addr}
theorem RpE.setU {a : Addr} {o : HO} {d' : D} {os' : List Addr} (m : Mut (H a)) : ∀ {r : Env} {σ : St} {oss : List (List Addr)} {i : Nat} {d : D} {v : V} {os : List Addr}, RpE K H io r σ oss → oss.flatten.Nodup → r[i]? = some (.ow d) → σ[i]? = some (some v) → oss[i]? = some os → a ∈ os →
    Rp K (L2.upd H a o) io d' v os' → RpE K (L2.upd H a o) io (r.set i (.ow d')) σ (oss.set i os')
  | _, _, _, i, _, _, _, .nil, _, h, _, _, _, _ => by simp at h
  | _, _, _, 0, _, _, _, .no _, _, h, _, _, _, _ => by simp at h
  | _, _, _, 0, _, _, _, .sh _ _, _, h, _, _, _, _ => by simp at h
  | _, _, _, 0, _, _, _, .ow (σ := σ) x r, n, h, hv, ho, ha, x' => by
    simp at hv ho
    subst hv ho
    rw [List.flatten_cons] at n
    exact .ow x' (r.upd m fun z => (List.nodup_append.mp n).2.2 _ ha _ z rfl)
  | _, _, _, i + 1, _, _, _, .no r, n, h, hv, ho, ha, x' => by
    rw [List.flatten_cons] at n
    exact .no (RpE.setU m r (List.nodup_append.mp n).2.1 (i := i) (by simpa using h) (by simpa using hv) (by simpa using ho) ha x')
  | _, _, _, i + 1, _, _, _, .sh x r, n, h, hv, ho, ha, x' => by
    rw [List.flatten_cons] at n
    exact .sh (x.upd m fun z => nomatch z) (RpE.setU m r (List.nodup_append.mp n).2.1 (i := i) (by simpa using h) (by simpa using hv) (by simpa using ho) ha x')
  | _, _, _, i + 1, _, _, _, .ow x r, n, h, hv, ho, ha, x' => by
    rw [List.flatten_cons] at n
    obtain ⟨n1, n2, n3⟩ := List.nodup_append.mp n
    exact .ow (x.upd m fun z => n3 _ z _ ((mem_flat (i := i) (by simpa using ho)).1 _ ha) rfl) (RpE.setU m r n2 (i := i) (by simpa using h) (by simpa using hv) (by simpa using ho) ha x')
end
/-- a method that changes its object, over plain data -/
structure OpM (K : PySem.W.Frag) (T : String) (op : D → List D → Option D) (r : V → List V → Hp → VK → Prop) : Prop where
  ty : ∀ (io : List Addr) (H : Hp) (x : V) (dx : D) (dys : List D) (d' : D) (os : List Addr), Rp K H io dx x os → op dx dys = some d' → tyV K T x H
  run : ∀ (io : List Addr) (H : Hp) (x : V) (ys : List V) (dx : D) (dys : List D) (d' : D) (os ps : List Addr) (Q : VK), BL io H → Rp K H io dx x os → os.Nodup → RpL K H io dys ys ps → ps.Nodup → (∀ a ∈ ps, a ∉ os) →
    op dx dys = some d' → (∀ (a : Addr) (o' : HO) (os' : List Addr) (v : V), x = .ref a → a ∈ os → Rp K (L2.upd H a o') io d' x os' → os'.Nodup → (∀ c ∈ os', c ∈ os ∨ c ∈ ps) → Q v (L2.upd H a o')) → r x ys H Q
theorem nodup_setU {os os' ps : List Addr} (h1 : os'.Nodup) (hs : ∀ c ∈ os', c ∈ os ∨ c ∈ ps) : ∀ {oss : List (List Addr)} {i : Nat}, oss.flatten.Nodup → oss[i]? = some os → (∀ a ∈ ps, a ∉ oss.flatten) → (oss.set i os').flatten.Nodup
  | [], _, h, _, _ => by simpa using h
  | x :: r, 0, h, e, h2 => by
    simp at e
    subst e
    rw [List.flatten_cons] at h
    rw [List.set_cons_zero, List.flatten_cons]
    obtain ⟨n1, n2, n3⟩ := List.nodup_append.mp h
    refine List.nodup_append.mpr ⟨h1, n2, fun a ha b hb q => ?_⟩
    rcases hs a ha with z | z
    · exact n3 a z b hb q
    · exact h2 a z (by rw [List.flatten_cons]; exact List.mem_append_right _ (q ▸ hb))
  | x :: r, i + 1, h, e, h2 => by
    rw [List.flatten_cons] at h
    rw [List.set_cons_succ, List.flatten_cons]
    obtain ⟨n1, n2, n3⟩ := List.nodup_append.mp h
    have e' : r[i]? = some os := by simpa using e
    refine List.nodup_append.mpr ⟨n1, nodup_setU h1 hs n2 e' fun a ha hm => h2 a ha (by rw [List.flatten_cons]; exact List.mem_append_right _ hm), fun a ha b hb q => ?_⟩
    rcases mem_set_flat hb with z | z
    · rcases hs b z with y | y
      · exact n3 a ha b ((mem_flat e').1 b y) q
      · exact h2 b y (by rw [List.flatten_cons]; exact List.mem_append_left _ (q ▸ ha))
    · exact n3 a ha b z q
theorem RpL.memO {K : PySem.W.Frag} {H : Hp} {io : List Addr} {ds : List D} {vs : List V} {os : List Addr} (r : RpL K H io ds vs os) (bl : BL io H) {p : Addr} (h : H p = none) : p ∉ os := fun hm => by
  obtain ⟨_, u, e, _⟩ := r.ownd bl p hm
  rw [h] at e; cases e
theorem Rp.lstT {K : PySem.W.Frag} {H : Hp} {io : List Addr} {ds : List D} {v : V} {os : List Addr} (h : Rp K H io (.lst true ds) v os) : ∃ a vs ps, v = .ref a ∧ os = a :: ps ∧ H a = some (.lst vs) ∧ a ∉ io ∧ RpL K H io ds vs ps := by
  cases h with
  | lstO h n r => exact ⟨_, _, _, rfl, rfl, h, n, r⟩
theorem Rp.tyL {K : PySem.W.Frag} {H : Hp} {io : List Addr} {ds : List D} {v : V} {os : List Addr} (h : Rp K H io (.lst true ds) v os) : tyV K "list" v H := by
  obtain ⟨a, vs, ps, rfl, rfl, hA, _⟩ := h.lstT
  exact .inl ⟨rfl, vs, .inl (.inl hA)⟩
theorem opM_append {K : PySem.W.Frag} : OpM K "list" mAppend rAppend := by
  refine ⟨fun io H x dx dys d' os rx e => ?_, ?_⟩
  · unfold mAppend at e
    split at e
    · exact rx.tyL
    · cases e
  intro io H x ys dx dys d' os ps Q bl rx nx ry ny ap e q
  match dx, dys, e, rx, ry with
  | .lst true ds, [dy], e, rx, ry =>
    obtain ⟨a, vs, qs, rfl, rfl, hA, na, rl⟩ := rx.lstT
    obtain ⟨y, ws, o1, o2, rfl, rfl, r1, r2⟩ := ry.consI
    cases r2
    rw [List.append_nil] at ny ap
    unfold mAppend at e
    dsimp only at e
    split at e
    · rename_i hl
      cases e
      refine ⟨a, vs, y, rfl, rfl, hA, by rw [← rl.length]; exact hl, ?_⟩
      obtain ⟨nn, nq⟩ := List.nodup_cons.mp nx
      have m : Mut (H a) := by rw [hA]; trivial
      have na1 : a ∉ o1 := fun z => ap a z List.mem_cons_self
      refine q a _ (a :: (qs ++ o1)) .non rfl List.mem_cons_self (.lstO upd_same na ((rl.upd m nn).append' (r1.upd m na1))) (List.nodup_cons.mpr ⟨fun z => (List.mem_append.mp z).elim nn na1, List.nodup_append.mpr ⟨nq, ny, fun b hb c hc z => ap c hc (List.mem_cons_of_mem _ (z ▸ hb))⟩⟩) fun c hc => ?_
      rcases List.mem_cons.mp hc with rfl | hc
      · exact .inl List.mem_cons_self
      · rcases List.mem_append.mp hc with z | z
        · exact .inl (List.mem_cons_of_mem _ z)
        · exact .inr (by rw [List.append_nil]; exact z)
    · cases e
/-- with nothing of their own, items may be taken apart and put together -/
theorem RpL.nilAt {K : PySem.W.Frag} {H : Hp} {io : List Addr} {ds : List D} {vs : List V} {os : List Addr} (r : RpL K H io ds vs os) (h : stillL ds = true) : RpL K H io ds vs [] := by
  have := r.still_nil h
  rwa [this] at r
/-- insert: where nothing in it is a name's own -/
def mInsertS (d : D) (xs : List D) : Option D := match d, xs with
  | .lst true ys, [.int i, x] => if stillL ys = true ∧ still x = true ∧ ys.length < sizeLine ∧ 0 ≤ i ∧ i < 2 ^ 63 then some (.lst true (ys.take i.toNat ++ [x] ++ ys.drop i.toNat)) else none
  | _, _ => none
theorem opM_insert {K : PySem.W.Frag} : OpM K "list" mInsertS (fun x vs H Q => ∃ (l : Addr) (xs : List V) (i : Int) (y : V), x = .ref l ∧ vs = [.int i, y] ∧ H l = some (.lst xs) ∧ xs.length < sizeLine ∧ 0 ≤ i ∧ i < 2 ^ 63 ∧
    Q .non (L2.upd H l (.lst (xs.take i.toNat ++ [y] ++ xs.drop i.toNat)))) := by
  refine ⟨fun io H x dx dys d' os rx e => ?_, ?_⟩
  · unfold mInsertS at e
    split at e
    · exact rx.tyL
    · cases e
  intro io H x ys dx dys d' os ps Q bl rx nx ry ny ap e q
  match dx, dys, e, rx, ry with
  | .lst true ds, [.int i, dy], e, rx, ry =>
    obtain ⟨a, vs, qs, rfl, rfl, hA, na, rl⟩ := rx.lstT
    obtain ⟨z, ws, o1, o2, rfl, rfl, r1, r2⟩ := ry.consI
    obtain ⟨y, ws, o3, o4, rfl, rfl, r3, r4⟩ := r2.consI
    cases r4
    unfold mInsertS at e
    dsimp only at e
    split at e
    · rename_i hl
      obtain ⟨s1, s2, hl, h0, h1⟩ := hl
      cases e
      obtain rfl := rl.still_nil s1
      obtain rfl := r3.still_nil s2
      refine ⟨a, vs, i, y, rfl, by rw [r1.int_inv], hA, by rw [← rl.length]; exact hl, h0, h1, ?_⟩
      have m : Mut (H a) := by rw [hA]; trivial
      have r' := rl.upd (o := .lst (vs.take i.toNat ++ [y] ++ vs.drop i.toNat)) m fun z => nomatch z
      have y' := r3.upd (o := .lst (vs.take i.toNat ++ [y] ++ vs.drop i.toNat)) m fun z => nomatch z
      refine q a _ [a] .non rfl List.mem_cons_self (.lstO upd_same na ((((r'.take0 i.toNat).append' y').append (r'.drop0 i.toNat)))) (List.nodup_cons.mpr ⟨fun z => (nomatch z), List.nodup_nil⟩) fun c hc => .inl hc
    · cases e
section
variable {X : Cx}
theorem ds_mut {i : Nat} {T : String} {x nm : Str} {id : String} {op : D → List D → Option D} {rr : V → List V → Hp → VK → Prop} {e : Expr} {es : List Expr} {fs : List Ev} {npos apos cpos pos : Pos} (ho : OpM X.K T op rr) (pa : PlainAttrs T) (slot : Slot T nm id) (hty : typeOf (.builtin id) = pure (.type "method_descriptor")) (hm : MtR X id rr)
    (hN : X.N[i]? = some x) (hv : Vis X.env.scope x) (hd : (x == ("__debug__" : Str)) = false) (hcd : (x == ("__classdict__" : Str)) = false) (ha : PA X (e :: es) (tAV X.K fs))
    (hbase : attributeBase (.Name x npos) nm X.env (eval (.Name x npos) X.env) = eval (.Name x npos) X.env)
    (hfew : ((backTo cpos (starEach (e :: es) X.env)).all (fun x => !x.1) && (backToKw cpos (keywordEach [] X.env)).all (fun x => x.1.isSome) && decide ((e :: es).length + ([] : List Keyword).length + (if ([] : List Keyword).isEmpty then 0 else 1) < 30)) = true)
    (hline : (apos.endLine == cpos.line) = true) (hs : starEach (e :: es) X.env = (false, eval e X.env) :: starEach es X.env) (hplain : (backTo cpos (starEach es X.env)).any (·.1) = false)
    (hsw : swapsWith (.Call (.Attribute (.Name x npos) nm apos) (e :: es) [] cpos) none pos.line X.env = pure false) :
    PS X (.Expr (.Call (.Attribute (.Name x npos) nm apos) (e :: es) [] cpos) pos) (tD X.K (sMut i op fs)) :=
  PS_wk (ps_expr (pe_bm pa slot hty hm (pe_var hN hv hd hcd) ha hbase hfew hline hs hplain) hsw) fun D σ H ⟨io0, H0, io, b, r, oss, A, fl, r', b', e, q⟩ => by
    obtain ⟨ds, b1, e1, e2⟩ := bnd_some e
    cases hr : r[i]? with
    | none => rw [hr] at e2; cases e2
    | some sl =>
      rw [hr] at e2
      rcases A.sr.sl.get hr with rfl | ⟨d0, v, rfl, hv, hx⟩ | ⟨d0, v, os, rfl, hv, ho', hx⟩
      · cases e2
      · cases e2
      · obtain ⟨d', b2, e3, e4⟩ := bnd_some e2
        obtain ⟨e5, e6⟩ := lift_some e3
        replace e5 : op d0 ds = some d' := e5
        replace e6 : b2 = b1 := e6
        subst e6
        cases e4
        obtain ⟨mo, no⟩ := mem_flat ho'
        have nx := no A.sr.od
        refine ⟨v, hv, ?_, ?_⟩
        · exact ho.ty io H v d0 ds d' os hx e5
        · refine ⟨io, b, r, oss, A.sr, ds, _, e1, fun ys H1 io1 ps k1 S1 rl ny fr => ?_⟩
          have x1 := hx.keep k1 A.sr.bl
          have ap : ∀ a ∈ ps, a ∉ os := fun a ha hm => A.sr.apart fr a ha (mo a hm)
          refine ho.run io1 H1 v ys d0 ds d' os ps _ S1.bl x1 nx rl ny ap e5 fun a o' os' w ea ha rx' n' hs' => ?_
          have hm : a ∈ oss.flatten := mo a ha
          obtain ⟨nio, u, eu, mu⟩ := S1.sl.ownd S1.bl a hm
          have m : Mut (H1 a) := by rw [eu]; exact mu
          have SE := S1.sl.setU m A.sr.od hr hv ho' ha rx'
          have fr' : ∀ c ∈ os', c ∈ os ∨ H0 c = none := fun c hc => (hs' c hc).imp (fun z => z) fun z => fresh_back A.kp A.sr (fr c z)
          refine q σ _ io1 (oss.set i os') ⟨S1.len, fun n c zs e1 e2 => upd_oth (S1.bx n c zs e1 e2) fun z => nio (z ▸ List.mem_of_getElem? e1), S1.nd, SE, ?_⟩ ?_ ((k1.kf A.sr.bl).trans (Kf.upd m)) ?_
          · exact nodup_setU n' hs' A.sr.od ho' (A.sr.apart fr)
          · have kk := A.kp.trans k1 A.bl
            refine ⟨fun c o e n => ?_, kk.pre, kk.new⟩
            rw [upd_ne (fun z => by subst z; rw [A.fr c hm] at e; cases e)]
            exact kk.keep c o e n
          · refine fun c hc => (mem_set_flat hc).elim (fun z => ?_) (A.fr c)
            exact (fr' c z).elim (fun z => A.fr c (mo c z)) (fun z => z)
end
end HF

/-! HF: boxes, displays, keywords. -/
namespace HF
open PySem PySem.Spec L2
open PyProof.Rows hiding St
/-- c[i], boxes among what may stand there -/
def eIx (f g : Ev) : Ev := fun r => bnd (f r) fun x => bnd (g r) fun y => match x, y with
  | .box n, .int k => fun b => match b[n]? with
    | some zs => match L2.atI zs k with
      | some z => some (.int z, b)
      | none => none
    | none => none
  | x, y => lift (oIx x y)
theorem atI_map {α β : Type} {g : α → β} {xs : List α} {k : Int} {z : α} (h : L2.atI xs k = some z) : L2.atI (xs.map g) k = some (g z) := by
  unfold L2.atI at h ⊢
  rw [List.length_map]
  cases hj : ixN xs.length k with
  | none => rw [hj] at h; cases h
  | some j =>
    rw [hj] at h
    show (xs.map g)[j]? = some (g z)
    rw [List.getElem?_map, show xs[j]? = some z from h]; rfl
section
variable {X : Cx}
theorem de_ixB {a b : Expr} {pos : Pos} {f g : Ev} (ha : PE X a (tM X.K true f)) (hb : PE X b (tM X.K false g)) (hs : PlainIx b) : PE X (.Subscript a b pos) (tV X.K (eIx f g)) :=
  PE_wk (pe_ix ix_any ha hb hs) fun σ H Q ⟨io, b, r, oss, S, d, b', e, q⟩ => by
    obtain ⟨dx, b1, e1, e2⟩ := bnd_some e
    obtain ⟨dy, b2, e3, e4⟩ := bnd_some e2
    refine ⟨io, b, r, oss, S, dx, b1, e1, fun x H1 io1 os k1 S1 rx m1 => ⟨io1, b1, r, oss, S1, dy, b2, e3, fun y H2 io2 ps k2 S2 ry m2 => ?_⟩⟩
    have k12 := k1.trans k2 S.bl
    have plain : lift (oIx dx dy) b2 = some (d, b') → rIxA X.K x y H2 Q := fun e5 => by
      obtain ⟨e6, e7⟩ := lift_some e5
      replace e6 : oIx dx dy = some d := e6
      replace e7 : b' = b2 := e7
      subst e7
      exact o_ix io2 H2 x y dx dy d os ps Q S2.bl (rx.keep k2 S1.bl) ry m1 m2 e6 fun v H3 qs k3 rv n fr => q v H3 io2 qs (k12.trans (Kp.of k3) S.bl) (S2.later k3) rv n fun a ha => fresh_back k12 S2 (fr a ha)
    cases dx <;> first | exact plain e4 | skip
    cases dy <;> first | exact plain e4 | skip
    rename_i n k
    dsimp only at e4
    cases hz : b2[n]? with
    | none => rw [hz] at e4; cases e4
    | some zs =>
      rw [hz] at e4
      dsimp only at e4
      cases ha : L2.atI zs k with
      | none => rw [ha] at e4; cases e4
      | some z =>
        rw [ha] at e4
        cases e4
        cases rx.keep k2 S1.bl with
        | box hn =>
          rename_i a
          exact .inl (.inl ⟨a, zs.map V.int, k, .int z, rfl, ry.int_inv, .inl (.inl (S2.bx n a zs hn hz)), atI_map ha, q _ H2 io2 [] k12 S2 (.int z) List.nodup_nil nil_all⟩)

/-! ### displays -/
theorem de_tup {es : List Expr} {x1} {pos : Pos} {fs : List Ev} (h : PA X es (tAV X.K fs)) (hz : fs.length ≤ sizeLine) : PE X (.Tuple es x1 pos) (tV X.K (eTup fs)) :=
  PE_wk (pe_tupF h) fun σ H Q ⟨io, b, r, oss, S, d, b', e, q⟩ => by
    obtain ⟨ds, b1, e1, e2⟩ := bnd_some e
    cases e2
    refine ⟨io, b, r, oss, S, ds, _, e1, fun vs H1 io1 os k1 S1 rl n fr => ⟨by rw [← rl.length, evs_len e1]; exact hz, fun p o hp hd => ?_⟩⟩
    have k2 : Kp io1 H1 io1 (upd H1 p (.frz o (.tup vs))) := Kp.of (ext_upd hp)
    exact q _ _ io1 os (k1.trans k2 S.bl) (S1.later (ext_upd hp)) (.newT hd S1.bl hp rl) n fr
theorem de_lst {es : List Expr} {pos : Pos} {fs : List Ev} (h : PA X es (tAV X.K fs)) (hz : fs.length ≤ sizeLine) : PE X (.List es pos) (tV X.K (eLst fs)) :=
  PE_wk (pe_lst h) fun σ H Q ⟨io, b, r, oss, S, d, b', e, q⟩ => by
    obtain ⟨ds, b1, e1, e2⟩ := bnd_some e
    cases e2
    refine ⟨io, b, r, oss, S, ds, _, e1, fun vs H1 io1 os k1 S1 rl n fr => ⟨by rw [← rl.length, evs_len e1]; exact hz, fun p hp => ?_⟩⟩
    have k2 : Kp io1 H1 io1 (upd H1 p (.lst vs)) := Kp.of (ext_upd hp)
    refine q _ _ io1 (p :: os) (k1.trans k2 S.bl) (S1.later (ext_upd hp)) (.newL S1.bl hp rl) (List.nodup_cons.mpr ⟨rl.memO S1.bl hp, n⟩) fun a ha => ?_
    rcases List.mem_cons.mp ha with rfl | ha
    · exact fresh_back k1 S1 hp
    · exact fr a ha
theorem RpL.ints {K : PySem.W.Frag} {H : Hp} {io : List Addr} : ∀ {ds : List D} {vs : List V} {os : List Addr} {zs : List Int}, RpL K H io ds vs os → intsOf ds = some zs → vs = zs.map V.int
  | _, _, _, _, .nil, e => by cases e; rfl
  | _, _, _, _, .cons (ds := ds) h r, e => by
    cases h <;> first | cases e | skip
    rename_i z
    have e' : (intsOf ds).map (z :: ·) = some _ := e
    cases hi : intsOf ds with
    | none => rw [hi] at e'; cases e'
    | some ys =>
      rw [hi] at e'
      cases e'
      rw [r.ints hi]; rfl
/-- the new list lies in the store -/
theorem de_box {es : List Expr} {pos : Pos} {fs : List Ev} (h : PA X es (tAV X.K fs)) (hz : fs.length ≤ sizeLine) : PE X (.List es pos) (tV X.K (eBox fs)) :=
  PE_wk (pe_lst h) fun σ H Q ⟨io, b, r, oss, S, d, b', e, q⟩ => by
    obtain ⟨ds, b1, e1, e2⟩ := bnd_some e
    cases hi : intsOf ds with
    | none => rw [hi] at e2; cases e2
    | some zs =>
      rw [hi] at e2
      cases e2
      refine ⟨io, b, r, oss, S, ds, _, e1, fun vs H1 io1 os k1 S1 rl n fr => ⟨by rw [← rl.length, evs_len e1]; exact hz, fun p hp => ?_⟩⟩
      obtain rfl := rl.ints hi
      have nio : p ∉ io1 := S1.bl.fresh hp
      have k2 : Kp io1 H1 (io1 ++ [p]) (upd H1 p (.lst (zs.map V.int))) := ⟨fun a o e _ => ext_upd hp a o e, List.prefix_append _ _, fun a ha hn => by
        rcases List.mem_append.mp ha with z | z
        · exact absurd z hn
        · obtain rfl := List.mem_singleton.mp z
          exact hp⟩
      have S2 : SR X.K (io1 ++ [p]) (b1 ++ [zs]) r oss σ (upd H1 p (.lst (zs.map V.int))) := by
        refine ⟨by simp [S1.len], fun n a ys ha hy => ?_, ?_, S1.sl.keep k2 S1.bl, S1.od⟩
        · by_cases hn : n < io1.length
          · rw [List.getElem?_append_left hn] at ha
            rw [List.getElem?_append_left (S1.len ▸ hn)] at hy
            exact ext_upd hp _ _ (S1.bx n a ys ha hy)
          · have hn' : n = io1.length := by
              have := (List.getElem?_eq_some_iff.mp ha).1
              simp at this
              omega
            subst hn'
            simp at ha
            rw [S1.len] at hy
            simp at hy
            subst ha hy
            exact upd_same
        · refine List.nodup_append.mpr ⟨S1.nd, List.nodup_cons.mpr ⟨fun z => (nomatch z), List.nodup_nil⟩, fun a ha c hc z => ?_⟩
          obtain rfl := List.mem_singleton.mp hc
          exact nio (z ▸ ha)
      exact q _ _ (io1 ++ [p]) [] (k1.trans k2 S.bl) S2 (.box (by rw [← S1.len]; simp)) List.nodup_nil nil_all

/-! ### name[i] = e -/
theorem SR.updBox {K : PySem.W.Frag} {io : List Addr} {b : Bx} {r : Env} {oss : List (List Addr)} {σ : St} {H : Hp} {n : Nat} {a : Addr} {zs : List Int} (S : SR K io b r oss σ H) (ha : io[n]? = some a) : SR K io (b.set n zs) r oss σ (L2.upd H a (.lst (zs.map V.int))) := by
  have hm := List.mem_of_getElem? ha
  have m : Mut (H a) := by
    obtain ⟨vs, e⟩ := S.bl a hm
    rw [e]; trivial
  refine ⟨by rw [List.length_set]; exact S.len, fun j c ys e1 e2 => ?_, S.nd, S.sl.upd m fun z => (S.sl.ownd S.bl a z).1 hm, S.od⟩
  by_cases hj : j = n
  · subst hj
    rw [ha] at e1
    cases e1
    have hl : j < b.length := by
      have := (List.getElem?_eq_some_iff.mp e2).1
      simpa using this
    rw [List.getElem?_set_self hl] at e2
    cases e2
    exact upd_same
  · rw [List.getElem?_set_ne (fun z => hj z.symm)] at e2
    refine upd_oth (S.bx j c ys e1 e2) fun z => ?_
    subst z
    obtain ⟨h1, g1⟩ := List.getElem?_eq_some_iff.mp ha
    obtain ⟨h2, g2⟩ := List.getElem?_eq_some_iff.mp e1
    exact hj ((List.getElem_inj S.nd).mp (g2.trans g1.symm))
/-- box[k] = e, the box not its name's own -/
def sBSet (i : Nat) (g f : Ev) : Sv := fun r => bnd (f r) fun x => bnd (g r) fun y => match r[i]?, x, y with
  | some (.sh (.box n)), .int z, .int k => fun b => match b[n]? with
    | some zs => match ixN zs.length k with
      | some j => some ((.nx, r), b.set n (zs.set j z))
      | none => none
    | none => none
  | _, _, _ => fail
theorem ds_bset {i : Nat} {x : Str} {ei ev : Expr} {f g : Ev} {npos spos pos : Pos} (hN : X.N[i]? = some x) (hv : Vis X.env.scope x) (hd : (x == ("__debug__" : Str)) = false) (hcd : (x == ("__classdict__" : Str)) = false) (hi : PE X ei (tM X.K false g)) (he : PE X ev (tM X.K false f))
    (ha : ∀ v, assign (.Subscript (.Name x npos) ei spos) X.env v = (do
      let ov ← holding [v] (eval (.Name x npos) X.env)
      let iv ← holding [v, ov] (eval ei X.env)
      standAt spos
      holding [v, ov, iv] (setItem ov iv v)
      release [v, ov, iv] []))
    (hs : swapsWithSole [.Subscript (.Name x npos) ei spos] ev pos.line X.env = pure false) (hw : swappedStores [.Subscript (.Name x npos) ei spos] ev X.env = pure none) (h1 : (assignEach [.Subscript (.Name x npos) ei spos] X.env).map (·.2) = [assign (.Subscript (.Name x npos) ei spos) X.env]) :
    PS X (.Assign [.Subscript (.Name x npos) ei spos] ev pos) (tD X.K (sBSet i g f)) :=
  PS_wk (ps_asg he (pg_sub (pe_var hN hv hd hcd) hi set_list ha) hs hw h1) fun D σ H ⟨io0, H0, io, b, r, oss, A, fl, r', b', e, q⟩ => by
    obtain ⟨dx, b1, e1, e2⟩ := bnd_some e
    obtain ⟨dy, b2, e3, e4⟩ := bnd_some e2
    refine ⟨io, b, r, oss, A.sr, dx, b1, e1, fun v H1 io1 os k1 S1 rx _ => ?_⟩
    cases hr : r[i]? with
    | none => rw [hr] at e4; cases e4
    | some sl =>
      rw [hr] at e4
      rcases S1.sl.get hr with rfl | ⟨d0, w, rfl, hv, hx⟩ | ⟨d0, w, ps, rfl, hv, _, hx⟩
      · cases e4
      · cases d0 <;> first | cases e4 | skip
        cases dx <;> first | cases e4 | skip
        cases dy <;> first | cases e4 | skip
        rename_i n z _ k
        dsimp only at e4
        cases hz : b2[n]? with
        | none => rw [hz] at e4; cases e4
        | some zs =>
          rw [hz] at e4
          dsimp only at e4
          cases hj : ixN zs.length k with
          | none => rw [hj] at e4; cases e4
          | some j =>
            rw [hj] at e4
            cases e4
            cases rx
            refine ⟨w, hv, io1, b1, r, oss, S1, _, b2, e3, fun y H2 io2 qs k2 S2 ry _ => ?_⟩
            cases ry
            cases hx.keep k2 S1.bl with
            | box hn =>
              rename_i a
              have hA := S2.bx n a zs hn hz
              refine ⟨a, zs.map V.int, k, j, rfl, rfl, hA, by rw [List.length_map]; exact hj, ?_⟩
              have k12 := k1.trans k2 A.sr.bl
              have hset : (zs.map V.int).set j (.int z) = (zs.set j z).map V.int := by rw [List.map_set]
              rw [hset]
              have m : Mut (H2 a) := by rw [hA]; trivial
              have hm := List.mem_of_getElem? hn
              refine q σ _ io2 oss (S2.updBox hn) ?_ ((k12.kf A.sr.bl).trans (Kf.upd m)) A.fr
              have kk := A.kp.trans k12 A.bl
              refine ⟨fun c o e nc => ?_, kk.pre, kk.new⟩
              by_cases hc : c = a
              · subst hc
                have := kk.new c hm nc
                rw [e] at this; cases this
              · rw [upd_ne hc]; exact kk.keep c o e nc
      · cases e4

/-! ### what a name holds, given to all ahead of a statement -/
theorem SR.give {K : PySem.W.Frag} {io : List Addr} {b : Bx} {r : Env} {oss : List (List Addr)} {σ : St} {H H' : Hp} {i : Nat} {d : D} {v : V} {os : List Addr} (S : SR K io b r oss σ H) (hr : r[i]? = some (.ow d)) (hv : σ[i]? = some (some v)) (ho : oss[i]? = some os) (hx : Rp K H io d v os) (f : Fz os H H') : SR K io b (HF.give r i) (oss.set i []) σ H' := by
  have go : ∀ {r : Env} {σ : St} {oss : List (List Addr)} {i : Nat}, RpE K H io r σ oss → oss.flatten.Nodup → r[i]? = some (.ow d) → σ[i]? = some (some v) → oss[i]? = some os → RpE K H' io (r.set i (.sh (share d))) σ (oss.set i []) := by
    intro r σ oss i R
    induction R generalizing i with
    | nil => intro _ h; simp at h
    | no R ih =>
      intro n h h2 h3
      cases i with
      | zero => simp at h
      | succ i =>
        rw [List.flatten_cons] at n
        exact .no (ih (List.nodup_append.mp n).2.1 (by simpa using h) (by simpa using h2) (by simpa using h3))
    | sh x R ih =>
      intro n h h2 h3
      cases i with
      | zero => simp at h
      | succ i =>
        rw [List.flatten_cons] at n
        exact .sh (x.fzo f fun _ z => nomatch z) (ih (List.nodup_append.mp n).2.1 (by simpa using h) (by simpa using h2) (by simpa using h3))
    | ow x R ih =>
      intro n h h2 h3
      rw [List.flatten_cons] at n
      obtain ⟨n1, n2, n3⟩ := List.nodup_append.mp n
      cases i with
      | zero =>
        simp at h2 h3
        subst h2 h3
        exact .sh (hx.fz f fun _ z => z) (R.fzo f fun a ha hm => n3 a hm a ha rfl)
      | succ i =>
        exact .ow (x.fzo f fun a ha hm => n3 a ha a ((mem_flat (i := i) (by simpa using h3)).1 a hm) rfl) (ih n2 (by simpa using h) (by simpa using h2) (by simpa using h3))
  have mo := (mem_flat ho).1
  have hg : HF.give r i = r.set i (.sh (share d)) := by unfold HF.give; rw [hr]
  rw [hg]
  exact ⟨S.len, fun n a zs e1 e2 => f.kp (S.bx n a zs e1 e2) fun hm => (hx.ownd S.bl a hm).1 (List.mem_of_getElem? e1), S.nd, go S.sl S.od hr hv ho, nodup_set_flat List.nodup_nil S.od fun _ h => nomatch h⟩
/-- one name's -/
theorem at_give {K : PySem.W.Frag} {pins : List (Addr × Obj)} {s : Shared} {io0 io : List Addr} {H0 H : Hp} {b : Bx} {r : Env} {oss : List (List Addr)} {σ : St} (hK : X.K = K) (I : Inv X pins σ H s) (A : At K io0 H0 io b r oss σ H) (i : Nat) : ∃ H' oss', Inv X pins σ H' s ∧ At K io0 H0 io b (HF.give r i) oss' σ H' ∧ Kf io H io H' := by
  have same : HF.give r i = r → ∃ H' oss', Inv X pins σ H' s ∧ At K io0 H0 io b (HF.give r i) oss' σ H' ∧ Kf io H io H' := fun e => ⟨H, oss, I, by rw [e]; exact A, Kf.refl _ _⟩
  cases hr : r[i]? with
  | none => exact same (by unfold HF.give; rw [hr])
  | some sl =>
    rcases A.sr.sl.get hr with rfl | ⟨d, v, rfl, _, _⟩ | ⟨d, v, os, rfl, hv, ho, hx⟩
    · exact same (by unfold HF.give; rw [hr])
    · exact same (by unfold HF.give; rw [hr])
    · obtain ⟨mo, no⟩ := mem_flat ho
      have ow := hx.ownd A.sr.bl
      obtain ⟨H', I', f⟩ := inv_fz I (no A.sr.od) fun a ha => (ow a ha).2
      refine ⟨H', oss.set i [], I', ⟨A.sr.give hr hv ho hx f, ⟨fun c o e n => ?_, A.kp.pre, A.kp.new⟩, A.bl, fun a ha => (mem_set_flat ha).elim (fun z => nomatch z) (A.fr a)⟩, f.kf⟩
      exact f.kp (A.kp.keep c o e n) fun hm => by rw [A.fr c (mo c hm)] at e; cases e
theorem ds_pre {st : Stmt} {is : List Nat} {f : Sv} (h : PS X st (tD X.K f)) : PS X st (tD X.K (sPre is f)) := by
  refine ⟨fun pins s σ H D I ⟨io0, H0, io, b, r, oss, A, fl, r', b', e, q⟩ => ?_⟩
  have all : ∀ (is : List Nat) {H : Hp} {r : Env} {oss : List (List Addr)}, Inv X pins σ H s → At X.K io0 H0 io b r oss σ H → ∃ H' oss', Inv X pins σ H' s ∧ At X.K io0 H0 io b (gives r is) oss' σ H' ∧ Kf io H io H' := by
    intro is
    induction is with
    | nil => exact fun {H r oss} I A => ⟨H, oss, I, A, Kf.refl _ _⟩
    | cons i is ih =>
      intro H r oss I A
      obtain ⟨H1, o1, I1, A1, k1⟩ := at_give rfl I A i
      obtain ⟨H2, o2, I2, A2, k2⟩ := ih I1 A1
      exact ⟨H2, o2, I2, A2, k1.trans k2⟩
  obtain ⟨H1, o1, I1, A1, k1⟩ := all is I A
  exact h.run pins s σ H1 D I1 ⟨io0, H0, io, b, _, o1, A1, fl, r', b', e, q.mono k1⟩
end
end HF

/-! HF: built-ins. -/
namespace HF
open PySem PySem.Spec L2
open PyProof.Rows hiding St
abbrev Giv (K : PySem.W.Frag) (io : List Addr) (H : Hp) (d : D) (Q : VK) : Prop := ∀ v H' qs, (∀ a o, H a = some o → H' a = some o) → Rp K H' io d v qs → qs.Nodup → (∀ a ∈ qs, H a = none) → Q v H'
theorem OpN.one {K : PySem.W.Frag} {md : Bool} {op : D → Option D} {r : List V → Hp → VK → Prop} (h : ∀ (io : List Addr) (H : Hp) (x : V) (dx d : D) (os : List Addr) (Q : VK), BL io H → Rp K H io dx x os → (md = true → stillIn dx = true) → op dx = some d → Giv K io H d Q → r [x] H Q) : OpN K md (n1 op) r := by
  intro io H xs ds d os Q bl rl m e q
  match ds, e, rl, m with
  | [dx], e, rl, m =>
    obtain ⟨v, ws, o1, o2, rfl, rfl, x, r'⟩ := rl.consI
    obtain rfl := r'.zero
    exact h io H v dx d o1 Q bl x (fun z => m z dx List.mem_cons_self) e q
theorem OpN.two {K : PySem.W.Frag} {md : Bool} {op : D → D → Option D} {r : List V → Hp → VK → Prop} (h : ∀ (io : List Addr) (H : Hp) (x y : V) (dx dy d : D) (os ps : List Addr) (Q : VK), BL io H → Rp K H io dx x os → Rp K H io dy y ps → (md = true → stillIn dx = true ∧ stillIn dy = true) → op dx dy = some d → Giv K io H d Q → r [x, y] H Q) : OpN K md (n2 op) r := by
  intro io H xs ds d os Q bl rl m e q
  match ds, e, rl, m with
  | [dx, dy], e, rl, m =>
    obtain ⟨v, ws, o1, o2, rfl, rfl, x, r'⟩ := rl.consI
    obtain ⟨w, ws, o2, o3, rfl, rfl, y, r'⟩ := r'.consI
    obtain rfl := r'.zero
    exact h io H v w dx dy d o1 o2 Q bl x y (fun z => ⟨m z dx List.mem_cons_self, m z dy (List.mem_cons_of_mem _ List.mem_cons_self)⟩) e q
section
variable {X : Cx}
theorem de_callT {x : Str} {T : String} {p pos : Pos} {e : Expr} {es : List Expr} {md : Bool} {fs : List Ev} {op : List D → Option D} {r : List V → Hp → VK → Prop} (ho : OpN X.K md op r) (hr : CallR X (.type T) r) (hg : Gl X x) (hm : X.mg x = none) (hv : bootBuiltins x = some (.type T))
    (ha : PA X (e :: es) (tAM X.K md fs)) (hn : x ≠ "__name__") (hd : (x == ("__debug__" : Str)) = false) (hs : starEach (e :: es) X.env = (false, eval e X.env) :: starEach es X.env) (hst : (backTo pos (starEach es X.env)).any (·.1) = false) : PE X (.Call (.Name x p) (e :: es) [] pos) (tV X.K (eN op fs)) :=
  de_n ho ha fun t h => pe_callTy hr hg hm hv h hn hd hs hst

/-! ### len, abs, int, min, max -/
def rLen (K : PySem.W.Frag) : List V → Hp → VK → Prop := fun xs H Q => (∃ x n, xs = [x] ∧ LenV K x H n ∧ Q (.int n) H) ∨ ∃ a kvs, xs = [V.ref a] ∧ Rd H a (.dK kvs) ∧ Q (.int kvs.length) H
theorem cr_len : CallR X (.builtin "len") (rLen X.K) := by
  intro pins s σ H xs us Q I r h
  rcases h with h | ⟨a, kvs, rfl, ha, q⟩
  · exact call_len pins s σ H xs us Q I r h
  · obtain ⟨u, rfl, ru⟩ := vals1 r
    cases ru
    exact d_len I ha fun t s' I' => ⟨.int kvs.length, H, I', ⟨t, rfl⟩, q⟩
theorem o_len : OpN X.K false (n1 oLen) (rLen X.K) := OpN.one fun io H x dx d os Q bl rx _ e q => by
  cases dx <;> first | cases e | skip
  · rename_i z _
    unfold oLen at e
    dsimp only at e
    split at e
    · rename_i hl
      cases e
      obtain ⟨rfl, _⟩ := rx.str_inv
      exact .inl ⟨_, z.length, rfl, ⟨hl, rfl⟩, give_int rfl q⟩
    · cases e
  · obtain ⟨a, vs, ps, rfl, hl, rl, _⟩ := rx.lst_inv
    exact .inl ⟨_, vs.length, rfl, .inl ⟨vs, .inl hl, rfl⟩, by rw [← rl.length]; exact give_int rfl q⟩
  · obtain ⟨a, vs, rfl, hl, rl⟩ := rx.tup_inv
    exact .inl ⟨_, vs.length, rfl, .inr ⟨vs, hl, rfl⟩, by rw [← rl.length]; exact give_int rfl q⟩
  · obtain ⟨a, k, ps, rfl, hl, rl⟩ := rx.dct_inv
    exact .inr ⟨a, k, rfl, hl, by have h := rl.len; rw [List.length_map] at h; rw [← h]; exact give_int rfl q⟩
  · cases rx with
    | scr hk => exact .inl ⟨_, _, rfl, .inl ⟨_, hk.sq, rfl⟩, by rw [List.length_map]; exact give_int rfl q⟩
theorem o_abs {K : PySem.W.Frag} : OpN K false (n1 oAbs) (fun xs H Q => ∃ i, xs = [.int i] ∧ Q (.int (if i < 0 then -i else i)) H) := OpN.one fun io H x dx d os Q bl rx _ e q => by
  cases dx <;> first | cases e | skip
  exact ⟨_, by rw [rx.int_inv], give_int rfl q⟩
theorem o_int {K : PySem.W.Frag} : OpN K false (n1 oInt) (fun xs H Q => (∃ i, xs = [.int i] ∧ Q (.int i) H) ∨ ∃ k, xs = [.bl k] ∧ Q (.int (if k then 1 else 0)) H) := OpN.one fun io H x dx d os Q bl rx _ e q => by
  cases dx <;> first | cases e | skip
  · exact .inr ⟨_, by rw [rx.bl_inv], give_int rfl q⟩
  · exact .inl ⟨_, by rw [rx.int_inv], give_int rfl q⟩
theorem o_min2 {K : PySem.W.Frag} : OpN K false (n2 oMin2) (fun xs H Q => ∃ i j, xs = [.int i, .int j] ∧ Q (.int (if j < i then j else i)) H) := OpN.two fun io H x y dx dy d os ps Q bl rx ry _ e q => by
  cases dx <;> first | cases e | skip
  cases dy <;> first | cases e | skip
  exact ⟨_, _, by rw [rx.int_inv, ry.int_inv], give_int rfl q⟩
theorem o_max2 {K : PySem.W.Frag} : OpN K false (n2 oMax2) (fun xs H Q => ∃ i j, xs = [.int i, .int j] ∧ Q (.int (if j > i then j else i)) H) := OpN.two fun io H x y dx dy d os ps Q bl rx ry _ e q => by
  cases dx <;> first | cases e | skip
  cases dy <;> first | cases e | skip
  exact ⟨_, _, by rw [rx.int_inv, ry.int_inv], give_int rfl q⟩
/-! ### list, tuple -/
theorem o_list : OpN X.K true (n1 oList) (fun xs H Q => ∃ p ys, xs = [.ref p] ∧ (SqL X.K H p ys ∨ SqT X.K H p ys) ∧ ∀ l, H l = none → Q (.ref l) (upd H l (.lst ys))) := OpN.one fun io H x dx d os Q bl rx m e q => by
  cases dx <;> first | cases e | skip
  · obtain ⟨a, vs, rfl, hl, rl⟩ := rx.lst_still (m rfl)
    exact ⟨a, vs, rfl, .inl (.inl hl), give_lst bl rfl rl q⟩
  · obtain ⟨a, vs, rfl, hl, rl⟩ := rx.tup_still (m rfl)
    exact ⟨a, vs, rfl, .inr hl, give_lst bl rfl rl q⟩
theorem o_tuple : OpN X.K true (n1 oTuple) (rTup X.K) := OpN.one fun io H x dx d os Q bl rx m e q => by
  cases dx <;> first | cases e | skip
  · obtain ⟨a, vs, rfl, hl, rl⟩ := rx.lst_still (m rfl)
    exact ⟨a, vs, rfl, .inl ⟨.inl hl, give_tup bl rfl rl q⟩⟩
  · obtain ⟨a, vs, ex, hl, rl⟩ := rx.tup_still (m rfl)
    exact ⟨a, vs, by rw [ex], .inr ⟨hl, give_old (by rw [← ex]; exact rx.still0 (m rfl)) q⟩⟩
/-! ### all, any, sum -/
theorem RpL.bls {K : PySem.W.Frag} {H : Hp} {io : List Addr} : ∀ {ds : List D} {vs : List V} {os : List Addr} {bs : List Bool}, RpL K H io ds vs os → blsOf ds = some bs → vs = bs.map V.bl
  | _, _, _, _, .nil, e => by cases e; rfl
  | _, _, _, _, .cons (ds := ds) h r, e => by
    cases h <;> first | cases e | skip
    rename_i z
    have e' : (blsOf ds).map (z :: ·) = some _ := e
    cases hi : blsOf ds with
    | none => rw [hi] at e'; cases e'
    | some ys =>
      rw [hi] at e'
      cases e'
      rw [r.bls hi]; rfl
theorem o_all : OpN X.K false (n1 oAll) (rAll X.K) := OpN.one fun io H x dx d os Q bl rx m e q => by
  cases dx <;> first | cases e | skip
  rename_i o xs
  have e' : (blsOf xs).map (fun bs => D.bl (bs.all id)) = some d := e
  cases hb : blsOf xs with
  | none => rw [hb] at e'; cases e'
  | some bs =>
    rw [hb] at e'
    cases e'
    obtain ⟨a, vs, ps, rfl, hl, rl, _⟩ := rx.lst_inv
    obtain rfl := rl.bls hb
    exact ⟨a, bs, rfl, .inl hl, give_bl rfl q⟩
theorem o_any : OpN X.K false (n1 oAny) (rAny X.K) := OpN.one fun io H x dx d os Q bl rx m e q => by
  cases dx <;> first | cases e | skip
  rename_i o xs
  have e' : (blsOf xs).map (fun bs => D.bl (bs.any id)) = some d := e
  cases hb : blsOf xs with
  | none => rw [hb] at e'; cases e'
  | some bs =>
    rw [hb] at e'
    cases e'
    obtain ⟨a, vs, ps, rfl, hl, rl, _⟩ := rx.lst_inv
    obtain rfl := rl.bls hb
    exact ⟨a, bs, rfl, .inl hl, give_bl rfl q⟩
theorem o_sum : OpN X.K false (n1 oSum) (rSum X.K) := OpN.one fun io H x dx d os Q bl rx m e q => by
  cases dx <;> first | cases e | skip
  rename_i o xs
  have e' : (intsOf xs).map (fun bs => D.int bs.sum) = some d := e
  cases hb : intsOf xs with
  | none => rw [hb] at e'; cases e'
  | some bs =>
    rw [hb] at e'
    cases e'
    obtain ⟨a, vs, ps, rfl, hl, rl, _⟩ := rx.lst_inv
    obtain rfl := rl.ints hb
    exact ⟨a, bs, rfl, .inl hl, give_int rfl q⟩
/-! ### sorted of texts -/
def leS (a b : Str) : Bool := decide (a.cps.toList ≤ b.cps.toList)
def sortT (ys : List Str) : List Str := ys.mergeSort leS
def oSorted (x : D) : Option D := match x with
  | .lst _ xs => (strsOf xs).bind fun ys => if ys.length < 64 then some (.lst true ((sortT ys).map D.str)) else none
  | _ => none
theorem leS_of {a b : Str} (h : ltCps b.cps.toList a.cps.toList = false) : leS a b = true := by
  rw [ltCps_eq, decide_eq_false_iff_not] at h
  exact decide_eq_true h
theorem leS_trans (a b c : Str) (h1 : leS a b = true) (h2 : leS b c = true) : leS a c = true := decide_eq_true (List.le_trans (of_decide_eq_true h1) (of_decide_eq_true h2))
theorem leS_total (a b : Str) : (leS a b || leS b a) = true := by
  rw [Bool.or_eq_true]
  rcases List.le_total a.cps.toList b.cps.toList with h | h
  · exact .inl (decide_eq_true h)
  · exact .inr (decide_eq_true h)
theorem leS_anti {a b : Str} (h1 : leS a b = true) (h2 : leS b a = true) : a = b := by
  have := List.le_antisymm (of_decide_eq_true h1) (of_decide_eq_true h2)
  cases a; cases b
  simp at this
  rw [this]
theorem rising_le : ∀ {l : List Str} {p : Str}, risingS p l = true → (p :: l).Pairwise fun a b => leS a b = true
  | [], _, _ => List.pairwise_cons.mpr ⟨nil_all, .nil⟩
  | x :: r, p, h => by
    unfold risingS at h
    rw [Bool.and_eq_true, Bool.not_eq_true'] at h
    have ih := rising_le h.2
    have px := leS_of h.1
    refine List.pairwise_cons.mpr ⟨fun y hy => ?_, ih⟩
    rcases List.mem_cons.mp hy with rfl | hy
    · exact px
    · exact leS_trans _ _ _ px ((List.pairwise_cons.mp ih).1 y hy)
theorem sortT_of {xs ys : List Str} (p : ys.Perm xs) (h : sortedS ys = true) : ys = sortT xs := by
  refine List.Perm.eq_of_pairwise (le := fun a b => leS a b = true) (fun a b _ _ => leS_anti) ?_ (List.pairwise_mergeSort leS_trans leS_total xs) (p.trans (List.mergeSort_perm xs leS).symm)
  cases ys with
  | nil => exact .nil
  | cons x r => exact rising_le h
theorem RpL.strs {K : PySem.W.Frag} {H : Hp} {io : List Addr} : ∀ {ds : List D} {vs : List V} {os : List Addr} {bs : List Str}, RpL K H io ds vs os → strsOf ds = some bs → vs = bs.map V.str ∧ ∀ b ∈ bs, PyData.strOk b = true
  | _, _, _, _, .nil, e => by cases e; exact ⟨rfl, nil_all⟩
  | _, _, _, _, .cons (ds := ds) h r, e => by
    cases h <;> first | cases e | skip
    rename_i z hz
    have e' : (strsOf ds).map (z :: ·) = some _ := e
    cases hi : strsOf ds with
    | none => rw [hi] at e'; cases e'
    | some ys =>
      rw [hi] at e'
      cases e'
      obtain ⟨h1, h2⟩ := r.strs hi
      rw [h1]
      exact ⟨rfl, fun b hb => (List.mem_cons.mp hb).elim (fun q => q ▸ hz) (h2 b)⟩
theorem RpL.ofStrs {K : PySem.W.Frag} {H : Hp} {io : List Addr} : ∀ {ys : List Str}, (∀ b ∈ ys, PyData.strOk b = true) → RpL K H io (ys.map D.str) (ys.map V.str) []
  | [], _ => .nil
  | y :: ys, h => .cons (os := []) (ps := []) (.str (h y List.mem_cons_self)) (RpL.ofStrs fun b hb => h b (List.mem_cons_of_mem _ hb))
theorem o_sorted : OpN X.K false (n1 oSorted) (rSortedS X.K) := OpN.one fun io H x dx d os Q bl rx m e q => by
  cases dx <;> first | cases e | skip
  rename_i o xs
  have e' : (strsOf xs).bind (fun ys => if ys.length < 64 then some (D.lst true ((sortT ys).map D.str)) else none) = some d := e
  cases hb : strsOf xs with
  | none => rw [hb] at e'; cases e'
  | some ys =>
    rw [hb] at e'
    simp only [Option.bind_some] at e'
    split at e'
    · rename_i hl
      cases e'
      obtain ⟨a, vs, ps, rfl, hl', rl, _⟩ := rx.lst_inv
      obtain ⟨rfl, hok⟩ := rl.strs hb
      refine ⟨a, ys, rfl, .inl hl', hl, fun zs p hp hs h0 => ?_⟩
      obtain rfl := sortT_of hp hs
      exact give_lst bl rfl (RpL.ofStrs fun b hb' => hok b (hp.subset hb')) q p h0
    · cases e'
/-! ### isinstance -/
def Ty.nm : Ty → String
  | .tstr => "str" | .tint => "int" | .tbool => "bool" | .tlist => "list" | .ttuple => "tuple" | .tdict => "dict"
def tyOf : D → Option String
  | .non => some "NoneType"
  | .bl _ => some "bool"
  | .int _ => some "int"
  | .str _ => some "str"
  | .lst _ _ => some "list"
  | .tup _ => some "tuple"
  | .dct _ _ => some "dict"
  | _ => none
theorem Rp.tyX {K : PySem.W.Frag} {H : Hp} {io : List Addr} {d : D} {v : V} {os : List Addr} {n : String} (h : Rp K H io d v os) (e : tyOf d = some n) : TyX K H v (.type n) := by
  cases h with
  | non => cases e; exact .base .non
  | bl b => cases e; exact .base (.bl _)
  | int z => cases e; exact .base (.int _)
  | str h => cases e; exact .base (.str _)
  | lstS hl r =>
    cases e
    obtain ⟨o, h⟩ := hl
    exact .base (.frz h)
  | lstO h n r => cases e; exact .base (.lst h)
  | tup h r =>
    cases e
    rcases h with ⟨o, _, h⟩ | ⟨o, its, n, hk, hc, _⟩
    · exact .fTuple h
    · exact .kTuple hk hc
  | dctS h e1 r =>
    cases e
    obtain ⟨k, rfl, _⟩ := e1
    exact .fDict h
  | dctO h e1 r =>
    cases e
    obtain ⟨k, rfl, _⟩ := e1
    exact .base (.dK h)
  | box _ => cases e
  | scr _ => cases e
theorem kit_dec (K : PySem.W.Frag) (d : D) (n : String) (t : Ty) (b : Bool) (e : tyOf d = some n) (h : isTy d t = some b) : PySem.W.kitOne K (.type n) (.type t.nm) = some b := by
  cases d <;> cases e <;> cases t <;> cases h <;> rfl
end
section
variable {X : Cx}
theorem kit_any (K : PySem.W.Frag) (d : D) (n : String) (e : tyOf d = some n) : ∀ (ts : List Ty) (r : D), oIsi ts d = some r → ∃ b, r = .bl b ∧ PySem.W.kitAny K (.type n) (ts.map fun t => Value.type t.nm) = some b
  | [], r, h => by cases h; exact ⟨false, rfl, rfl⟩
  | t :: ts, r, h => by
    unfold oIsi at h
    cases hb : isTy d t with
    | none => rw [hb] at h; cases h
    | some b =>
      rw [hb] at h
      have k := kit_dec K d n t b e hb
      rw [List.map_cons]
      unfold PySem.W.kitAny
      cases b with
      | true => cases h; exact ⟨true, rfl, by rw [k]⟩
      | false =>
        obtain ⟨b2, h1, h2⟩ := kit_any K d n e ts r h
        exact ⟨b2, h1, by rw [k]; exact h2⟩
theorem tyOf_isi {d r : D} {t : Ty} {ts : List Ty} (h : oIsi (t :: ts) d = some r) : ∃ n, tyOf d = some n := by
  cases d <;> first | exact ⟨_, rfl⟩ | cases h
theorem Rp.oldTup {K : PySem.W.Frag} {H : Hp} {io : List Addr} {d : D} {v : V} {os : List Addr} {p : Addr} {xs : List V} (h : Rp K H io d v os) (bl : BL io H) (hp : H p = none) : Rp K (L2.upd H p (.tup xs)) io d v os := h.keep (Kp.of (ext_upd hp)) bl
/-- isinstance(e, T) -/
theorem de_isi {a : Expr} {f : Ev} {p p2 pos : Pos} {x : Str} (t : Ty) (hg : Gl X "isinstance") (hm : X.mg "isinstance" = none) (hv : bootBuiltins "isinstance" = some (.builtin "isinstance")) (gx : Gl X x) (mx : X.mg x = none) (vx : bootBuiltins x = some (.type t.nm)) (ha : PE X a (tM X.K false f))
    (hd : (x == ("__debug__" : Str)) = false) (hn : x ≠ "__name__") (hs : starEach [a, .Name x p2] X.env = (false, eval a X.env) :: starEach [.Name x p2] X.env) (hs2 : starEach [.Name x p2] X.env = (false, eval (.Name x p2) X.env) :: starEach [] X.env) (hpl : (backTo pos (starEach [.Name x p2] X.env)).any (·.1) = false) :
    PE X (.Call (.Name "isinstance" p) [a, .Name x p2] [] pos) (tV X.K (e1 (oIsi [t]) f)) :=
  PE_wk (pe_callB call_isi hg hm hv (pa_cons ha (pa_cons (pe_bltn (v := V.ty t.nm) gx mx vx rfl hn hd) pa_nil hs2) hs) (by decide) (by decide) hs hpl) fun σ H Q ⟨io, b, r, oss, S, d, b', e, q⟩ => by
    obtain ⟨dx, b1, e1, e2⟩ := bnd_some e
    obtain ⟨e3, e4⟩ := lift_some e2
    replace e3 : oIsi [t] dx = some d := e3
    replace e4 : b' = b1 := e4
    subst e4
    refine ⟨io, b, r, oss, S, dx, _, e1, fun v H1 io1 os k1 S1 rx _ => ?_⟩
    obtain ⟨n, hn⟩ := tyOf_isi e3
    obtain ⟨c, rfl, hk⟩ := kit_any X.K dx n hn [t] d e3
    have hk' : PySem.W.kitOne X.K (.type n) (.type t.nm) = some c := by
      have hk : (match PySem.W.kitOne X.K (.type n) (.type t.nm) with
        | some true => some true
        | some false => some false
        | none => none) = some c := hk
      cases ho : PySem.W.kitOne X.K (.type n) (.type t.nm) with
      | none => rw [ho] at hk; cases hk
      | some y =>
        rw [ho] at hk
        cases y <;> exact hk
    exact ⟨v, .ty t.nm, .type n, .type t.nm, c, rfl, .ty _, rx.tyX hn, hk', q _ H1 io1 [] k1 S1 (.bl c) List.nodup_nil nil_all⟩
theorem TyX.keepN {K : PySem.W.Frag} {H : Hp} {io : List Addr} {d : D} {v : V} {os : List Addr} {n : String} (h : Rp K H io d v os) (e : tyOf d = some n) (bl : BL io H) {p : Addr} {xs : List V} (hp : H p = none) : TyX K (L2.upd H p (.tup xs)) v (.type n) := (h.oldTup bl hp).tyX e
/-- isinstance(e, (T, T')) -/
theorem de_isi2 {a : Expr} {f : Ev} {p p2 p3 p4 pos : Pos} {kk : Nat} {x y : Str} (t u : Ty) (hg : Gl X "isinstance") (hm : X.mg "isinstance" = none) (hv : bootBuiltins "isinstance" = some (.builtin "isinstance")) (gx : Gl X x) (mx : X.mg x = none) (vx : bootBuiltins x = some (.type t.nm)) (gy : Gl X y) (my : X.mg y = none) (vy : bootBuiltins y = some (.type u.nm)) (ha : PE X a (tM X.K false f))
    (hd : (x == ("__debug__" : Str)) = false) (hn : x ≠ "__name__") (hd' : (y == ("__debug__" : Str)) = false) (hn' : y ≠ "__name__")
    (hs : starEach [a, .Tuple [.Name x p2, .Name y p3] kk p4] X.env = (false, eval a X.env) :: starEach [.Tuple [.Name x p2, .Name y p3] kk p4] X.env) (hs2 : starEach [.Tuple [.Name x p2, .Name y p3] kk p4] X.env = (false, eval (.Tuple [.Name x p2, .Name y p3] kk p4) X.env) :: starEach [] X.env) (hpl : (backTo pos (starEach [.Tuple [.Name x p2, .Name y p3] kk p4] X.env)).any (·.1) = false)
    (hs3 : starEach [.Name x p2, .Name y p3] X.env = (false, eval (.Name x p2) X.env) :: starEach [.Name y p3] X.env) (hs4 : starEach [.Name y p3] X.env = (false, eval (.Name y p3) X.env) :: starEach [] X.env) :
    PE X (.Call (.Name "isinstance" p) [a, .Tuple [.Name x p2, .Name y p3] kk p4] [] pos) (tV X.K (e1 (oIsi [t, u]) f)) :=
  PE_wk (pe_callB call_isiT hg hm hv (pa_cons ha (pa_cons (pe_tup (pa_cons (pe_bltn (v := V.ty t.nm) gx mx vx rfl hn hd) (pa_cons (pe_bltn (v := V.ty u.nm) gy my vy rfl hn' hd') pa_nil hs4) hs3)) pa_nil hs2) hs) (by decide) (by decide) hs hpl) fun σ H Q ⟨io, b, r, oss, S, d, b', e, q⟩ => by
    obtain ⟨dx, b1, e1, e2⟩ := bnd_some e
    obtain ⟨e3, e4⟩ := lift_some e2
    replace e3 : oIsi [t, u] dx = some d := e3
    replace e4 : b' = b1 := e4
    subst e4
    refine ⟨io, b, r, oss, S, dx, _, e1, fun v H1 io1 os k1 S1 rx _ => ⟨(by show 2 ≤ sizeLine; decide), fun tp htp => ?_⟩⟩
    obtain ⟨n, hn⟩ := tyOf_isi e3
    obtain ⟨c, rfl, hk⟩ := kit_any X.K dx n hn [t, u] d e3
    have k2 : Kp io1 H1 io1 (upd H1 tp (.tup [.ty t.nm, .ty u.nm])) := Kp.of (ext_upd htp)
    exact ⟨v, tp, [.ty t.nm, .ty u.nm], .type n, [.type t.nm, .type u.nm], c, rfl, upd_same, .cons (.ty _) (.cons (.ty _) .nil), TyX.keepN rx hn S1.bl htp, hk, q _ _ io1 [] (k1.trans k2 S.bl) (S1.later (ext_upd htp)) (.bl c) List.nodup_nil nil_all⟩
end
end HF

/-! HF: chains of comparisons; methods. -/
namespace HF
open PySem PySem.Spec L2
open PyProof.Rows hiding St
section
variable {X : Cx}
theorem op_gtA : OpR X (compareOp .Gt) rGt := OpR.or op_gt op_gt_str
theorem chain_reads {K : PySem.W.Frag} {m1 m2 m3 : Bool} {f g h : Ev} {op op' : D → D → Option D} {r r' : R2} (h1 : Op2 K m1 m2 op r) (h2 : Op2 K m2 m3 op' r') {σ : St} {H : Hp} {Q : VK} (hq : tV K (eChain op op' f g h) σ H Q) : tChain r r' (tM K m1 f) (tM K m2 g) (tM K m3 h) σ H Q := by
    obtain ⟨io, b, r, oss, S, d, b', e, q⟩ := hq
    obtain ⟨dx, b1, e1, e2⟩ := bnd_some e
    obtain ⟨dy, b2, e3, e4⟩ := bnd_some e2
    obtain ⟨dz, b3, e5, e6⟩ := bnd_some e4
    obtain ⟨e7, e8⟩ := lift_some e5
    replace e7 : op dx dy = some dz := e7
    replace e8 : b3 = b2 := e8
    subst e8
    cases dz <;> first | cases e6 | skip
    rename_i k
    refine ⟨io, b, r, oss, S, dx, b1, e1, fun x H1 io1 os k1 S1 rx mx => ⟨io1, b1, r, oss, S1, dy, b3, e3, fun y H2 io2 ps k2 S2 ry my => ?_⟩⟩
    have k12 := k1.trans k2 S.bl
    refine h1 io2 H2 x y dx dy (.bl k) os ps _ S2.bl (rx.keep k2 S1.bl) ry mx my e7 fun v H3 qs k3 rv n fr => ⟨k, rv.bl_inv, ?_⟩
    have S3 := S2.later k3
    have k13 := k12.trans (Kp.of k3) S.bl
    cases k with
    | false =>
      rw [if_neg Bool.false_ne_true]
      cases e6
      exact q _ H3 io2 [] k13 S3 (.bl false) List.nodup_nil nil_all
    | true =>
      rw [if_pos rfl]
      obtain ⟨dw, b4, e9, e10⟩ := bnd_some e6
      obtain ⟨e11, e12⟩ := lift_some e10
      replace e11 : op' dy dw = some d := e11
      replace e12 : b' = b4 := e12
      subst e12
      refine ⟨io2, b3, r, oss, S3, dw, _, e9, fun w H4 io4 ws k4 S4 rw4 mw => ?_⟩
      have k14 := k13.trans k4 S.bl
      exact h2 io4 H4 y w dy dw d ps ws Q S4.bl ((ry.keep (Kp.of k3) S2.bl).keep k4 S3.bl) rw4 my mw e11 fun v H5 qs k5 rv n fr => q v H5 io4 qs (k14.trans (Kp.of k5) S.bl) (S4.later k5) rv n fun a ha => fresh_back k14 S4 (fr a ha)
theorem de_chain {a b c : Expr} {pos : Pos} {o o' : CmpOp} {m1 m2 m3 : Bool} {f g h : Ev} {op op' : D → D → Option D} {r r' : R2} (h1 : Op2 X.K m1 m2 op r) (h2 : Op2 X.K m2 m3 op' r') (hr : OpR X (compareOp o) r) (hr' : OpR X (compareOp o') r')
    (ha : PE X a (tM X.K m1 f)) (hb : PE X b (tM X.K m2 g)) (hc : PE X c (tM X.K m3 h)) (hm : lastMarks [o, o'] [b, c] = false) : PE X (.Compare a [o, o'] [b, c] pos) (tV X.K (eChain op op' f g h)) :=
  PE_wk (pe_chain hr hr' ha hb hc hm) fun σ H Q q => chain_reads h1 h2 q
theorem dt_chain {a b c : Expr} {pos : Pos} {o o' : CmpOp} {m1 m2 m3 : Bool} {f g h : Ev} {op op' : D → D → Option D} {r r' : R2} (h1 : Op2 X.K m1 m2 op r) (h2 : Op2 X.K m2 m3 op' r') (hr : OpR X (compareOp o) r) (hr' : OpR X (compareOp o') r')
    (ha : PE X a (tM X.K m1 f)) (hb : PE X b (tM X.K m2 g)) (hc : PE X c (tM X.K m3 h)) (hm : lastMarks [o, o'] [b, c] = false) : PT X (.Compare a [o, o'] [b, c] pos) (tT X.K (eChain op op' f g h)) :=
  PT_wk (pt_chain hr hr' ha hb hc hm) fun σ H Q q => chain_reads h1 h2 (tv_tt q)

/-! ### methods, by the make of the object -/
/-- the method of that name, of what stands there -/
def MAt (X : Cx) (nm : Str) (r : V → List V → Hp → VK → Prop) (x : V) (H : Hp) : Prop := ∃ T id, PlainAttrs T ∧ Slot T nm id ∧ typeOf (.builtin id) = pure (.type "method_descriptor") ∧ MtR X id r ∧
  ∀ (pins : List (Addr × Obj)) (σ : St) (s : Shared) (v : Value), Inv X pins σ H s → RelV x v → s.TypeIs v T ∧ ∀ a, v = .ref a → ∃ ob, s.heap.get? a = some ob ∧ ob.dict = none
def tMe (X : Cx) (nm : Str) (to : TE) (t : TA) : TE := fun σ H Q => to σ H fun x H1 => ∃ r, MAt X nm r x H1 ∧ t σ H1 fun xs H2 => r x xs H2 Q
theorem pe_me {o e : Expr} {es : List Expr} {to : TE} {t : TA} {name : Str} {apos cpos : Pos} (ho : PE X o to) (ha : PA X (e :: es) t) (hbase : attributeBase o name X.env (eval o X.env) = eval o X.env)
    (hfew : ((backTo cpos (starEach (e :: es) X.env)).all (fun x => !x.1) && (backToKw cpos (keywordEach [] X.env)).all (fun x => x.1.isSome) && decide ((e :: es).length + ([] : List Keyword).length + (if ([] : List Keyword).isEmpty then 0 else 1) < 30)) = true)
    (hline : (apos.endLine == cpos.line) = true) (hs : starEach (e :: es) X.env = (false, eval e X.env) :: starEach es X.env) (hplain : (backTo cpos (starEach es X.env)).any (·.1) = false) : PE X (.Call (.Attribute o name apos) (e :: es) [] cpos) (tMe X name to t) := by
  refine ⟨fun pins s σ H Q I h => ?_⟩
  refine wpAny_Call_method_late hbase hfew hline rfl (thn (ho.run pins s σ H _ I h) fun v s1 ⟨x, H1, I1, r1, r, ⟨T, id, pa, slot, hty, hm, ty⟩, q1⟩ => ?_)
  obtain ⟨h1, h2⟩ := ty pins σ s1 v I1 r1
  refine ⟨T, id, pa, slot, hty, h1, h2, ?_⟩
  have run := ha.run cpos pins s1 σ H1 _ I1 q1
  rw [hs] at run ⊢
  refine Calls.callWith_builtin (by show (false || (backTo cpos (starEach es X.env)).any (·.1)) = false; rw [hplain]; rfl) (Calls.evalArgs_plain ?_)
  exact thn run fun us s2 ⟨vs, H2, I2, r2, q2⟩ => hm pins s2 σ H2 x vs v us Q I2 r1 r2 q2
theorem ma_list {nm : Str} {id : String} {r : V → List V → Hp → VK → Prop} {a : Addr} {vs : List V} {H : Hp} (slot : Slot "list" nm id) (hty : typeOf (.builtin id) = pure (.type "method_descriptor")) (hm : MtR X id r) (h : SqL X.K H a vs) : MAt X nm r (.ref a) H :=
  ⟨"list", id, PySem.F.plainAttrs_list, slot, hty, hm, fun pins σ s v I rv => tyV_is I rv (.inl ⟨rfl, vs, h⟩)⟩
theorem ma_str {nm : Str} {id : String} {r : V → List V → Hp → VK → Prop} {z : Str} {H : Hp} (slot : Slot "str" nm id) (hty : typeOf (.builtin id) = pure (.type "method_descriptor")) (hm : MtR X id r) : MAt X nm r (.str z) H :=
  ⟨"str", id, PySem.F.plainAttrs_str, slot, hty, hm, fun pins σ s v I rv => tyV_is (T := "str") I rv rfl⟩
theorem ma_tup {nm : Str} {id : String} {r : V → List V → Hp → VK → Prop} {a : Addr} {vs : List V} {H : Hp} (slot : Slot "tuple" nm id) (hty : typeOf (.builtin id) = pure (.type "method_descriptor")) (hm : MtR X id r) (h : TQ X.K H a vs) : MAt X nm r (.ref a) H :=
  ⟨"tuple", id, PySem.F.plainAttrs_tuple, slot, hty, hm, fun pins σ s v I rv => by
    cases rv
    rcases h with ⟨ob, hd, h⟩ | ⟨o, its, n, hk, hc, hd, _⟩
    · obtain ⟨h0, _, _, _, o, h1, h2, h3⟩ := (show ObjOk X.prog X.w H s.heap a (.frz ob (.tup vs)) from I.hok a _ h)
      exact ⟨⟨o, h1, h2⟩, fun b e => by cases e; exact ⟨ob, h0, hd⟩⟩
    · exact ⟨⟨o, I.kIn a o hk, hc⟩, fun b e => by cases e; exact ⟨o, I.kIn _ o hk, hd⟩⟩⟩
end
end HF

/-! HF: index, join. -/
namespace HF
open PySem PySem.Spec L2
open PyProof.Rows hiding St
section
variable {X : Cx}
/-- a method of one argument, over plain data -/
def OpMt (X : Cx) (nm : Str) (op : D → D → Option D) : Prop := ∀ (io : List Addr) (H : Hp) (x : V) (dx dy d : D) (os : List Addr), Rp X.K H io dx x os → op dx dy = some d → ∃ r, MAt X nm r x H ∧
  ∀ (io2 : List Addr) (H2 : Hp) (y : V) (ps : List Addr) (Q : VK), BL io2 H2 → Rp X.K H2 io2 dx x os → Rp X.K H2 io2 dy y ps → Giv X.K io2 H2 d Q → r x [y] H2 Q
theorem de_m1 {o e : Expr} {f g : Ev} {name : Str} {apos cpos : Pos} {op : D → D → Option D} (hm : OpMt X name op) (ho : PE X o (tM X.K false f)) (ha : PE X e (tM X.K false g)) (hbase : attributeBase o name X.env (eval o X.env) = eval o X.env)
    (hfew : ((backTo cpos (starEach [e] X.env)).all (fun x => !x.1) && (backToKw cpos (keywordEach [] X.env)).all (fun x => x.1.isSome) && decide ([e].length + ([] : List Keyword).length + (if ([] : List Keyword).isEmpty then 0 else 1) < 30)) = true)
    (hline : (apos.endLine == cpos.line) = true) (hs : starEach [e] X.env = (false, eval e X.env) :: starEach [] X.env) (hplain : (backTo cpos (starEach [] X.env)).any (·.1) = false) : PE X (.Call (.Attribute o name apos) [e] [] cpos) (tV X.K (e2 op f g)) :=
  PE_wk (pe_me ho (pa_cons ha pa_nil hs) hbase hfew hline hs hplain) fun σ H Q ⟨io, b, r, oss, S, d, b', e, q⟩ => by
    obtain ⟨dx, b1, e1, e2⟩ := bnd_some e
    obtain ⟨dy, b2, e3, e4⟩ := bnd_some e2
    obtain ⟨e5, e6⟩ := lift_some e4
    replace e5 : op dx dy = some d := e5
    replace e6 : b' = b2 := e6
    subst e6
    refine ⟨io, b, r, oss, S, dx, b1, e1, fun x H1 io1 os k1 S1 rx _ => ?_⟩
    obtain ⟨rr, ma, run⟩ := hm io1 H1 x dx dy d os rx e5
    refine ⟨rr, ma, io1, b1, r, oss, S1, dy, _, e3, fun y H2 io2 ps k2 S2 ry _ => ?_⟩
    have k12 := k1.trans k2 S.bl
    exact run io2 H2 y ps Q S2.bl (rx.keep k2 S1.bl) ry fun v H3 qs k3 rv n fr => q v H3 io2 qs (k12.trans (Kp.of k3) S.bl) (S2.later k3) rv n fun a ha => fresh_back k12 S2 (fr a ha)
theorem firstIx_spec {p : D → Bool} : ∀ {xs : List D} {n : Nat}, firstIx p xs = some n → (∃ z, xs[n]? = some z ∧ p z = true) ∧ ∀ m z, m < n → xs[m]? = some z → p z = false
  | [], _, h => by cases h
  | x :: r, n, h => by
    unfold firstIx at h
    by_cases hp : p x = true
    · rw [if_pos hp] at h
      cases h
      exact ⟨⟨x, rfl, hp⟩, fun m z h => absurd h (Nat.not_lt_zero _)⟩
    · rw [if_neg hp] at h
      cases hr : firstIx p r with
      | none => rw [hr] at h; cases h
      | some k =>
        rw [hr] at h
        cases h
        obtain ⟨⟨z, h1, h2⟩, h3⟩ := firstIx_spec hr
        refine ⟨⟨z, by simpa using h1, h2⟩, fun m z hm hz => ?_⟩
        cases m with
        | zero => simp at hz; subst hz; simpa using hp
        | succ m => exact h3 m z (Nat.lt_of_succ_lt_succ hm) (by simpa using hz)
theorem firstIxS_spec {w : Str} : ∀ {xs : List Str} {n : Nat}, firstIxS w xs = some n → xs[n]? = some w ∧ ∀ m, m < n → xs[m]? ≠ some w
  | [], _, h => by cases h
  | x :: r, n, h => by
    unfold firstIxS at h
    by_cases hp : x = w
    · rw [if_pos hp] at h
      cases h
      exact ⟨by rw [hp]; rfl, fun m h => absurd h (Nat.not_lt_zero _)⟩
    · rw [if_neg hp] at h
      cases hr : firstIxS w r with
      | none => rw [hr] at h; cases h
      | some k =>
        rw [hr] at h
        cases h
        obtain ⟨h1, h3⟩ := firstIxS_spec hr
        refine ⟨by simpa using h1, fun m hm hz => ?_⟩
        cases m with
        | zero => simp at hz; exact hp hz
        | succ m => exact h3 m (Nat.lt_of_succ_lt_succ hm) (by simpa using hz)
theorem om_index (hu : X.A.units + 65 < cLine) : OpMt X "index" oIndex := by
  intro io H x dx dy d os rx e
  unfold oIndex at e
  cases dx <;> first | cases e | skip
  · rename_i o xs
    dsimp only at e
    split at e
    · rename_i hp
      rw [Bool.and_eq_true] at hp
      cases hn : firstIx (fun y => eqvD y dy) xs with
      | none => rw [hn] at e; cases e
      | some n =>
        rw [hn] at e
        cases e
        obtain ⟨⟨z, h1, h2⟩, h3⟩ := firstIx_spec hn
        obtain ⟨a, vs, ps, rfl, hl, rl, _⟩ := rx.lst_inv
        refine ⟨_, ma_list PySem.F.slot_list_index PySem.F.type_list_index (mt_indexD hu) (.inl hl), fun io2 H2 y qs Q bl rx2 ry q => ?_⟩
        have hp2 : plainD 40 (.lst o xs) = true := hp.2
        have a1 := rx2.dp 40 hp2
        have a2 := rx2.shaped hp2 (by decide)
        rw [toPD] at a1 a2
        refine ⟨a, y, toPD dy, toPDL xs, n, toPD z, rfl, rfl, a1, ry.dp 40 hp.1, a2, ry.shaped hp.1 (by decide), ?_, h2, fun m z' hm hz' => ?_, give_int rfl q⟩
        · rw [toPDL_eq, List.getElem?_map, h1]; rfl
        · rw [toPDL_eq, List.getElem?_map] at hz'
          cases hx : xs[m]? with
          | none => rw [hx] at hz'; cases hz'
          | some w =>
            rw [hx] at hz'
            cases hz'
            exact h3 m w hm hx
    · cases e
  · rename_i xs
    cases dy <;> first | cases e | skip
    rename_i w
    have e' : (strsOf xs).bind (fun ys => (firstIxS w ys).map fun n => D.int n) = some d := e
    cases hs : strsOf xs with
    | none => rw [hs] at e'; cases e'
    | some ys =>
      rw [hs] at e'
      simp only [Option.bind_some] at e'
      cases hn : firstIxS w ys with
      | none => rw [hn] at e'; cases e'
      | some n =>
        rw [hn] at e'
        cases e'
        obtain ⟨h1, h3⟩ := firstIxS_spec hn
        obtain ⟨a, vs, rfl, hl, rl⟩ := rx.tup_invQ
        refine ⟨_, ma_tup PySem.F.slot_tuple_index PySem.F.type_tuple_index mt_tup_index hl, fun io2 H2 y qs Q bl rx2 ry q => ?_⟩
        obtain ⟨a', vs', ea, hl', rl'⟩ := rx2.tup_inv
        cases ea
        obtain ⟨rfl, _⟩ := rl'.strs hs
        exact ⟨a, ys, w, n, rfl, by rw [ry.str_inv.1], hl', h1, h3, give_int rfl q⟩
theorem strOk_join {a : Str} (ha : PyData.strOk a = true) : ∀ {ys : List Str}, (∀ y ∈ ys, PyData.strOk y = true) → PyData.strOk (Str.join a ys) = true
  | [], _ => strOk_mk fun c hc => by simp [Str.join, Str.empty] at hc
  | [x], h => by show PyData.strOk x = true; exact h x List.mem_cons_self
  | x :: y :: r, h => by
    show PyData.strOk (x ++ a ++ Str.join a (y :: r)) = true
    exact strOk_app (strOk_app (h x List.mem_cons_self) ha) (strOk_join ha fun z hz => h z (List.mem_cons_of_mem _ hz))
theorem om_join : OpMt X "join" oJoin := by
  intro io H x dx dy d os rx e
  cases dx <;> first | cases e | skip
  rename_i a
  obtain ⟨rfl, hok⟩ := rx.str_inv
  have fin : ∀ (xs : List D), ((strsOf xs).bind fun ys => if (ys.map (·.length)).sum + ys.length * a.length ≤ 16777216 then some (D.str (PySem.Txt.join a ys)) else none) = some d → ∃ ys, strsOf xs = some ys ∧ (ys.map (·.length)).sum + ys.length * a.length ≤ 16777216 ∧ d = .str (PySem.Txt.join a ys) := by
    intro xs h
    cases hs : strsOf xs with
    | none => rw [hs] at h; cases h
    | some ys =>
      rw [hs] at h
      simp only [Option.bind_some] at h
      split at h
      · rename_i hl
        cases h
        exact ⟨ys, rfl, hl, rfl⟩
      · cases h
  refine ⟨_, ma_str PySem.F.slot_str_join PySem.F.type_str_join mt_join, fun io2 H2 y qs Q bl rx2 ry q => ?_⟩
  cases dy <;> first | cases e | skip
  · rename_i o xs
    obtain ⟨ys, h1, h2, rfl⟩ := fin xs e
    obtain ⟨b, vs, ps, rfl, hl, rl, _⟩ := ry.lst_inv
    obtain ⟨rfl, hk⟩ := rl.strs h1
    exact ⟨a, b, ys, rfl, rfl, .inl (.inl hl), h2, give_str rfl (by rw [TL.join_eq]; exact strOk_join hok hk) q⟩
  · rename_i xs
    obtain ⟨ys, h1, h2, rfl⟩ := fin xs e
    obtain ⟨b, vs, rfl, hl, rl⟩ := ry.tup_inv
    obtain ⟨rfl, hk⟩ := rl.strs h1
    exact ⟨a, b, ys, rfl, rfl, .inr hl, h2, give_str rfl (by rw [TL.join_eq]; exact strOk_join hok hk) q⟩
/-! ### repr of lists and tuples -/
def oShow (x : D) : Option D := match itemsD x with
  | some _ => if (plainD 40 x && (toPD x).showable && decide ((toPD x).shown.length ≤ sizeLine) && PyData.strOk (toPD x).shown) = true then some (.str (toPD x).shown) else none
  | none => none
def rRepr (K : PySem.W.Frag) : List V → Hp → VK → Prop := fun xs H Q => ∃ a d, xs = [V.ref a] ∧ Dp K H (.ref a) d ∧ d.showable = true ∧ d.hasDict = false ∧ d.depth ≤ 63 ∧ d.shown.length ≤ sizeLine ∧ Q (.str d.shown) H
theorem cr_repr (hg : X.A.guards = some []) (hu : X.A.units + 64 < cLine) : CallR X (.builtin "repr") (rRepr X.K) := by
  intro pins s σ H xs us Q I r h
  obtain ⟨a, d, rfl, hd, h1, h2, h3, h4, q⟩ := h
  obtain ⟨u, rfl, ru⟩ := r.one
  cases ru
  obtain ⟨as, rd⟩ := Dp.reads I d _ _ hd rfl
  exact repr_of_reads' rd h1 (fun z => by rw [h2] at z; cases z) hg (by omega) (fun b o e => e) (fun h' u tk hk => ⟨.str d.shown, H, I.kept (t' := tk) hk, ⟨u, rfl⟩, q⟩) h4
theorem plain_noDict : ∀ (n : Nat) (d : D), plainD n d = true → (toPD d).hasDict = false := by
  have all : ∀ (n : Nat) (xs : List D), (∀ d ∈ xs, (toPD d).hasDict = false) → PyData.hasDictAll (toPDL xs) = false := by
    intro n xs
    induction xs with
    | nil => intro _; rw [toPDL]; rfl
    | cons x xs ih =>
      intro h
      rw [toPDL, PyData.hasDictAll, h x List.mem_cons_self, ih fun d hd => h d (List.mem_cons_of_mem _ hd)]
      rfl
  intro n
  induction n with
  | zero =>
    intro d h
    cases d <;> first | (rw [toPD]; rfl) | (simp [plainD] at h)
  | succ n ih =>
    intro d h
    cases d with
    | lst o xs => rw [toPD, PyData.hasDict]; exact all n xs fun d hd => ih d (List.all_eq_true.mp (show (List.all _ (plainD n)) = true from h) d hd)
    | tup xs => rw [toPD, PyData.hasDict]; exact all n xs fun d hd => ih d (List.all_eq_true.mp (show (List.all _ (plainD n)) = true from h) d hd)
    | dct _ _ => simp [plainD] at h
    | box _ => simp [plainD] at h
    | scr _ => simp [plainD] at h
    | non => rw [toPD]; rfl
    | bl _ => rw [toPD]; rfl
    | int _ => rw [toPD]; rfl
    | str _ => rw [toPD]; rfl
theorem o_show : OpN X.K false (n1 oShow) (rRepr X.K) := OpN.one fun io H x dx d os Q bl rx m e q => by
  unfold oShow at e
  split at e
  · rename_i xs hx
    split at e
    · rename_i hc
      simp only [Bool.and_eq_true, decide_eq_true_eq] at hc
      obtain ⟨⟨⟨h1, h2⟩, h3⟩, h4⟩ := hc
      cases e
      have dp := rx.dp 40 h1
      have ly := rx.lay 40 h1
      have : ∃ a, x = .ref a := by
        cases dx <;> cases hx
        · obtain ⟨a, _, _, e, _⟩ := rx.lst_inv; exact ⟨a, e⟩
        · obtain ⟨a, _, e, _⟩ := rx.tup_inv; exact ⟨a, e⟩
      obtain ⟨a, rfl⟩ := this
      exact ⟨a, toPD dx, rfl, dp, h2, plain_noDict 40 dx h1, by omega, h3, give_str rfl h4 q⟩
    · cases e
  · cases e
end
end HF

/-! HF: calls with keywords, with defaults. -/
namespace HF
open PySem PySem.Spec L2
open PyProof.Rows hiding St
def eCallK (idx : List Nat) (fn : Fn) (fs ks : List Ev) (dds : List D) : Ev := fun r => bnd (evs fs r) fun xs => bnd (evs ks r) fun ys => fn (pick idx (xs ++ ys ++ dds))
section
variable {X : Cx}
theorem PK_wk {kws : List Keyword} {t t' : TA} (h : PK X kws t) (w : ∀ σ H Q, t' σ H Q → t σ H Q) : PK X kws t' := ⟨fun pos pins s σ H Q I q => h.run pos pins s σ H Q I (w σ H Q q)⟩
theorem dk_nil : PK X [] (tAS X.K []) := PK_wk pk_nil fun σ H Q ⟨io, b, r, oss, S, d, b', e, q⟩ => by
  obtain ⟨rfl, rfl⟩ := ret_some e
  exact q [] H io (Kp.refl _ _) S .nil
theorem dk_cons {e : Expr} {nm : Option Str} {kpos : Pos} {kws : List Keyword} {f : Ev} {fs : List Ev} (he : PE X e (tS X.K f)) (hes : PK X kws (tAS X.K fs)) : PK X (⟨nm, e, kpos⟩ :: kws) (tAS X.K (f :: fs)) :=
  PK_wk (pk_cons he hes) fun σ H Q ⟨io, b, r, oss, S, ds, b', e, q⟩ => by
    obtain ⟨d, b1, e1, e'⟩ := bnd_some e
    obtain ⟨ds', b2, e2, e3⟩ := bnd_some e'
    obtain ⟨rfl, rfl⟩ := ret_some e3
    refine ⟨io, b, r, oss, S, d, b1, e1, fun x H1 io1 k1 S1 rx => ⟨io1, b1, r, oss, S1, ds', b', e2, fun xs H2 io2 k2 S2 rxs => ?_⟩⟩
    exact q (x :: xs) H2 io2 (k1.trans k2 S.bl) S2 (.cons (os := []) (ps := []) (rx.keep k2 S1.bl) rxs)
theorem RpL.app0 {K : PySem.W.Frag} {H : Hp} {io : List Addr} {ds es : List D} {vs ws : List V} (h : RpL K H io ds vs []) (h' : RpL K H io es ws []) : RpL K H io (ds ++ es) (vs ++ ws) [] := h.append h'
theorem pick_len {α β : Type} {xs : List α} {ys : List β} (h : xs.length = ys.length) : ∀ idx : List Nat, (pick idx xs).length = (pick idx ys).length
  | [] => rfl
  | i :: idx => by
    unfold pick
    have ih := pick_len h idx
    unfold pick at ih
    by_cases hi : i < xs.length
    · rw [List.filterMap_cons_some (List.getElem?_eq_getElem hi), List.filterMap_cons_some (List.getElem?_eq_getElem (h ▸ hi))]
      simp [ih]
    · rw [List.filterMap_cons_none (List.getElem?_eq_none (by omega)), List.filterMap_cons_none (List.getElem?_eq_none (by omega))]
      exact ih
variable {k : Nat} {f : Addr} {fd : FuncData} {ps kn : List Str} {fn : Fn} {x : Str} {p pos : Pos} {e : Expr} {es : List Expr} {kws : List Keyword} {n m : Nat} {idx : List Nat} {dds : List D} {dvs : List V} {dv : List Value}
/-- the defaults that fill up -/
structure Fill (K : PySem.W.Frag) (dds : List D) (dvs : List V) (dv : List Value) : Prop where
  vals : Vals dvs dv
  rp : ∀ (H : Hp) (io : List Addr), RpL K H io dds dvs []
theorem Fill.nil {K : PySem.W.Frag} : Fill K [] [] [] := ⟨.nil, fun _ _ => .nil⟩
theorem sp_callK {K : PySem.W.Frag} {io io2 : List Addr} {b b2 b' : Bx} {r : Env} {oss : List (List Addr)} {σ : St} {H H2 : Hp} {N : Nat} {xs ys : List D} {vs zs : List V} {d : D} {Q : VK} (S : SR K io b r oss σ H) (k2 : Kp io H io2 H2) (S2 : SR K io2 b2 r oss σ H2) (r1 : RpL K H2 io2 xs vs []) (r2 : RpL K H2 io2 ys zs []) (fl : Fill K dds dvs dv)
    (hn : (pick idx (xs ++ ys ++ dds)).length = N) (e : fn (pick idx (xs ++ ys ++ dds)) b2 = some (d, b')) (q : ∀ (v : V) (H' : Hp) (io' os : List Addr), Kp io H io' H' → SR K io' b' r oss σ H' → Rp K H' io' d v os → os.Nodup → (∀ a ∈ os, H a = none) → Q v H') : spF K fn N (pick idx (vs ++ zs ++ dvs)) H2 Q E0 :=
  sp_call S k2 S2 (((r1.app0 r2).app0 (fl.rp _ _)).pick idx) hn e q
theorem de_callK {fs ks : List Ev} {N : Nat} (F : FnG X.prog X.w X.K X.mg X.base k f fd ps (spF X.K fn N)) (hg : X.A.guards = some []) (hr : Room k X.A) (hgl : Gl X x) (hm : X.mg x = some (.ref f)) (hk : PySem.W.keepIn X.K (.ref f) = true) (fl : Fill X.K dds dvs dv)
    (hb : ∀ (s : Shared) (us ws : List Value), X.K.In s.heap → us.length = fs.length → ws.length = ks.length → BindsTo s fd ⟨us, kn.zip ws⟩ (ps.zip (pick idx (us ++ ws ++ dv)))) (hN : (pick idx (List.range (fs.length + ks.length + dds.length))).length = N)
    (ha : PA X (e :: es) (tAS X.K fs)) (hkw : PK X kws (tAS X.K ks)) (hall : (backToKw pos (keywordEach kws X.env)).all (·.1.isSome) = true) (hks : (backToKw pos (keywordEach kws X.env)).filterMap (·.1) = kn) (hdb : (x == ("__debug__" : Str)) = false)
    (he : starEach (e :: es) X.env = (false, eval e X.env) :: starEach es X.env) (hpl : ((backTo pos (starEach (e :: es) X.env)).any (·.1) || (backToKw pos (keywordEach kws X.env)).any (·.1.isNone)) = false) : PE X (.Call (.Name x p) (e :: es) kws pos) (tV X.K (eCallK idx fn fs ks dds)) := by
  refine ⟨fun pins s σ H Q I ⟨io, b, r, oss, S, d, b', e, q⟩ => ?_⟩
  obtain ⟨ds, b1, e1, e2⟩ := bnd_some e
  obtain ⟨es', b2, e3, e4⟩ := bnd_some e2
  refine wpAny_Call_Name_kw (ld_glob I hgl hm ?_ hdb)
  refine PySem.W.callWith_KW (h₀ := X.base) I.ok.mod.kin hk hall (thn (ha.run pos pins s σ H (fun vs H1 => ∃ io1, Kp io H io1 H1 ∧ SR X.K io1 b1 r oss σ H1 ∧ RpL X.K H1 io1 ds vs []) I ⟨io, b, r, oss, S, ds, b1, e1, fun vs H1 io1 k1 S1 rl => ⟨io1, k1, S1, rl⟩⟩) fun us s1 ⟨vs, H1, I1, rv, io1, k1, S1, rl⟩ => ?_) hpl he
  refine thn (hkw.run pos pins s1 σ H1 (fun vs H2 => ∃ io2, Kp io1 H1 io2 H2 ∧ SR X.K io2 b2 r oss σ H2 ∧ RpL X.K H2 io2 es' vs []) I1 ⟨io1, b1, r, oss, S1, es', b2, e3, fun vs H1 io1 k1 S1 rl => ⟨io1, k1, S1, rl⟩⟩) fun ws s2 ⟨zs, H2, I2, rz, io2, k2, S2, rl2⟩ => ⟨I2.kIn, ?_⟩
  rw [hks]
  have h1 := evs_len e1
  have h2 := evs_len e3
  refine go_fn F hg hr (hb s2 us ws I2.kIn (by rw [← rv.length, ← rl.length]; exact h1) (by rw [← rz.length, ← rl2.length]; exact h2)) I2 (Vals.pick (Vals.append (Vals.append rv rz) fl.vals) idx) (sp_callK S (k1.trans k2 S.bl) S2 (rl.keep k2 S1.bl) rl2 fl ?_ e4 q)
  rw [← hN]
  exact pick_len (by simp [h1, h2]; omega) idx
theorem de_callK0 {ks : List Ev} {N : Nat} (F : FnG X.prog X.w X.K X.mg X.base k f fd ps (spF X.K fn N)) (hg : X.A.guards = some []) (hr : Room k X.A) (hgl : Gl X x) (hm : X.mg x = some (.ref f)) (hk : PySem.W.keepIn X.K (.ref f) = true) (fl : Fill X.K dds dvs dv)
    (hb : ∀ (s : Shared) (ws : List Value), X.K.In s.heap → ws.length = ks.length → BindsTo s fd ⟨[], kn.zip ws⟩ (ps.zip (pick idx (ws ++ dv)))) (hN : (pick idx (List.range (ks.length + dds.length))).length = N)
    (hkw : PK X kws (tAS X.K ks)) (hall : (backToKw pos (keywordEach kws X.env)).all (·.1.isSome) = true) (hks : (backToKw pos (keywordEach kws X.env)).filterMap (·.1) = kn) (hdb : (x == ("__debug__" : Str)) = false)
    (hpl : ((backTo pos (starEach [] X.env)).any (·.1) || (backToKw pos (keywordEach kws X.env)).any (·.1.isNone)) = false) : PE X (.Call (.Name x p) [] kws pos) (tV X.K (eCallK idx fn [] ks dds)) := by
  refine ⟨fun pins s σ H Q I ⟨io, b, r, oss, S, d, b', e, q⟩ => ?_⟩
  obtain ⟨ds, b1, e1, e2⟩ := bnd_some e
  cases e1
  obtain ⟨es', b2, e3, e4⟩ := bnd_some e2
  refine wpAny_Call_Name_kw (ld_glob I hgl hm ?_ hdb)
  refine PySem.W.callWith_KW0 (h₀ := X.base) I.ok.mod.kin hk hall ?_ hpl
  refine thn (hkw.run pos pins s σ H (fun vs H2 => ∃ io2, Kp io H io2 H2 ∧ SR X.K io2 b2 r oss σ H2 ∧ RpL X.K H2 io2 es' vs []) I ⟨io, _, r, oss, S, es', b2, e3, fun vs H1 io1 k1 S1 rl => ⟨io1, k1, S1, rl⟩⟩) fun ws s2 ⟨zs, H2, I2, rz, io2, k2, S2, rl2⟩ => ⟨I2.kIn, ?_⟩
  rw [hks]
  have h2 := evs_len e3
  refine go_fn F hg hr (hb s2 ws I2.kIn (by rw [← rz.length, ← rl2.length]; exact h2)) I2 (Vals.pick (Vals.append rz fl.vals) idx) (sp_callK (vs := []) S k2 S2 .nil rl2 fl ?_ e4 q)
  rw [← hN]
  exact pick_len (by simp [h2]) idx
end
end HF

/-! HF: list(zip(a, b, strict=True)). -/
namespace HF
open PySem PySem.Spec L2
open PyProof.Rows hiding St
open Sem (wp)
/-- a strict zip -/
abbrev IsZs (h : Heap) (z TI TO : Addr) (f0 : Value) (f1 : Bool) : Prop := h.get? z = some { cls := .type "zip", dict := none, data := .fields #[f0, .bool f1, .bool true, .ref TI, .ref TO], slots := #[] }
section
variable {prog : Program} {w : World} {A : Around} {E : Value → Shared → Prop} {s : Shared} {z TI TO i1 i2 : Addr} {fp1 fp2 : List Addr} {n i : Nat} {P1 P2 : Nat → Value → Prop} {St1 St2 : Nat → Heap → Prop} {a1 a2 : Value}
theorem draw_item {it : Addr} {fp : List Addr} {P : Nat → Value → Prop} {St0 : Nat → Heap → Prop} {Q : Option Value → Shared → Prop} (D : Draws prog w A it fp n P St0) (hi : i < n) (st : St0 i s.heap) (h : ∀ x h' tk, P i x → St0 (i + 1) h' → Heap.SameBut it s.heap h' → Q (some x) { s with heap := h', toks := tk }) :
    wpAny (model prog w) A (Builtin.SmallTypes.nextOrEnd (.ref it)) Q E s := by
  unfold Builtin.SmallTypes.nextOrEnd
  exact wpAny_bind (wpAny_attempt (D.item i s _ _ hi st fun x h' tk hp hs sb => wpAny_pure (h x h' tk hp hs sb)))
theorem draw_end {it : Addr} {fp : List Addr} {P : Nat → Value → Prop} {St0 : Nat → Heap → Prop} {Q : Option Value → Shared → Prop} (D : Draws prog w A it fp n P St0) (st : St0 n s.heap) (h : ∀ h', Heap.ExtBut it s.heap h' → Q none { s with heap := h' }) :
    wpAny (model prog w) A (Builtin.SmallTypes.nextOrEnd (.ref it)) Q E s := by
  unfold Builtin.SmallTypes.nextOrEnd
  refine wpAny_bind (wpAny_attempt (D.done s _ _ st fun h' e he ⟨o, ho, hc⟩ => ?_))
  exact wpAny_bind (wpAny_isInstance (T := "StopIteration") (b := true) ⟨o, ho, hc⟩ isSubtype_stop (wpAny_pure (h h' he)))
/-- the first item -/
theorem zs_first {Q : Value → Shared → Prop} (S : ZipSep2 z TI TO i1 i2 fp1 fp2) (D1 : Draws prog w A i1 fp1 n P1 St1) (D2 : Draws prog w A i2 fp2 n P2 St2) (hz : IsZs s.heap z TI TO .none false) (hTI : IsTupOf2 s.heap TI (.ref i1) (.ref i2)) (hTO : IsTupOf2 s.heap TO a1 a2) (st1 : St1 i s.heap) (st2 : St2 i s.heap) (hlt : i < n)
    (hQ : ∀ x1 x2 h' tk, P1 i x1 → P2 i x2 → IsZs h' z TI TO (rawInt s.heap.objs.size) false → St1 (i + 1) h' → St2 (i + 1) h' → IsTupOf2 h' s.heap.objs.size x1 x2 → h'.objs.size = s.heap.objs.size + 1 →
      (∀ c o, c ≠ z → c ≠ TO → c ≠ i1 → c ≠ i2 → s.heap.get? c = some o → h'.get? c = some o) → Q (.ref s.heap.objs.size) { s with heap := h', toks := tk }) :
    wpAny (model prog w) A (Builtin.«zip.__next__» ⟨[.ref z], []⟩) (fun fin s' => ∃ v, fin = .done (.ret v) ∧ Q v s') E s := by
  obtain ⟨hp, g, d, tk0, os⟩ := s
  show wpAny _ _ (field (.ref z) 2 >>= _) _ _ _
  refine wpAny_bind (wpAny_field hz rfl (x := .bool true) rfl ?_)
  show wpAny _ _ (field (.ref z) 3 >>= _) _ _ _
  refine wpAny_bind (wpAny_field hz rfl (x := .ref TI) rfl ?_)
  refine wpAny_bind (wpAny_seqItems hTI rfl ?_)
  show wpAny _ _ (Builtin.SmallTypes.ownedTupleIsFree (.ref z) >>= _) _ _ _
  refine wpAny_bind ?_
  unfold Builtin.SmallTypes.ownedTupleIsFree
  refine wpAny_bind (wpAny_field hz rfl (x := .none) rfl (wpAny_pure ?_))
  simp only [if_true]
  refine wpAny_bind (wpAny_rule ?_)
  refine wpAny_bind (wpAny_field hz rfl (x := .ref TO) rfl ?_)
  refine wpAny_bind (wpAny_setField_rec hz (by simp) fun g0 hz0 hs0 => ?_)
  replace hz0 : IsZs g0 z TI TO .ellipsis false := hz0
  replace hs0 : Heap.SameBut z hp g0 := hs0
  refine wpAny_bind ?_
  simp only [List.zipIdx_cons, List.zipIdx_nil, List.forIn_cons, List.forIn_nil]
  refine wpAny_bind (wpAny_bind (wpAny_onRaise ?_))
  show wpAny _ _ (Builtin.SmallTypes.nextOrEnd (.ref i1)) _ _ ⟨g0, g, d, tk0, os⟩
  refine draw_item D1 hlt (D1.over st1 hs0 S.zf1) fun x1 p1 tk1 hx1 sn1 hp1 => ?_
  replace hp1 : Heap.SameBut i1 g0 p1 := hp1
  have hU1 : IsTupOf2 p1 TO a1 a2 := hp1.extBut _ _ S.Ti1 (hs0.extBut _ _ S.TOz hTO)
  refine wpAny_bind (wpAny_seqItems (s := ⟨p1, g, d, tk1, os⟩) hU1 rfl ?_)
  refine wpAny_bind (updateSeq_IsTupOf2 (s := ⟨p1, g, d, tk1, os⟩) hU1 fun g1 hT1 hs1 => ?_)
  replace hT1 : IsTupOf2 g1 TO x1 a2 := hT1
  replace hs1 : Heap.SameBut TO p1 g1 := hs1
  refine wpAny_bind (wpAny_letGo (wpAny_pure ?_))
  refine wpAny_bind (wpAny_bind (wpAny_onRaise ?_))
  show wpAny _ _ (Builtin.SmallTypes.nextOrEnd (.ref i2)) _ _ ⟨g1, g, d, tk1, os⟩
  refine draw_item D2 hlt (D2.over (D2.over (D2.over st2 hs0 S.zf2) hp1 S.sep1_2) hs1 S.Tf2) fun x2 p2 tk2 hx2 sn2 hp2 => ?_
  replace hp2 : Heap.SameBut i2 g1 p2 := hp2
  have hU2 : IsTupOf2 p2 TO x1 a2 := hp2.extBut _ _ S.Ti2 hT1
  refine wpAny_bind (wpAny_seqItems (s := ⟨p2, g, d, tk2, os⟩) hU2 rfl ?_)
  refine wpAny_bind (updateSeq_IsTupOf2 (s := ⟨p2, g, d, tk2, os⟩) hU2 fun g2 hT2 hs2 => ?_)
  replace hT2 : IsTupOf2 g2 TO x1 x2 := hT2
  replace hs2 : Heap.SameBut TO p2 g2 := hs2
  refine wpAny_bind (wpAny_letGo (wpAny_pure (wpAny_pure ?_)))
  refine wpAny_bind (wpAny_seqItems (s := ⟨g2, g, d, tk2, os⟩) hT2 rfl ?_)
  refine wpAny_bind (wpAny_newTuple ?_)
  have hsz : g2.objs.size = hp.objs.size := by rw [hs2.1, hp2.1, hs1.1, hp1.1, hs0.1]
  have hzz : IsZs g2 z TI TO .ellipsis false := hs2.extBut _ _ S.TOz.symm (hp2.extBut _ _ S.zi2 (hs1.extBut _ _ S.TOz.symm (hp1.extBut _ _ S.zi1 hz0)))
  have hkk : ∀ c o, c ≠ z → c ≠ TO → c ≠ i1 → c ≠ i2 → hp.get? c = some o → g2.get? c = some o := fun c o cz cT c1 c2 e =>
    hs2.extBut _ _ cT (hp2.extBut _ _ c2 (hs1.extBut _ _ cT (hp1.extBut _ _ c1 (hs0.extBut _ _ cz e))))
  have hj1 : St1 (i + 1) g2 := D1.over (D1.over (D1.over sn1 hs1 S.Tf1) hp2 S.sep2_1) hs2 S.Tf1
  have hj2 : St2 (i + 1) g2 := D2.over sn2 hs2 S.Tf2
  have hzlt : z < g2.objs.size := Heap.lt_size hzz
  show wpAny _ _ (Builtin.SmallTypes.ownedTupleHandOut (.ref z) (.ref g2.objs.size) >>= _) _ _ ⟨g2.push (tupO #[x1, x2]), g, d, tk2, os⟩
  refine wpAny_bind ?_
  unfold Builtin.SmallTypes.ownedTupleHandOut
  have z6 : IsZs (g2.push (tupO #[x1, x2])) z TI TO .ellipsis false := Heap.get?_push_of_some _ hzz
  refine wpAny_bind (wpAny_setField_rec z6 (by simp) fun h7 z7 s7 => ?_)
  replace z7 : IsZs h7 z TI TO (rawInt g2.objs.size) false := z7
  refine wpAny_setField_rec z7 (by simp) fun h8 z8 s8 => ?_
  replace z8 : IsZs h8 z TI TO (rawInt g2.objs.size) false := z8
  replace s7 : Heap.SameBut z (g2.push (tupO #[x1, x2])) h7 := s7
  replace s8 : Heap.SameBut z h7 h8 := s8
  have up : ∀ c o, c ≠ z → g2.get? c = some o → h8.get? c = some o := fun c o c1 e => s8.extBut _ _ c1 (s7.extBut _ _ c1 (Heap.get?_push_of_some _ e))
  have t8 : IsTupOf2 h8 g2.objs.size x1 x2 := s8.extBut _ _ (Nat.ne_of_gt hzlt) (s7.extBut _ _ (Nat.ne_of_gt hzlt) (Heap.get?_push_size _ rfl))
  have n8 : h8.objs.size = g2.objs.size + 1 := by rw [s8.1, s7.1, Heap.size_push]
  rw [hsz] at z8 t8 n8
  refine wpAny_pure ⟨_, rfl, ?_⟩
  show Q (.ref g2.objs.size) ⟨h8, g, d, tk2, os⟩
  rw [hsz]
  exact hQ x1 x2 h8 tk2 hx1 hx2 z8 (D1.frame _ _ _ hj1 fun b hb o e => up b o (fun q => S.zf1 (q ▸ hb)) e) (D2.frame _ _ _ hj2 fun b hb o e => up b o (fun q => S.zf2 (q ▸ hb)) e) t8 n8 fun c o cz cT c1 c2 e => up c o cz (hkk c o cz cT c1 c2 e)
/-- a tuple of it is still out -/
theorem zs_held {T : Addr} {f : Bool} {oT : Obj} {Q : Bool → Shared → Prop} (hz : IsZs s.heap z TI TO (rawInt T) f) (hT : s.heap.get? T = some oT) (h : ∀ h', IsZs h' z TI TO (rawInt T) true → Heap.SameBut z s.heap h' → Q false { s with heap := h' }) :
    wpAny (model prog w) A (Builtin.SmallTypes.ownedTupleIsFree (.ref z)) Q E s := by
  unfold Builtin.SmallTypes.ownedTupleIsFree
  refine wpAny_bind (wpAny_field hz rfl (x := rawInt T) rfl ?_)
  show wpAny _ _ (loadIfAlive ((T : Int).toNat) >>= _) _ _ _
  rw [Int.toNat_natCast]
  refine wpAny_bind (PySem.W.kdx_alive hT ?_)
  simp only [Option.isNone_some, Bool.false_eq_true, if_false]
  refine wpAny_bind (wpAny_field hz rfl (x := .bool f) rfl ?_)
  cases f with
  | true =>
    rw [if_neg (show ¬ ((Value.bool true != Value.bool true) = true) from Bool.false_ne_true)]
    exact wpAny_pure (h s.heap hz (Heap.SameBut.refl _ _))
  | false =>
    rw [if_pos (show (Value.bool false != Value.bool true) = true from rfl)]
    exact wpAny_bind (wpAny_setField_rec hz (by simp) fun h1 z1 s1 => wpAny_pure (h h1 z1 s1))
/-- a further item -/
theorem zs_more {T : Addr} {f : Bool} {oT : Obj} {Q : Value → Shared → Prop} (S : ZipSep2 z TI TO i1 i2 fp1 fp2) (D1 : Draws prog w A i1 fp1 n P1 St1) (D2 : Draws prog w A i2 fp2 n P2 St2) (hz : IsZs s.heap z TI TO (rawInt T) f) (hT : s.heap.get? T = some oT) (hTI : IsTupOf2 s.heap TI (.ref i1) (.ref i2)) (st1 : St1 i s.heap) (st2 : St2 i s.heap) (hlt : i < n)
    (hQ : ∀ x1 x2 h' tk, P1 i x1 → P2 i x2 → IsZs h' z TI TO (rawInt T) true → St1 (i + 1) h' → St2 (i + 1) h' → IsTupOf2 h' s.heap.objs.size x1 x2 → h'.objs.size = s.heap.objs.size + 1 →
      (∀ c o, c ≠ z → c ≠ i1 → c ≠ i2 → s.heap.get? c = some o → h'.get? c = some o) → Q (.ref s.heap.objs.size) { s with heap := h', toks := tk }) :
    wpAny (model prog w) A (Builtin.«zip.__next__» ⟨[.ref z], []⟩) (fun fin s' => ∃ v, fin = .done (.ret v) ∧ Q v s') E s := by
  obtain ⟨hp, g, d, tk0, os⟩ := s
  show wpAny _ _ (field (.ref z) 2 >>= _) _ _ _
  refine wpAny_bind (wpAny_field hz rfl (x := .bool true) rfl ?_)
  show wpAny _ _ (field (.ref z) 3 >>= _) _ _ _
  refine wpAny_bind (wpAny_field hz rfl (x := .ref TI) rfl ?_)
  refine wpAny_bind (wpAny_seqItems hTI rfl ?_)
  show wpAny _ _ (Builtin.SmallTypes.ownedTupleIsFree (.ref z) >>= _) _ _ _
  refine wpAny_bind (zs_held hz hT fun g0 hz0 hs0 => ?_)
  replace hs0 : Heap.SameBut z hp g0 := hs0
  simp only [Bool.false_eq_true, if_false]
  refine wpAny_bind ?_
  rw [← Array.forIn_toList]
  simp only [List.forIn_cons, List.forIn_nil]
  refine wpAny_bind (wpAny_bind (wpAny_holding ?_))
  show wpAny _ _ (Builtin.SmallTypes.nextOrEnd (.ref i1)) _ _ ⟨g0, g, d, tk0, os⟩
  refine draw_item D1 hlt (D1.over st1 hs0 S.zf1) fun x1 p1 tk1 hx1 sn1 hp1 => ?_
  replace hp1 : Heap.SameBut i1 g0 p1 := hp1
  refine wpAny_pure ?_
  refine wpAny_bind (wpAny_bind (wpAny_holding ?_))
  show wpAny _ _ (Builtin.SmallTypes.nextOrEnd (.ref i2)) _ _ ⟨p1, g, d, tk1, os⟩
  refine draw_item D2 hlt (D2.over (D2.over st2 hs0 S.zf2) hp1 S.sep1_2) fun x2 p2 tk2 hx2 sn2 hp2 => ?_
  replace hp2 : Heap.SameBut i2 p1 p2 := hp2
  refine wpAny_pure (wpAny_pure ?_)
  show wpAny _ _ (newTuple [x1, x2] >>= _) _ _ ⟨p2, g, d, tk2, os⟩
  refine wpAny_bind (wpAny_newTuple ?_)
  have hsz : p2.objs.size = hp.objs.size := by rw [hp2.1, hp1.1, hs0.1]
  have hzz : IsZs p2 z TI TO (rawInt T) true := hp2.extBut _ _ S.zi2 (hp1.extBut _ _ S.zi1 hz0)
  have hkk : ∀ c o, c ≠ z → c ≠ i1 → c ≠ i2 → hp.get? c = some o → p2.get? c = some o := fun c o cz c1 c2 e => hp2.extBut _ _ c2 (hp1.extBut _ _ c1 (hs0.extBut _ _ cz e))
  have hj1 : St1 (i + 1) p2 := D1.over sn1 hp2 S.sep2_1
  refine wpAny_pure ⟨_, rfl, ?_⟩
  show Q (.ref p2.objs.size) ⟨p2.push (tupO #[x1, x2]), g, d, tk2, os⟩
  have t8 : IsTupOf2 (p2.push (tupO #[x1, x2])) p2.objs.size x1 x2 := Heap.get?_push_size _ rfl
  have n8 : (p2.push (tupO #[x1, x2])).objs.size = p2.objs.size + 1 := Heap.size_push ..
  rw [hsz] at t8 n8 ⊢
  exact hQ x1 x2 _ tk2 hx1 hx2 (Heap.get?_push_of_some _ hzz) (D1.frame _ _ _ hj1 fun b hb o e => Heap.get?_push_of_some _ e) (D2.frame _ _ _ sn2 fun b hb o e => Heap.get?_push_of_some _ e) t8 n8 fun c o cz c1 c2 e => Heap.get?_push_of_some _ (hkk c o cz c1 c2 e)
/-- how it ends: all at once -/
theorem stop_raise {Q : Fin → Shared → Prop} (hh : A.handled = none) (hE : ∀ h' e, (∀ b o, s.heap.get? b = some o → h'.get? b = some o) → (∃ o, h'.get? e = some o ∧ o.cls = .type "StopIteration") → E (.ref e) { s with heap := h' }) : wpAny (model prog w) A (Builtin.SmallTypes.stopIteration (α := Fin)) Q E s := by
  unfold Builtin.SmallTypes.stopIteration
  show wpAny _ _ (newExc (.type "StopIteration") [] >>= _) _ _ _
  refine wpAny_bind ?_
  simp only [newExc, newTuple]
  refine wpAny_bind (wpAny_newObj_type ?_ (by size_fits))
  refine wpAny_bind (m := firstArgMember _ _) (wpAny_of_eq (a := Value.none) (by first | rfl | (simp only [firstArgMember]; rfl)) ?_)
  refine wpAny_newObj_type ?_ (by size_fits)
  simp only [raiseNew]
  refine wpAny_bind (wpAny_handled ?_)
  rw [hh]
  refine wpAny_bind (wpAny_pure (wpAny_throw ?_))
  exact hE _ _ (fun b o e => Heap.get?_push_of_some _ (Heap.get?_push_of_some _ e)) ⟨_, Heap.get?_push_size _ rfl, rfl⟩
theorem zs_end0 {Q : Fin → Shared → Prop} (hh : A.handled = none) (S : ZipSep2 z TI TO i1 i2 fp1 fp2) (D1 : Draws prog w A i1 fp1 n P1 St1) (D2 : Draws prog w A i2 fp2 n P2 St2) (hz : IsZs s.heap z TI TO .none false) (hTI : IsTupOf2 s.heap TI (.ref i1) (.ref i2)) (st1 : St1 n s.heap) (st2 : St2 n s.heap)
    (hE : ∀ h' e, (∀ c o, c ≠ z → c ≠ i1 → c ≠ i2 → s.heap.get? c = some o → h'.get? c = some o) → (∃ o, h'.get? e = some o ∧ o.cls = .type "StopIteration") → E (.ref e) { s with heap := h' }) :
    wpAny (model prog w) A (Builtin.«zip.__next__» ⟨[.ref z], []⟩) Q E s := by
  obtain ⟨hp, g, d, tk0, os⟩ := s
  show wpAny _ _ (field (.ref z) 2 >>= _) _ _ _
  refine wpAny_bind (wpAny_field hz rfl (x := .bool true) rfl ?_)
  show wpAny _ _ (field (.ref z) 3 >>= _) _ _ _
  refine wpAny_bind (wpAny_field hz rfl (x := .ref TI) rfl ?_)
  refine wpAny_bind (wpAny_seqItems hTI rfl ?_)
  show wpAny _ _ (Builtin.SmallTypes.ownedTupleIsFree (.ref z) >>= _) _ _ _
  refine wpAny_bind ?_
  unfold Builtin.SmallTypes.ownedTupleIsFree
  refine wpAny_bind (wpAny_field hz rfl (x := .none) rfl (wpAny_pure ?_))
  simp only [if_true]
  refine wpAny_bind (wpAny_rule ?_)
  refine wpAny_bind (wpAny_field hz rfl (x := .ref TO) rfl ?_)
  refine wpAny_bind (wpAny_setField_rec hz (by simp) fun g0 hz0 hs0 => ?_)
  replace hz0 : IsZs g0 z TI TO .ellipsis false := hz0
  replace hs0 : Heap.SameBut z hp g0 := hs0
  refine wpAny_bind ?_
  simp only [List.zipIdx_cons, List.zipIdx_nil, List.forIn_cons, List.forIn_nil]
  refine wpAny_bind (wpAny_bind (wpAny_onRaise ?_))
  show wpAny _ _ (Builtin.SmallTypes.nextOrEnd (.ref i1)) _ _ ⟨g0, g, d, tk0, os⟩
  refine draw_end D1 (D1.over st1 hs0 S.zf1) fun p1 hp1 => ?_
  replace hp1 : Heap.ExtBut i1 g0 p1 := hp1
  have z1 : IsZs p1 z TI TO .ellipsis false := hp1 _ _ S.zi1 hz0
  refine wpAny_bind (wpAny_setField_rec (s := ⟨p1, g, d, tk0, os⟩) z1 (by simp) fun g1 hz1 hs1 => ?_)
  replace hs1 : Heap.SameBut z p1 g1 := hs1
  have st2' : St2 n g1 := D2.frame _ _ _ st2 fun b hb o e => hs1.extBut _ _ (fun q => S.zf2 (q ▸ hb)) (hp1 _ _ (fun q => S.sep1_2 (q ▸ hb)) (hs0.extBut _ _ (fun q => S.zf2 (q ▸ hb)) e))
  refine wpAny_bind ?_
  refine wpAny_bind ?_
  simp only [List.drop_succ_cons, List.drop_zero, List.zipIdx_cons, List.zipIdx_nil, List.forIn_cons, List.forIn_nil]
  refine wpAny_bind (wpAny_bind ?_)
  refine draw_end (s := ⟨g1, g, d, tk0, os⟩) D2 st2' fun p2 hp2 => ?_
  replace hp2 : Heap.ExtBut i2 g1 p2 := hp2
  simp only [Option.isSome_none, Bool.false_eq_true, if_false]
  refine wpAny_pure (wpAny_pure ?_)
  refine wpAny_bind (wpAny_rule ?_)
  refine stop_raise (s := ⟨p2, g, d, tk0, os⟩) hh fun h' e he ho => ?_
  exact hE h' e (fun c o cz c1 c2 q => he _ _ (hp2 _ _ c2 (hs1.extBut _ _ cz (hp1 _ _ c1 (hs0.extBut _ _ cz q))))) ho
theorem zs_endH {T : Addr} {f : Bool} {oT : Obj} {Q : Fin → Shared → Prop} (hh : A.handled = none) (S : ZipSep2 z TI TO i1 i2 fp1 fp2) (D1 : Draws prog w A i1 fp1 n P1 St1) (D2 : Draws prog w A i2 fp2 n P2 St2) (hz : IsZs s.heap z TI TO (rawInt T) f) (hT : s.heap.get? T = some oT) (hTI : IsTupOf2 s.heap TI (.ref i1) (.ref i2)) (st1 : St1 n s.heap) (st2 : St2 n s.heap)
    (hE : ∀ h' e, (∀ c o, c ≠ z → c ≠ i1 → c ≠ i2 → s.heap.get? c = some o → h'.get? c = some o) → (∃ o, h'.get? e = some o ∧ o.cls = .type "StopIteration") → E (.ref e) { s with heap := h' }) :
    wpAny (model prog w) A (Builtin.«zip.__next__» ⟨[.ref z], []⟩) Q E s := by
  obtain ⟨hp, g, d, tk0, os⟩ := s
  show wpAny _ _ (field (.ref z) 2 >>= _) _ _ _
  refine wpAny_bind (wpAny_field hz rfl (x := .bool true) rfl ?_)
  show wpAny _ _ (field (.ref z) 3 >>= _) _ _ _
  refine wpAny_bind (wpAny_field hz rfl (x := .ref TI) rfl ?_)
  refine wpAny_bind (wpAny_seqItems hTI rfl ?_)
  show wpAny _ _ (Builtin.SmallTypes.ownedTupleIsFree (.ref z) >>= _) _ _ _
  refine wpAny_bind (zs_held hz hT fun g0 hz0 hs0 => ?_)
  replace hs0 : Heap.SameBut z hp g0 := hs0
  simp only [Bool.false_eq_true, if_false]
  refine wpAny_bind ?_
  rw [← Array.forIn_toList]
  simp only [List.forIn_cons, List.forIn_nil]
  refine wpAny_bind (wpAny_bind (wpAny_holding ?_))
  show wpAny _ _ (Builtin.SmallTypes.nextOrEnd (.ref i1)) _ _ ⟨g0, g, d, tk0, os⟩
  refine draw_end D1 (D1.over st1 hs0 S.zf1) fun p1 hp1 => ?_
  replace hp1 : Heap.ExtBut i1 g0 p1 := hp1
  have st2' : St2 n p1 := D2.frame _ _ _ st2 fun b hb o e => hp1 _ _ (fun q => S.sep1_2 (q ▸ hb)) (hs0.extBut _ _ (fun q => S.zf2 (q ▸ hb)) e)
  refine wpAny_bind ?_
  refine wpAny_bind ?_
  simp only [List.drop_succ_cons, List.drop_zero, List.zipIdx_cons, List.zipIdx_nil, List.forIn_cons, List.forIn_nil]
  refine wpAny_bind (wpAny_bind ?_)
  refine draw_end (s := ⟨p1, g, d, tk0, os⟩) D2 st2' fun p2 hp2 => ?_
  replace hp2 : Heap.ExtBut i2 p1 p2 := hp2
  simp only [Option.isSome_none, Bool.false_eq_true, if_false]
  refine wpAny_pure (wpAny_pure ?_)
  refine wpAny_bind (wpAny_rule ?_)
  refine stop_raise (s := ⟨p2, g, d, tk0, os⟩) hh fun h' e he ho => ?_
  exact hE h' e (fun c o cz c1 c2 q => he _ _ (hp2 _ _ c2 (hp1 _ _ c1 (hs0.extBut _ _ cz q)))) ho
end
end HF

/-! HF: list of a strict zip. -/
namespace HF
open PySem PySem.Spec L2
open PyProof.Rows hiding St
open Sem (wp)
theorem zs_no_len : typeLookup (.type "zip") "__len__" = pure none := am_miss_of_fast (by decide +kernel)
theorem zs_no_hint : typeLookup (.type "zip") "__length_hint__" = pure none := am_miss_of_fast (by decide +kernel)
section
variable {prog : Program} {w : World} {A : Around} {E : Value → Shared → Prop} {s : Shared} {z TI TO i1 i2 : Addr} {fp1 fp2 : List Addr} {n i : Nat} {P1 P2 : Nat → Value → Prop} {St1 St2 : Nat → Heap → Prop} {a1 a2 : Value}
/-- by pyNext -/
theorem py_zs {Q : Option Value → Shared → Prop} (hz : s.TypeIs (.ref z) "zip") (h : wpAny (model prog w) A.in1 (Builtin.«zip.__next__» ⟨[.ref z], []⟩) (fun fin s' => ∃ v, fin = .done (.ret v) ∧ Q (some v) s') (fun e s' => (∃ a o, e = .ref a ∧ s'.heap.get? a = some o ∧ o.cls = .type "StopIteration") ∧ Q none s') s) :
    wpAny (model prog w) A (pyNext (.ref z)) Q E s := by
  unfold pyNext
  refine wpAny_bind (wpAny_attempt (wpAny_callSpecial?_slot (name := Str.ofString "__next__") hz F.slot_zip_next (wpAny_call_entry F.slot_zip_next hz F.entry_zip_next (wpAny_mono h (fun fin s' ⟨v, e, q⟩ => ⟨v, e, wpAny_pure q⟩) fun e s' ⟨⟨a, o, ea, ho, hc⟩, q⟩ => ?_) (F.args_zip_next_1 _))))
  subst ea
  exact wpAny_bind (wpAny_isInstance (T := "StopIteration") (b := true) ⟨o, ho, hc⟩ isSubtype_stop (wpAny_pure q))
/-- the pairs that were made, from S + 1 on -/
def outs (S : Addr) (i : Nat) : Array Value := ((List.range i).map fun j => Value.ref (S + 1 + j)).toArray
theorem outs_succ (S : Addr) (i : Nat) : outs S (i + 1) = (outs S i).push (.ref (S + 1 + i)) := by
  unfold outs
  rw [List.range_succ, List.map_append]
  simp
abbrev lstO (xs : Array Value) (c : Nat) : Obj := { cls := .type "list", dict := none, data := .seq xs c, slots := #[] }
/-- ahead of the i-th item -/
structure ZLI (k1 k2 : SK) (h0 : Heap) (S z TI TO i1 i2 a b : Addr) (its its2 : List Value) (i : Nat) (h : Heap) : Prop where
  zip : (i = 0 ∧ IsZs h z TI TO .none false ∧ ∃ x y, IsTupOf2 h TO x y) ∨ (0 < i ∧ ∃ f, IsZs h z TI TO (rawInt (S + 1)) f)
  ti : IsTupOf2 h TI (.ref i1) (.ref i2)
  it1 : IsIt k1 h i1 a i ∧ IsSq k1 h a its.toArray
  it2 : IsIt k2 h i2 b i ∧ IsSq k2 h b its2.toArray
  size : h.objs.size = S + 1 + i
  tups : ∀ j x y, j < i → its[j]? = some x → its2[j]? = some y → IsTupOf2 h (S + 1 + j) x y
  keep : ∀ c o, c < S → c ≠ z → c ≠ TO → c ≠ i1 → c ≠ i2 → h0.get? c = some o → h.get? c = some o
/-- at the end -/
structure ZLE (h0 : Heap) (S z TO i1 i2 : Addr) (its its2 : List Value) (n : Nat) (h : Heap) : Prop where
  tups : ∀ j x y, j < n → its[j]? = some x → its2[j]? = some y → IsTupOf2 h (S + 1 + j) x y
  keep : ∀ c o, c < S → c ≠ z → c ≠ TO → c ≠ i1 → c ≠ i2 → h0.get? c = some o → h.get? c = some o
/-- where its cells lie -/
structure ZLA (S z TI TO i1 i2 a b : Addr) : Prop where
  sep : ZipSep2 z TI TO i1 i2 [i1, a] [i2, b]
  n1 : a ≠ i1
  n2 : b ≠ i2
  z : z < S
  ti : TI < S
  to : TO < S
  i1 : i1 < S
  i2 : i2 < S
  a : a < S
  b : b < S
theorem zl_turn {k1 k2 : SK} {h0 : Heap} {S z TI TO i1 i2 a b : Addr} {its its2 : List Value} {Q : Option Value → Shared → Prop} (hh : A.handled = none) (L : ZLA S z TI TO i1 i2 a b) (hl : its.length = its2.length) (I : ZLI k1 k2 h0 S z TI TO i1 i2 a b its its2 i s.heap) (hi : i < its.length) {c : Nat} (hS : s.heap.get? S = some (lstO (outs S i) c))
    (hQ : ∀ h' tk, ZLI k1 k2 h0 S z TI TO i1 i2 a b its its2 (i + 1) h' → h'.get? S = some (lstO (outs S i) c) → Q (some (.ref (S + 1 + i))) { s with heap := h', toks := tk }) : wpAny (model prog w) A (pyNext (.ref z)) Q E s := by
  have D1 := drawsX (prog := prog) (w := w) (A := A.in1) k1 hh i1 a L.n1 its.toArray
  have D2 := drawsX (prog := prog) (w := w) (A := A.in1) k2 hh i2 b L.n2 its2.toArray
  have n1 : its.toArray.size = its.length := by simp
  have n2 : its2.toArray.size = its.length := by simp [hl]
  rw [n1] at D1
  rw [n2] at D2
  have hS1 : S ≠ z := fun e => absurd L.z (by rw [e]; exact Nat.lt_irrefl _)
  have hS2 : S ≠ TO := fun e => absurd L.to (by rw [e]; exact Nat.lt_irrefl _)
  have hS3 : S ≠ i1 := fun e => absurd L.i1 (by rw [e]; exact Nat.lt_irrefl _)
  have hS4 : S ≠ i2 := fun e => absurd L.i2 (by rw [e]; exact Nat.lt_irrefl _)
  have big : ∀ {c : Addr}, c < S → ∀ j, S + 1 + j ≠ c := fun h j => Nat.ne_of_gt (Nat.lt_of_lt_of_le h (Nat.le_trans (Nat.le_add_right S 1) (Nat.le_add_right _ j)))
  have fin : ∀ {x1 x2 : Value} {h' : Heap}, its.toArray[i]? = some x1 → its2.toArray[i]? = some x2 → IsTupOf2 h' (S + 1 + i) x1 x2 → (∀ j x y, j < i → its[j]? = some x → its2[j]? = some y → IsTupOf2 h' (S + 1 + j) x y) → ∀ j x y, j < i + 1 → its[j]? = some x → its2[j]? = some y → IsTupOf2 h' (S + 1 + j) x y := by
    intro x1 x2 h' g1 g2 tp old j x y hj e1 e2
    by_cases hji : j = i
    · subst hji
      have g1' : its[j]? = some x1 := by simpa using g1
      have g2' : its2[j]? = some x2 := by simpa using g2
      rw [e1] at g1'
      rw [e2] at g2'
      cases g1'
      cases g2'
      exact tp
    · exact old j x y (by omega) e1 e2
  rcases I.zip with ⟨h00, hz, x0, y0, hTO⟩ | ⟨hpos, f, hz⟩
  · refine py_zs ⟨_, hz, rfl⟩ (wpAny_mono (zs_first (E := fun _ _ => False) (Q := fun v s' => Q (some v) s') L.sep D1 D2 hz I.ti hTO I.it1 I.it2 hi fun x1 x2 h' tk g1 g2 z' j1 j2 tp sz kp => ?_) (fun _ _ q => q) fun _ _ q => False.elim q)
    rw [I.size] at z' tp ⊢
    refine hQ h' tk ⟨.inr ⟨Nat.succ_pos _, false, by subst h00; exact z'⟩, kp _ _ L.sep.TIz L.sep.TITO L.sep.TIi1 L.sep.TIi2 I.ti, j1, j2, by rw [sz, I.size]; rfl, fin g1 g2 tp fun j x y hj _ _ => absurd hj (by omega), fun c o h1 h2 h3 h4 h5 e => kp c o h2 h3 h4 h5 (I.keep c o h1 h2 h3 h4 h5 e)⟩ (kp _ _ hS1 hS2 hS3 hS4 hS)
  · have alive : ∃ oT, s.heap.get? (S + 1) = some oT := by
      have h0 : 0 < its.length := by omega
      have h1 : 0 < its2.length := by omega
      exact ⟨_, I.tups 0 _ _ hpos (List.getElem?_eq_getElem h0) (List.getElem?_eq_getElem h1)⟩
    obtain ⟨oT, hT⟩ := alive
    refine py_zs ⟨_, hz, rfl⟩ (wpAny_mono (zs_more (E := fun _ _ => False) (Q := fun v s' => Q (some v) s') L.sep D1 D2 hz hT I.ti I.it1 I.it2 hi fun x1 x2 h' tk g1 g2 z' j1 j2 tp sz kp => ?_) (fun _ _ q => q) fun _ _ q => False.elim q)
    rw [I.size] at tp ⊢
    refine hQ h' tk ⟨.inr ⟨Nat.succ_pos _, true, z'⟩, kp _ _ L.sep.TIz L.sep.TIi1 L.sep.TIi2 I.ti, j1, j2, by rw [sz, I.size]; rfl, fin g1 g2 tp fun j x y hj e1 e2 => kp _ _ (big L.z j) (big L.i1 j) (big L.i2 j) (I.tups j x y hj e1 e2), fun c o h1 h2 h3 h4 h5 e => kp c o h2 h4 h5 (I.keep c o h1 h2 h3 h4 h5 e)⟩ (kp _ _ hS1 hS3 hS4 hS)
theorem zl_end {k1 k2 : SK} {h0 : Heap} {S z TI TO i1 i2 a b : Addr} {its its2 : List Value} {Q : Option Value → Shared → Prop} (hh : A.handled = none) (L : ZLA S z TI TO i1 i2 a b) (hl : its.length = its2.length) (I : ZLI k1 k2 h0 S z TI TO i1 i2 a b its its2 its.length s.heap) {o : Obj} (hS : s.heap.get? S = some o)
    (hQ : ∀ h', ZLE h0 S z TO i1 i2 its its2 its.length h' → h'.get? S = some o → Q none { s with heap := h' }) : wpAny (model prog w) A (pyNext (.ref z)) Q E s := by
  have D1 := drawsX (prog := prog) (w := w) (A := A.in1) k1 hh i1 a L.n1 its.toArray
  have D2 := drawsX (prog := prog) (w := w) (A := A.in1) k2 hh i2 b L.n2 its2.toArray
  have n1 : its.toArray.size = its.length := by simp
  have n2 : its2.toArray.size = its.length := by simp [hl]
  rw [n1] at D1
  rw [n2] at D2
  have hS1 : S ≠ z := fun e => absurd L.z (by rw [e]; exact Nat.lt_irrefl _)
  have hS3 : S ≠ i1 := fun e => absurd L.i1 (by rw [e]; exact Nat.lt_irrefl _)
  have hS4 : S ≠ i2 := fun e => absurd L.i2 (by rw [e]; exact Nat.lt_irrefl _)
  have big : ∀ {c : Addr}, c < S → ∀ j, S + 1 + j ≠ c := fun h j => Nat.ne_of_gt (Nat.lt_of_lt_of_le h (Nat.le_trans (Nat.le_add_right S 1) (Nat.le_add_right _ j)))
  have out : ∀ (h' : Heap) (e : Addr), (∀ c o, c ≠ z → c ≠ i1 → c ≠ i2 → s.heap.get? c = some o → h'.get? c = some o) → (∃ o, h'.get? e = some o ∧ o.cls = .type "StopIteration") →
      (∃ a o, Value.ref e = .ref a ∧ ({ s with heap := h' } : Shared).heap.get? a = some o ∧ o.cls = .type "StopIteration") ∧ Q none { s with heap := h' } := fun h' e kp ⟨o', ho, hc⟩ =>
    ⟨⟨e, o', rfl, ho, hc⟩, hQ h' ⟨fun j x y hj e1 e2 => kp _ _ (big L.z j) (big L.i1 j) (big L.i2 j) (I.tups j x y hj e1 e2), fun c o h1 h2 h3 h4 h5 e => kp c o h2 h4 h5 (I.keep c o h1 h2 h3 h4 h5 e)⟩ (kp _ _ hS1 hS3 hS4 hS)⟩
  rcases I.zip with ⟨h00, hz, x0, y0, hTO⟩ | ⟨hpos, f, hz⟩
  · exact py_zs ⟨_, hz, rfl⟩ (zs_end0 hh L.sep D1 D2 hz I.ti I.it1 I.it2 out)
  · have alive : ∃ oT, s.heap.get? (S + 1) = some oT := by
      have h1 : 0 < its2.length := by omega
      exact ⟨_, I.tups 0 _ _ hpos (List.getElem?_eq_getElem hpos) (List.getElem?_eq_getElem h1)⟩
    obtain ⟨oT, hT⟩ := alive
    exact py_zs ⟨_, hz, rfl⟩ (zs_endH hh L.sep D1 D2 hz hT I.ti I.it1 I.it2 out)
theorem zs_self {TI TO : Addr} {f0 : Value} {f1 : Bool} {Q : Value → Shared → Prop} (hz : IsZs s.heap z TI TO f0 f1) (h : Q (.ref z) s) : wpAny (model prog w) A (pyIter (.ref z)) Q E s := by
  have hT : s.TypeIs (.ref z) "zip" := ⟨_, hz, rfl⟩
  refine wpAny_pyIter_slot hT F.slot_zip_iter (wpAny_call_entry F.slot_zip_iter hT F.entry_zip_iter ?_ (F.args_zip_iter_1 _))
  show wpAny _ _ (PySem.ret (.ref z)) _ _ s
  exact wpAny_pure ⟨_, rfl, _, _, hT, F.slot_zip_next.lookup, h⟩
/-- the loop of list.extend -/
theorem zl_loop {k1 k2 : SK} {h0 : Heap} {S z TI TO i1 i2 a b : Addr} {its its2 : List Value} {R : Result → Shared → Prop} (hh : A.handled = none) (L : ZLA S z TI TO i1 i2 a b) (hl : its.length = its2.length) (hz : its.length ≤ sizeLine) (res : Value) :
    ∀ (r i : Nat) (s : Shared) (c : Nat), its.length - i = r → i ≤ its.length → ZLI k1 k2 h0 S z TI TO i1 i2 a b its its2 i s.heap → s.heap.get? S = some (lstO (outs S i) c) →
      (∀ h' tk c', ZLE h0 S z TO i1 i2 its its2 its.length h' → h'.get? S = some (lstO (outs S its.length) c') → R (.ok (.ret res)) { s with heap := h', toks := tk }) → codeAny (model prog w) A (.builtin "list.extend.loop" ⟨[.ref S, .ref z, res], []⟩) R s := by
  have hS1 : S ≠ z := fun e => absurd L.z (by rw [e]; exact Nat.lt_irrefl _)
  intro r
  induction r with
  | zero =>
    intro i s c hk hi I hS hR
    obtain rfl : i = its.length := by omega
    refine codeAny_builtin F.entry_extend_loop ?_
    rw [Around.under_plainId F.plain_extend_loop _]
    show wpAny _ A.in1 (pyNext (.ref z) >>= _) _ _ s
    exact wpAny_bind (zl_end (A := A.in1) hh L hl I hS fun h' ze hS' => wpAny_pure (hR h' s.toks c ze hS'))
  | succ r ih =>
    intro i s c hk hi I hS hR
    have hlt : i < its.length := by omega
    refine codeAny_builtin F.entry_extend_loop ?_
    rw [Around.under_plainId F.plain_extend_loop _]
    show wpAny _ A.in1 (pyNext (.ref z) >>= _) _ _ s
    refine wpAny_bind (zl_turn (A := A.in1) hh L hl I hlt hS fun h' tk I' hS' => ?_)
    show wpAny _ A.in1 (updateSeq S (·.push (.ref (S + 1 + i))) >>= _) _ _ _
    refine wpAny_bind ?_
    have osz : (outs S i).size = i := by simp [outs]
    obtain ⟨c2, hS2⟩ : ∃ c2, (h'.update S (Obj.mapSeq (·.push (.ref (S + 1 + i))))).get? S = some (lstO (outs S (i + 1)) c2) := ⟨_, by
      rw [outs_succ]
      exact Heap.get?_update_self _ hS' rfl⟩
    refine wpAny_updateSeq (s := { s with heap := h', toks := tk }) hS' rfl (wpAny_pure ⟨plainId_quiet F.plain_extend_loop _, ih (i + 1) _ c2 (by omega) hlt ?_ hS2 fun h2 tk2 c2 ze hS2 => hR h2 tk2 c2 ze hS2⟩) (by rw [osz]; omega) (by show ((outs S i).push _).size ≤ sizeLine + 1; rw [Array.size_push, osz]; omega)
    · clear hS2
      have oth : ∀ c o, c ≠ S → h'.get? c = some o → (h'.update S (Obj.mapSeq (·.push (.ref (S + 1 + i))))).get? c = some o := fun c o n e => (Heap.get?_update_other _ _ (Ne.symm n)).trans e
      have lt : ∀ {c : Addr}, c < S → c ≠ S := fun h e => absurd h (by rw [e]; exact Nat.lt_irrefl _)
      have big : ∀ j, S + 1 + j ≠ S := fun j => Nat.ne_of_gt (Nat.lt_of_lt_of_le (Nat.lt_succ_self S) (Nat.le_add_right _ j))
      have sqk : ∀ {k : SK} {c : Addr} {xs : Array Value}, c < S → IsSq k h' c xs → IsSq k (h'.update S (Obj.mapSeq (·.push (.ref (S + 1 + i))))) c xs := fun {k c xs} hc q => by
        cases k with
        | l => obtain ⟨o, e, r⟩ := q; exact ⟨o, oth _ _ (lt hc) e, r⟩
        | t => obtain ⟨o, e, r⟩ := q; exact ⟨o, oth _ _ (lt hc) e, r⟩
      have szu : (h'.update S (Obj.mapSeq (·.push (.ref (S + 1 + i))))).objs.size = h'.objs.size := (Heap.SameBut.update ..).1
      refine ⟨?_, oth _ _ (lt L.ti) I'.ti, ⟨I'.it1.1.at' fun o e => oth _ _ (lt L.i1) e, sqk L.a I'.it1.2⟩, ⟨I'.it2.1.at' fun o e => oth _ _ (lt L.i2) e, sqk L.b I'.it2.2⟩, szu.trans I'.size, fun j x y hj e1 e2 => oth _ _ (big j) (I'.tups j x y hj e1 e2), fun c o h1 h2 h3 h4 h5 e => oth _ _ (lt h1) (I'.keep c o h1 h2 h3 h4 h5 e)⟩
      rcases I'.zip with ⟨h00, _⟩ | ⟨hp, f, hz'⟩
      · exact absurd h00 (Nat.succ_ne_zero i)
      · exact .inr ⟨hp, f, oth _ _ (lt L.z) hz'⟩
/-- list(z) -/
theorem zl_extend {k1 k2 : SK} {S z TI TO i1 i2 a b : Addr} {its its2 : List Value} {h0 : Heap} {R : Result → Shared → Prop} (hh : A.handled = none) (L : ZLA S z TI TO i1 i2 a b) (hl : its.length = its2.length) (hz : its.length ≤ sizeLine) (res : Value)
    (I : ZLI k1 k2 h0 S z TI TO i1 i2 a b its its2 0 s.heap) (hS : s.heap.get? S = some (lstO #[] 0)) (hR : ∀ h' tk c', ZLE h0 S z TO i1 i2 its its2 its.length h' → h'.get? S = some (lstO (outs S its.length) c') → R (.ok (.ret res)) { s with heap := h', toks := tk }) :
    wpAny (model prog w) A.in1 (Builtin.List.listExtendWith (.ref S) (.ref z) res) (fun fin s' => match fin with | .done f => R (.ok f) s' | .again c' => c'.quiet = true ∧ codeAny (model prog w) A c' R s') (fun e s' => R (.error e) s') s := by
  have hSz : S ≠ z := fun e => absurd L.z (by rw [e]; exact Nat.lt_irrefl _)
  rcases I.zip with ⟨_, hzz, hTO⟩ | ⟨hp, _⟩
  · have hT : s.TypeIs (.ref z) "zip" := ⟨_, hzz, rfl⟩
    unfold Builtin.List.listExtendWith
    refine wpAny_bind (wpAny_typeOf hT ?_)
    have h1 : Builtin.List.listSameRef (.ref S) (.ref z) = false := by simp [Builtin.List.listSameRef, hSz]
    have h2 : (Value.type "zip" == Value.type "list") = false := by decide
    have h3 : (Value.type "zip" == Value.type "tuple") = false := by decide
    simp only [h1, h2, h3, Bool.or_false, Bool.false_eq_true, if_false]
    refine wpAny_bind (zs_self hzz ?_)
    refine wpAny_bind (wpAny_holding ?_)
    unfold Builtin.List.listLengthHint
    refine wpAny_bind (wpAny_specialOf hT zs_no_len ?_)
    show wpAny _ A.in1 (specialOf (Value.ref z) (Str.ofString "__length_hint__") >>= _) _ _ _
    refine wpAny_bind (wpAny_specialOf hT zs_no_hint ?_)
    refine wpAny_pure ?_
    show wpAny _ A.in1 (rule "list.extend.makes-room" >>= fun _ => Builtin.List.listTouch (.ref S) >>= fun _ => again (.builtin "list.extend.loop" ⟨[.ref S, .ref z, res], []⟩)) _ _ _
    refine wpAny_bind (wpAny_rule ?_)
    refine wpAny_bind ?_
    show wpAny _ A.in1 (updateSeq S (·.push .none) >>= fun _ => updateSeq S (·.pop)) _ _ _
    refine wpAny_bind (wpAny_updateSeq hS rfl ?_)
    have hS2 := Heap.get?_update_self (Obj.mapSeq (·.push Value.none)) hS rfl
    refine wpAny_updateSeq (hz := by seq_fits) hS2 rfl ?_
    have hS3 := Heap.get?_update_self (Obj.mapSeq (·.pop)) hS2 rfl
    have oth : ∀ c o, c ≠ S → s.heap.get? c = some o → ((s.heap.update S (Obj.mapSeq (·.push Value.none))).update S (Obj.mapSeq (·.pop))).get? c = some o := fun c o n e =>
      (Heap.get?_update_other _ _ (Ne.symm n)).trans ((Heap.get?_update_other _ _ (Ne.symm n)).trans e)
    have lt : ∀ {c : Addr}, c < S → c ≠ S := fun h e => absurd h (by rw [e]; exact Nat.lt_irrefl _)
    have sqk : ∀ {k : SK} {c : Addr} {xs : Array Value}, c < S → IsSq k s.heap c xs → IsSq k ((s.heap.update S (Obj.mapSeq (·.push Value.none))).update S (Obj.mapSeq (·.pop))) c xs := fun {k c xs} hc q => by
      cases k with
      | l => obtain ⟨o, e, r⟩ := q; exact ⟨o, oth _ _ (lt hc) e, r⟩
      | t => obtain ⟨o, e, r⟩ := q; exact ⟨o, oth _ _ (lt hc) e, r⟩
    obtain ⟨x0, y0, hTO⟩ := hTO
    refine wpAny_pure ⟨plainId_quiet F.plain_extend_loop _, zl_loop hh L hl hz res its.length 0 _ _ rfl (Nat.zero_le _) ⟨.inl ⟨rfl, oth _ _ (lt L.z) hzz, x0, y0, oth _ _ (lt L.to) hTO⟩, oth _ _ (lt L.ti) I.ti, ⟨I.it1.1.at' fun o e => oth _ _ (lt L.i1) e, sqk L.a I.it1.2⟩, ⟨I.it2.1.at' fun o e => oth _ _ (lt L.i2) e, sqk L.b I.it2.2⟩, ?_, fun j x y hj => absurd hj (Nat.not_lt_zero j), fun c o h1 h2 h3 h4 h5 e => oth _ _ (lt h1) (I.keep c o h1 h2 h3 h4 h5 e)⟩ hS3 fun h' tk c' ze hS' => hR h' tk c' ze hS'⟩
    exact ((Heap.SameBut.update ..).1.trans (Heap.SameBut.update ..).1).trans I.size
  · exact absurd hp (Nat.lt_irrefl 0)
end
end HF

/-! HF: list(zip(a, b, strict=True)) as an expression. -/
namespace HF
open PySem PySem.Spec L2
open PyProof.Rows hiding St
open Sem (wp)
section
variable {prog : Program} {w : World} {A : Around} {E : Value → Shared → Prop} {s : Shared}
theorem zl_call {k1 k2 : SK} {z TI TO i1 i2 a b : Addr} {its its2 : List Value} {Q : Value → Shared → Prop} (hh : A.handled = none) (L : ZLA s.heap.objs.size z TI TO i1 i2 a b) (hl : its.length = its2.length) (hz : its.length ≤ sizeLine)
    (I : ZLI k1 k2 s.heap s.heap.objs.size z TI TO i1 i2 a b its its2 0 (s.heap.push { cls := .type "list", data := .seq #[] }))
    (hQ : ∀ h' tk c', ZLE s.heap s.heap.objs.size z TO i1 i2 its its2 its.length h' → h'.get? s.heap.objs.size = some (lstO (outs s.heap.objs.size its.length) c') → Q (.ref s.heap.objs.size) { s with heap := h', toks := tk }) :
    wpAny (model prog w) A (call (.type "list") [.ref z]) Q E s := by
  refine callType_codes (Q₁ := fun obj s1 => obj = .ref s.heap.objs.size ∧ s1 = { s with heap := s.heap.push { cls := .type "list", data := .seq #[] } }) F.called_list (F.typeCall_list_1 _) F.entry_list_init (code_list_new _ ⟨rfl, rfl⟩) fun obj s1 h1 => ?_
  obtain ⟨rfl, rfl⟩ := h1
  have hS : (s.heap.push { cls := .type "list", data := .seq #[] }).get? s.heap.objs.size = some (lstO #[] 0) := Heap.get?_push_size _ rfl
  refine ⟨⟨_, hS, rfl⟩, F.args_list_init_2 _ _, ?_⟩
  show wpAny _ A.in1.in1 (do let old ← Builtin.List.listItems (.ref s.heap.objs.size); Builtin.List.listUpdate (.ref s.heap.objs.size) (fun _ => #[]); letGo old.toList.reverse; Builtin.List.listExtendWith (.ref s.heap.objs.size) (.ref z) .none) _ _ _
  refine wpAny_bind ?_
  unfold Builtin.List.listItems
  refine wpAny_bind (wpAny_seqItems hS rfl (wpAny_pure ?_))
  show wpAny _ A.in1.in1 (updateSeq s.heap.objs.size (fun _ => #[]) >>= fun _ => letGo (#[] : Array Value).toList.reverse >>= fun _ => Builtin.List.listExtendWith (.ref s.heap.objs.size) (.ref z) .none) _ _ _
  refine wpAny_bind (wpAny_updateSeq hS rfl ?_)
  have hS2 := Heap.get?_update_self (Obj.mapSeq (fun _ => (#[] : Array Value))) hS rfl
  refine wpAny_bind (wpAny_letGo ?_)
  have oth : ∀ c o, c ≠ s.heap.objs.size → (s.heap.push { cls := .type "list", data := .seq #[] }).get? c = some o → ((s.heap.push { cls := .type "list", data := .seq #[] }).update s.heap.objs.size (Obj.mapSeq (fun _ => (#[] : Array Value)))).get? c = some o := fun c o n e =>
    (Heap.get?_update_other _ _ (Ne.symm n)).trans e
  have lt : ∀ {c : Addr}, c < s.heap.objs.size → c ≠ s.heap.objs.size := fun h => Nat.ne_of_lt h
  have sqk : ∀ {k : SK} {c : Addr} {xs : Array Value}, c < s.heap.objs.size → IsSq k (s.heap.push { cls := .type "list", data := .seq #[] }) c xs → IsSq k ((s.heap.push { cls := .type "list", data := .seq #[] }).update s.heap.objs.size (Obj.mapSeq (fun _ => (#[] : Array Value)))) c xs := fun {k c xs} hc q => by
    cases k with
    | l => obtain ⟨o, e, r⟩ := q; exact ⟨o, oth _ _ (lt hc) e, r⟩
    | t => obtain ⟨o, e, r⟩ := q; exact ⟨o, oth _ _ (lt hc) e, r⟩
  rcases I.zip with ⟨_, hzz, x0, y0, hTO⟩ | ⟨hp, _⟩
  · refine zl_extend (A := A.in1) hh L hl hz .none ⟨.inl ⟨rfl, oth _ _ (lt L.z) hzz, x0, y0, oth _ _ (lt L.to) hTO⟩, oth _ _ (lt L.ti) I.ti, ⟨I.it1.1.at' fun o e => oth _ _ (lt L.i1) e, sqk L.a I.it1.2⟩, ⟨I.it2.1.at' fun o e => oth _ _ (lt L.i2) e, sqk L.b I.it2.2⟩, (Heap.SameBut.update ..).1.trans I.size, fun j x y hj => absurd hj (Nat.not_lt_zero j), fun c o h1 h2 h3 h4 h5 e => oth _ _ (lt h1) (I.keep c o h1 h2 h3 h4 h5 e)⟩ hS2 fun h' tk c' ze hS' => ⟨rfl, hQ h' tk c' ze hS'⟩
  · exact absurd hp (Nat.lt_irrefl 0)
/-! ### zip(v1, v2, strict=True) -/
theorem zs_typeCall (a b c : Value) : checkTypeCall "zip" ⟨[a, b], [(Str.ofString "strict", c)]⟩ = pure () := by kernel_rfl
theorem zs_newCall (a b c : Value) : checkBuiltinCall "zip.__new__" ⟨[.type "zip", a, b], [(Str.ofString "strict", c)]⟩ = pure () := by kernel_rfl
theorem zs_args (obj a b c : Value) : argsOk "object.__init__" ⟨[obj, a, b], [(Str.ofString "strict", c)]⟩ := by unfold argsOk; kernel_rfl
abbrev zsZ (h : Heap) (o1 o2 : Obj) : Heap := (gzO2 h o1 o2).push { cls := .type "zip", data := .fields #[.none, .bool false, .bool true, .ref ((h.push o1).push o2).objs.size, .ref (gzT2 h o1 o2).objs.size] }
theorem zs_new {v1 v2 : Value} {o1 o2 : Obj} {Ok1 Ok2 : Heap → Prop} (B1 : Begins v1 o1 Ok1) (B2 : Begins v2 o2 Ok2) :
    Meets (Builtin.«zip.__new__» ⟨[.type "zip", v1, v2], [(Str.ofString "strict", .bool true)]⟩) (fun _ R s => (Ok1 s.heap ∧ Ok2 s.heap) ∧ R (.ok (.ret (.ref (gzO2 s.heap o1 o2).objs.size))) { s with heap := zsZ s.heap o1 o2 }) :=
  .of_wp fun prog w A R s h => by
    obtain ⟨hp, g, d, tk, os⟩ := s
    obtain ⟨⟨h1, h2⟩, h⟩ := h
    have hsub := sub_zip
    have q1 : ∀ {A' : Around} {E : Value → Shared → Prop} {Q : Value → Shared → Prop}, Q (.ref hp.objs.size) ⟨hp.push o1, g, d, tk, os⟩ → wpAny (model prog w) A' (pyIter v1) Q E ⟨hp, g, d, tk, os⟩ := fun q =>
      B1.iter prog w _ _ ⟨hp, g, d, tk, os⟩ _ h1 q
    have q2 : ∀ {A' : Around} {E : Value → Shared → Prop} {Q : Value → Shared → Prop}, Q (.ref (hp.push o1).objs.size) ⟨(hp.push o1).push o2, g, d, tk, os⟩ → wpAny (model prog w) A' (pyIter v2) Q E ⟨hp.push o1, g, d, tk, os⟩ := fun q =>
      B2.iter prog w _ _ ⟨hp.push o1, g, d, tk, os⟩ _ (B2.keeps _ _ h2 fun b o' e => Heap.get?_push_of_some _ e) q
    have e1 : (Str.ofString "strict" == ("strict" : Str)) = true := by decide +kernel
    have e2 : (Str.ofString "strict" != ("strict" : Str)) = false := by decide +kernel
    wp_walk using q1, q2
    exact ⟨_, rfl, h⟩
theorem zs_call {v1 v2 : Value} {o1 o2 : Obj} {Ok1 Ok2 : Heap → Prop} {Q : Value → Shared → Prop} (B1 : Begins v1 o1 Ok1) (B2 : Begins v2 o2 Ok2) (h1 : Ok1 s.heap) (h2 : Ok2 s.heap)
    (h : ∀ h', IsZs h' (s.heap.objs.size + 4) (s.heap.objs.size + 2) (s.heap.objs.size + 3) .none false → IsTupOf2 h' (s.heap.objs.size + 2) (.ref s.heap.objs.size) (.ref (s.heap.objs.size + 1)) → IsTupOf2 h' (s.heap.objs.size + 3) .none .none → h'.get? s.heap.objs.size = some o1 → h'.get? (s.heap.objs.size + 1) = some o2 →
      h'.objs.size = s.heap.objs.size + 5 → (∀ c o, s.heap.get? c = some o → h'.get? c = some o) → Q (.ref (s.heap.objs.size + 4)) { s with heap := h' }) :
    wpAny (model prog w) A (call (.type "zip") [v1, v2] [(Str.ofString "strict", .bool true)]) Q E s := by
  refine callType_newKw F.called_zip (by decide) (zs_typeCall _ _ _) (zs_newCall _ _ _) (fun obj => zs_args obj _ _ _) F.entry_zip_new (zs_new B1 B2) ⟨⟨h1, h2⟩, ?_⟩
  have z1 : (s.heap.push o1).objs.size = s.heap.objs.size + 1 := by rw [Heap.size_push]
  have z2 : ((s.heap.push o1).push o2).objs.size = s.heap.objs.size + 2 := by rw [Heap.size_push, z1]
  have zT : (gzT2 s.heap o1 o2).objs.size = s.heap.objs.size + 3 := by rw [Heap.size_push, z2]
  have zO : (gzO2 s.heap o1 o2).objs.size = s.heap.objs.size + 4 := by rw [Heap.size_push, zT]
  have zZ : (zsZ s.heap o1 o2).objs.size = s.heap.objs.size + 5 := by rw [Heap.size_push, zO]
  have gZ : (zsZ s.heap o1 o2).get? (gzO2 s.heap o1 o2).objs.size = some { cls := .type "zip", data := .fields #[.none, .bool false, .bool true, .ref ((s.heap.push o1).push o2).objs.size, .ref (gzT2 s.heap o1 o2).objs.size] } := Heap.get?_push_size _ rfl
  have gO : (zsZ s.heap o1 o2).get? (gzT2 s.heap o1 o2).objs.size = some (tupO #[.none, .none]) := Heap.get?_push_of_some _ (Heap.get?_push_size _ rfl)
  have gT : (zsZ s.heap o1 o2).get? ((s.heap.push o1).push o2).objs.size = some (tupO #[.ref s.heap.objs.size, .ref (s.heap.push o1).objs.size]) := Heap.get?_push_of_some _ (Heap.get?_push_of_some _ (Heap.get?_push_size _ rfl))
  have g1 : (zsZ s.heap o1 o2).get? s.heap.objs.size = some o1 := Heap.get?_push_of_some _ (Heap.get?_push_of_some _ (Heap.get?_push_of_some _ (Heap.get?_push_of_some _ (Heap.get?_push_size _ B1.free))))
  have g2 : (zsZ s.heap o1 o2).get? (s.heap.push o1).objs.size = some o2 := Heap.get?_push_of_some _ (Heap.get?_push_of_some _ (Heap.get?_push_of_some _ (Heap.get?_push_size _ B2.free)))
  rw [zO, zT, z2] at gZ
  rw [zT] at gO
  rw [z2, z1] at gT
  rw [z1] at g2
  show _ ∧ _
  rw [zO]
  exact ⟨⟨_, gZ, rfl⟩, h _ gZ gT gO g1 g2 zZ fun c o e => Heap.get?_push_of_some _ (Heap.get?_push_of_some _ (Heap.get?_push_of_some _ (Heap.get?_push_of_some _ (Heap.get?_push_of_some _ e))))⟩
end
end HF

/-! HF: list(zip(a, b, strict=True)), the rule. -/
namespace HF
open PySem PySem.Spec L2
open PyProof.Rows hiding St
section
variable {X : Cx}
/-- many new things at once -/
theorem inv_many {pins : List (Addr × Obj)} {σ : St} {H H' : Hp} {s : Shared} {h' : Heap} {t' : Nat} (I : Inv X pins σ H s) (k : ∀ b u, s.heap.get? b = some u → h'.get? b = some u) (ext : ∀ b u, H b = some u → H' b = some u)
    (new : ∀ b u, H b = none → H' b = some u → s.heap.objs.size ≤ b ∧ ObjOk X.prog X.w H' h' b u) : Inv X pins σ H' { s with heap := h', toks := t' } := by
  refine I.un ⟨fun b u q _ _ _ => k b u q, fun b u q _ _ _ => ⟨u.slots, k b u q⟩, fun b u q n _ => ?_, fun b u q _ => ⟨u, k b u q⟩, fun b xs q => ext b _ q, fun b o u q => ext b _ q, fun b ps q => ⟨#[], by rw [ext b _ q]; simp⟩⟩ fun b u e => ?_
  · cases e : H' b with
    | none => rfl
    | some v => exact absurd (Heap.lt_size q) (Nat.not_lt.mpr (new b v n e).1)
  · cases q : H b with
    | none => exact (new b u q e).2
    | some v =>
      have := ext b v q
      rw [e] at this
      cases this
      exact (I.hok b u q).stay (fun c v _ z => k c v z) (fun c z => ext c _ z) fun c xs z => ext c _ z
theorem callWith_tkw {M : Model} {A : Around} {E : Value → Shared → Prop} {s : Shared} {env : PySem.Env} {pos : Pos} {T : String} {e : Expr} {rest : List Expr} {kws : List Keyword} {Q : Value → Shared → Prop}
    (h : wpAny M A (spliced (backTo pos (starEach (e :: rest) env))) (fun vs s1 => wpAny M A (evalAll ((backToKw pos (keywordEach kws env)).map (·.2))) (fun kvs s2 => wpAny M A (call (.type T) vs (((backToKw pos (keywordEach kws env)).filterMap (·.1)).zip kvs)) Q E s2) E s1) E s)
    (he : starEach (e :: rest) env = (false, eval e env) :: starEach rest env) (hplain : ((backTo pos (starEach (e :: rest) env)).any (·.1) || (backToKw pos (keywordEach kws env)).any (·.1.isNone)) = false) (hall : (backToKw pos (keywordEach kws env)).all (·.1.isSome) = true) :
    wpAny M A (callWith pos (.type T) [] (backTo pos (starEach (e :: rest) env)) (backToKw pos (keywordEach kws env))) Q E s := by
  have ev : wpAny M A (evalArgs (.type T) true (backTo pos (starEach (e :: rest) env)) (backToKw pos (keywordEach kws env))) (fun a s1 => wpAny M A (call (.type T) ([] ++ a.pos) a.kw) Q E s1) E s := by
    rw [he] at h ⊢
    exact PyProof.Rows.evalArgs_kwB hall h
  unfold callWith
  refine wpAny_bind (wpAny_holding (wpAny_mono ev (fun a s1 h1 => wpAny_bind (wpAny_standAt ?_)) fun _ _ x => x))
  simp only [hplain]
  refine wpAny_bind (wpAny_pure ?_)
  exact wpAny_bind (wpAny_mono h1 (fun r s2 hr => wpAny_bind (wpAny_holding (wpAny_point (wpAny_pure hr)))) fun _ _ x => x)
def tLzs (K : PySem.W.Frag) (ta : TA) : TE := fun σ H Q => ta σ H fun vs H1 => ∃ k1 k2 a b xs ys, vs = [.ref a, .ref b] ∧ SqX k1 K H1 a xs ∧ SqX k2 K H1 b ys ∧ xs.length = ys.length ∧ ∀ (H2 : Hp) (S : Addr), (∀ c u, H1 c = some u → H2 c = some u) → H1 S = none → H2 S = some (.lst ((List.range xs.length).map fun j => V.ref (S + 1 + j))) →
  (∀ j x y, xs[j]? = some x → ys[j]? = some y → ∃ o : Obj, o.dict = none ∧ H2 (S + 1 + j) = some (.frz o (.tup [x, y]))) → Q (.ref S) H2
theorem pe_lzs {e e2 : Expr} {ta : TA} {p p2 kp kpos zpos pos : Pos} {kk : Nat} (hg : Gl X "list") (hm : X.mg "list" = none) (hg2 : Gl X "zip") (hm2 : X.mg "zip" = none) (ha : PA X [e, e2] ta) (hc : X.calm = true)
    (he : starEach [e, e2] X.env = (false, eval e X.env) :: starEach [e2] X.env) (he2 : starEach [.Call (.Name "zip" p2) [e, e2] [⟨some "strict", .Constant (.bool true) kk kp, kpos⟩] zpos] X.env = (false, eval (.Call (.Name "zip" p2) [e, e2] [⟨some "strict", .Constant (.bool true) kk kp, kpos⟩] zpos) X.env) :: starEach [] X.env)
    (hpl : ((backTo zpos (starEach [e, e2] X.env)).any (·.1) || (backToKw zpos (keywordEach [⟨some "strict", .Constant (.bool true) kk kp, kpos⟩] X.env)).any (·.1.isNone)) = false) :
    PE X (.Call (.Name "list" p) [.Call (.Name "zip" p2) [e, e2] [⟨some "strict", .Constant (.bool true) kk kp, kpos⟩] zpos] [] pos) (tLzs X.K ta) := by
  refine ⟨fun pins s σ H Q I h => ?_⟩
  refine Call_ (ld_blt I hg hm PyProof.Rows.boot_list (PyProof.Rows.callWith_type1 (PyProof.Rows.args_cons ?_ he2) he2 rfl))
  refine wpAny_Call_Name_kw (ld_blt I hg2 hm2 PyProof.Rows.boot_zip ?_)
  refine callWith_tkw (thn (ha.run zpos pins s σ H _ I h) fun us s1 ⟨vs, H1, I1, r1, k1, k2, a, b, xs, ys, ex, hqx, hqy, hl, q⟩ => ?_) he hpl rfl
  subst ex
  obtain ⟨u1, u2, rfl, r1, r2⟩ := r1.two
  cases r1
  cases r2
  have pk : PK X [⟨some "strict", .Constant (.bool true) kk kp, kpos⟩] (tCons (tC (.bl true)) tNil) := pk_cons pe_bl pk_nil
  refine thn (pk.run zpos pins s1 σ H1 (fun vs H2 => vs = [.bl true] ∧ H2 = H1) I1 ⟨rfl, rfl⟩) fun ws s2 ⟨zs, H2, I2, rz, ez, eH⟩ => ?_
  subst ez eH
  obtain ⟨w1, rfl, rw1⟩ := rz.one
  obtain rfl : w1 = Value.bool true := rw1
  obtain ⟨its, rv, p1, lz⟩ := inv_sq I2 hqx
  obtain ⟨its2, rv2, p2, _⟩ := inv_sq I2 hqy
  show wpAny _ _ (call (.type "zip") [.ref a, .ref b] [(Str.ofString "strict", .bool true)]) _ _ s2
  refine zs_call (beginsX k1 a its.toArray) (beginsX k2 b its2.toArray) p1 p2 fun h' hz hTI hTO g1 g2 hsz hk => PyProof.Rows.args_nil ?_
  generalize hN : s2.heap.objs.size = N at hz hTI hTO g1 g2 hsz
  have ltN : ∀ {c : Addr} {o : Obj}, s2.heap.get? c = some o → c < N := fun e => hN ▸ Heap.lt_size e
  have aN : a < N := hN ▸ p1.lt
  have bN : b < N := hN ▸ p2.lt
  have S5 : ∀ {c : Addr}, c < N → c < N + 5 := fun h => Nat.lt_of_lt_of_le h (Nat.le_add_right _ _)
  have L : ZLA (N + 5) (N + 4) (N + 2) (N + 3) N (N + 1) a b := ⟨zip_sep2 (fun c hc => by rw [List.mem_singleton.mp hc]; exact aN) (fun c hc => by rw [List.mem_singleton.mp hc]; exact bN), Nat.ne_of_lt aN, Nat.ne_of_lt (Nat.lt_succ_of_lt bN), Nat.lt_succ_self _, Nat.add_lt_add_left (by decide) N, Nat.add_lt_add_left (by decide) N, Nat.lt_add_of_pos_right (by decide), Nat.add_lt_add_left (by decide) N, S5 aN, S5 bN⟩
  have l1 := rv.length
  have l2 := rv2.length
  have sqp : ∀ {k : SK} {c : Addr} {zs : Array Value}, IsSq k s2.heap c zs → IsSq k (h'.push { cls := .type "list", data := .seq #[] }) c zs := fun {k c zs} q => by
    cases k with
    | l => obtain ⟨o, e, r⟩ := q; exact ⟨o, Heap.get?_push_of_some _ (hk _ _ e), r⟩
    | t => obtain ⟨o, e, r⟩ := q; exact ⟨o, Heap.get?_push_of_some _ (hk _ _ e), r⟩
  have pz : ∀ {c : Addr} {o : Obj}, h'.get? c = some o → (h'.push { cls := .type "list", data := .seq #[] }).get? c = some o := fun e => Heap.get?_push_of_some _ e
  have go := fun Q' hQ' => zl_call (prog := X.prog) (w := X.w) (A := X.A) (E := X.xe) (s := { s2 with heap := h' }) (k1 := k1) (k2 := k2) (z := N + 4) (TI := N + 2) (TO := N + 3) (i1 := N) (i2 := N + 1) (a := a) (b := b) (its := its) (its2 := its2) (Q := Q') (I2.ok.hd hc) (by rw [hsz]; exact L) (by omega) (by omega)
    (by rw [hsz]; exact ⟨.inl ⟨rfl, pz hz, _, _, pz hTO⟩, pz hTI, ⟨isIt0 (pz g1), sqp p1⟩, ⟨isIt0 (pz g2), sqp p2⟩, by rw [Heap.size_push, hsz], fun j x y hj => absurd hj (Nat.not_lt_zero j), fun c o _ _ _ _ _ e => pz e⟩) hQ'
  simp only [hsz] at go
  refine go (EP X pins σ Q) fun h2 tk c2 ze hS => ?_
  -- what has come
  have keep : ∀ c o, s2.heap.get? c = some o → h2.get? c = some o := fun c o e => by
    have hc := ltN e
    exact ze.keep c o (S5 hc) (Nat.ne_of_lt (Nat.lt_of_lt_of_le hc (Nat.le_add_right _ _))) (Nat.ne_of_lt (Nat.lt_of_lt_of_le hc (Nat.le_add_right _ _))) (Nat.ne_of_lt hc) (Nat.ne_of_lt (Nat.lt_succ_of_lt hc)) (hk c o e)
  have fresh : ∀ c : Addr, N ≤ c → H2 c = none := fun c h => I2.hok.fresh (hN.symm ▸ h)
  let T : Nat → Option HO := fun j => match xs[j]?, ys[j]?, its[j]?, its2[j]? with
    | some x, some y, some u, some v => some (.frz (tupO #[u, v]) (.tup [x, y]))
    | _, _, _, _ => none
  let H3 : Hp := fun c => if c = N + 5 then some (.lst ((List.range xs.length).map fun j => V.ref (N + 5 + 1 + j))) else if N + 6 ≤ c then T (c - (N + 6)) else H2 c
  have H3S : H3 (N + 5) = some (.lst ((List.range xs.length).map fun j => V.ref (N + 5 + 1 + j))) := if_pos rfl
  have H3T : ∀ j, H3 (N + 5 + 1 + j) = T j := fun j => by
    show (if (N + 5 + 1 + j : Nat) = N + 5 then _ else if N + 6 ≤ (N + 5 + 1 + j : Nat) then T ((N + 5 + 1 + j : Nat) - (N + 6)) else _) = _
    rw [if_neg (by omega), if_pos (by omega)]
    congr 1
    omega
  have H3o : ∀ c u, H2 c = some u → H3 c = some u := fun c u e => by
    have hc : c < N := Nat.lt_of_not_le fun h => by rw [fresh c h] at e; cases e
    have c5 : (c : Nat) ≠ N + 5 := Nat.ne_of_lt (S5 hc)
    have c6 : ¬ N + 6 ≤ (c : Nat) := Nat.not_le.mpr (Nat.lt_of_lt_of_le hc (Nat.le_add_right _ _))
    show (if (c : Nat) = N + 5 then _ else if N + 6 ≤ (c : Nat) then _ else H2 c) = _
    rw [if_neg c5, if_neg c6]
    exact e
  have Tat : ∀ {j : Nat} {u : HO}, T j = some u → ∃ x y v v2, xs[j]? = some x ∧ ys[j]? = some y ∧ its[j]? = some v ∧ its2[j]? = some v2 ∧ u = .frz (tupO #[v, v2]) (.tup [x, y]) := fun {j u} e => by
    have e' : (match xs[j]?, ys[j]?, its[j]?, its2[j]? with
      | some x, some y, some u, some v => some (HO.frz (tupO #[u, v]) (.tup [x, y]))
      | _, _, _, _ => none) = some u := e
    split at e'
    · rename_i x y v v2 h1 h2 h3 h4
      cases e'
      exact ⟨x, y, v, v2, h1, h2, h3, h4, rfl⟩
    · cases e'
  have I3 : Inv X pins σ H3 { s2 with heap := h2, toks := tk } := inv_many I2 keep H3o fun c u hn e => by
    by_cases c5 : c = N + 5
    · subst c5
      rw [H3S] at e
      cases e
      refine ⟨by rw [hN]; exact Nat.le_add_right _ _, by rw [List.length_map, List.length_range]; exact lz, _, c2, ?_, hS⟩
      rw [← l1]
      have : ∀ ns : List Nat, Vals (ns.map fun j => V.ref (N + 5 + 1 + j)) (ns.map fun j => Value.ref (N + 5 + 1 + j)) := by
        intro ns
        induction ns with
        | nil => exact .nil
        | cons n ns ih => exact .cons rfl ih
      exact this _
    · have e' : (if c = N + 5 then some (HO.lst ((List.range xs.length).map fun j => V.ref (N + 5 + 1 + j))) else if N + 6 ≤ c then T (c - (N + 6)) else H2 c) = some u := e
      rw [if_neg c5] at e'
      by_cases c6 : N + 6 ≤ c
      · rw [if_pos c6] at e'
        obtain ⟨x, y, v, v2, h1, h3, h4, h5, rfl⟩ := Tat e'
        obtain ⟨w1, g1, rx⟩ := rv.get h1
        obtain ⟨w2, g2, ry⟩ := rv2.get h3
        rw [h4] at g1
        rw [h5] at g2
        cases g1
        cases g2
        have hj : c - (N + 6) < its.length := (List.getElem?_eq_some_iff.mp h4).1
        have tp := ze.tups (c - (N + 6)) v v2 hj h4 h5
        have ec : N + 5 + 1 + (c - (N + 6)) = c := by
          have : N + 6 ≤ c := c6
          show (N + 5 + 1 + (c - (N + 6)) : Nat) = c
          omega
        rw [ec] at tp
        exact ⟨by rw [hN]; exact Nat.le_trans (Nat.le_add_right _ _) c6, tp, by show 2 ≤ sizeLine; decide, [v, v2], .cons rx (.cons ry .nil), ⟨_, tp, rfl, _, rfl⟩⟩
      · rw [if_neg c6, hn] at e'
        cases e'
  refine ⟨.ref (N + 5), H3, I3, rfl, q H3 (N + 5) H3o (fresh _ (Nat.le_add_right _ _)) H3S fun j x y hx hy => ?_⟩
  obtain ⟨w1, g1, _⟩ := rv.get hx
  obtain ⟨w2, g2, _⟩ := rv2.get hy
  refine ⟨tupO #[w1, w2], rfl, ?_⟩
  rw [H3T]
  show (match xs[j]?, ys[j]?, its[j]?, its2[j]? with
    | some x, some y, some u, some v => some (HO.frz (tupO #[u, v]) (.tup [x, y]))
    | _, _, _, _ => none) = _
  rw [hx, hy, g1, g2]
/-- list(zip(x, y, strict=True)) over plain data -/
def oZipS (x y : D) : Option D := match itemsD x, itemsD y with
  | some xs, some ys => if xs.length = ys.length then some (.lst true ((xs.zip ys).map fun p => .tup [p.1, p.2])) else none
  | _, _ => none
theorem de_lzs {e e2 : Expr} {f g : Ev} {p p2 kp kpos zpos pos : Pos} {kk : Nat} (hg : Gl X "list") (hm : X.mg "list" = none) (hg2 : Gl X "zip") (hm2 : X.mg "zip" = none) (ha : PA X [e, e2] (tAS X.K [f, g])) (hc : X.calm = true)
    (he : starEach [e, e2] X.env = (false, eval e X.env) :: starEach [e2] X.env) (he2 : starEach [.Call (.Name "zip" p2) [e, e2] [⟨some "strict", .Constant (.bool true) kk kp, kpos⟩] zpos] X.env = (false, eval (.Call (.Name "zip" p2) [e, e2] [⟨some "strict", .Constant (.bool true) kk kp, kpos⟩] zpos) X.env) :: starEach [] X.env)
    (hpl : ((backTo zpos (starEach [e, e2] X.env)).any (·.1) || (backToKw zpos (keywordEach [⟨some "strict", .Constant (.bool true) kk kp, kpos⟩] X.env)).any (·.1.isNone)) = false) :
    PE X (.Call (.Name "list" p) [.Call (.Name "zip" p2) [e, e2] [⟨some "strict", .Constant (.bool true) kk kp, kpos⟩] zpos] [] pos) (tV X.K (eN (n2 oZipS) [f, g])) :=
  PE_wk (pe_lzs hg hm hg2 hm2 ha hc he he2 hpl) fun σ H Q ⟨io, b, r, oss, S, d, b', e, q⟩ => by
    obtain ⟨xs, b1, e1, e2⟩ := bnd_some e
    obtain ⟨e3, e4⟩ := lift_some e2
    replace e4 : b' = b1 := e4
    subst e4
    refine ⟨io, b, r, oss, S, xs, _, e1, fun vs H1 io1 k1 S1 x => ?_⟩
    match xs, e3, x with
    | [dx, dy], e3, x =>
      obtain ⟨v, ws, rfl, rx, x⟩ := x.one
      obtain ⟨w, ws, rfl, ry, x⟩ := x.one
      obtain rfl := x.zero
      replace e3 : oZipS dx dy = some d := e3
      unfold oZipS at e3
      cases h1 : itemsD dx with
      | none => rw [h1] at e3; cases e3
      | some xs =>
        cases h2 : itemsD dy with
        | none => rw [h1, h2] at e3; cases e3
        | some ys =>
          rw [h1, h2] at e3
          dsimp only at e3
          split at e3
          · rename_i hl
            cases e3
            obtain ⟨q1, a, vs, rfl, hx, rl⟩ := rx.sqX h1
            obtain ⟨q2, a', vs', rfl, hy, rl'⟩ := ry.sqX h2
            refine ⟨q1, q2, a, a', vs, vs', rfl, hx _ _ (Kf.refl _ _), hy _ _ (Kf.refl _ _), by rw [← rl.length, ← rl'.length]; exact hl, fun H2 T ext hT e5 tp => ?_⟩
            have k2 : Kp io1 H1 io1 H2 := Kp.of ext
            have rl2 := rl.keepS (Kp.kf k2 S1.bl) rfl
            have rl2' := rl'.keepS (Kp.kf k2 S1.bl) rfl
            have pairs : RpL X.K H2 io1 ((xs.zip ys).map fun p => .tup [p.1, p.2]) ((List.range vs.length).map fun j => V.ref (T + 1 + j)) [] := by
              refine RpL.of (by simp [rl.length, hl.symm]) fun j dj vj ed ev => ?_
              rw [List.getElem?_map] at ed ev
              cases hz : (xs.zip ys)[j]? with
              | none => rw [hz] at ed; cases ed
              | some pr =>
                rw [hz] at ed
                cases ed
                obtain ⟨a1, a2⟩ := List.getElem?_zip_eq_some.mp hz
                obtain ⟨v1, w1, x1⟩ := rl2.getD0 a1
                obtain ⟨v2, w2, x2⟩ := rl2'.getD0 a2
                have hj : j < vs.length := (List.getElem?_eq_some_iff.mp w1).1
                rw [List.getElem?_range hj] at ev
                cases ev
                obtain ⟨o, ho, eo⟩ := tp j v1 v2 w1 w2
                exact .tup (os := []) (.inl ⟨o, ho, eo⟩) (.cons (os := []) (ps := []) x1 (.cons (os := []) (ps := []) x2 .nil))
            have nT : T ∉ io1 := S1.bl.fresh hT
            exact q _ H2 io1 [T] (k1.trans k2 S.bl) (S1.later ext) (.lstO e5 nT pairs) (List.nodup_cons.mpr ⟨fun z => (nomatch z), List.nodup_nil⟩) fun c hc => by
              obtain rfl := List.mem_singleton.mp hc
              exact fresh_back k1 S1 hT
          · cases e3
end
end HF

/-! HF: name = [..]; what is given ahead of several statements. -/
namespace HF
open PySem PySem.Spec L2
open PyProof.Rows hiding St
section
variable {X : Cx}
theorem ds_setLc {i : Nat} {y : Str} {py : Pos} {elt tg iter : Expr} {ifs : List Expr} {scope : Scope} {own : List (Str × Nat)} {pos spos : Pos} {t : Tg} {it : Ws} {co : Option Ev} {f : Ev} (hc : X.calm = true) (hN : X.N.Nodup) (hy : X.N[i]? = some y) (hyl : X.env.scope.names.lookup y = some .local)
    (hsw : swapsWith (.ListComp elt [⟨tg, iter, ifs, 0⟩] scope pos) (some (.Name y py)) spos.line X.env = pure true) (hi : PI X tg iter (tI X.K it)) (ok : BlkOk X.N X.env.scope scope own) (hs : ∀ i ∈ t.slots, i ∈ own.map (·.2))
    (hg : ∀ (s : Shared) (H : Hp) (C : Addr) (cl : List (Str × Addr)) (fp : List Addr), PG (X.blk s H scope (compEnvC scope cl C X.env) fp) tg (tG X.K t)) (ht : ∀ (s : Shared) (H : Hp) (C : Addr) (cl : List (Str × Addr)) (fp : List Addr), PTs (X.blk s H scope (compEnvC scope cl C X.env) fp) ifs (tC? X.K co))
    (he : ∀ (s : Shared) (H : Hp) (C : Addr) (cl : List (Str × Addr)) (fp : List Addr), PE (X.blk s H scope (compEnvC scope cl C X.env) fp) elt (tV X.K f)) (hf : ∀ x, foldedSetIterable iter X.env x = pure x) :
    PS X (.Assign [.Name y py] (.ListComp elt [⟨tg, iter, ifs, 0⟩] scope pos) spos) (tD X.K (sSetO i (eLc (own.map (·.2)) t it co f))) :=
  PS_wk (ps_setLc hc hN hy hyl hsw hi ok hg ht he hf) fun D σ H ⟨io0, H0, io, b, r, oss, A, fl, r', b', e, q⟩ => by
    obtain ⟨d, b1, e1, e2⟩ := bnd_some e
    cases e2
    refine lc_reads (Q := fun x H1 => D.nx (σ.set i (some x)) H1) hs ⟨io, b, r, oss, A.sr, d, _, e1, fun v H1 io1 os k1 S1 rx n f => ?_⟩
    obtain ⟨oss2, S2, ho⟩ := S1.setO (i := i) rx n (A.sr.apart f)
    exact q _ H1 io1 oss2 S2 (A.kp.trans k1 A.bl) (k1.kf A.sr.bl) fun a ha => (ho a ha).elim (fun z => fresh_back A.kp A.sr (f a z)) (A.fr a)
theorem ds_preS {sts : List Stmt} {is : List Nat} {f : Sv} (h : PSs X sts (tD X.K f)) : PSs X sts (tD X.K (sPre is f)) := by
  refine ⟨fun pins s σ H D I ⟨io0, H0, io, b, r, oss, A, fl, r', b', e, q⟩ => ?_⟩
  have all : ∀ (is : List Nat) {H : Hp} {r : Env} {oss : List (List Addr)}, Inv X pins σ H s → At X.K io0 H0 io b r oss σ H → ∃ H' oss', Inv X pins σ H' s ∧ At X.K io0 H0 io b (gives r is) oss' σ H' ∧ Kf io H io H' := by
    intro is
    induction is with
    | nil => exact fun {H r oss} I A => ⟨H, oss, I, A, Kf.refl _ _⟩
    | cons i is ih =>
      intro H r oss I A
      obtain ⟨H1, o1, I1, A1, k1⟩ := at_give rfl I A i
      obtain ⟨H2, o2, I2, A2, k2⟩ := ih I1 A1
      exact ⟨H2, o2, I2, A2, k1.trans k2⟩
  obtain ⟨H1, o1, I1, A1, k1⟩ := all is I A
  exact h.run pins s σ H1 D I1 ⟨io0, H0, io, b, _, o1, A1, fl, r', b', e, q.mono k1⟩
end
end HF

/-! HF: is None; what is left for the printed terms. -/
namespace HF
open PySem PySem.Spec L2
open PyProof.Rows hiding St
section
variable {X : Cx}
def oIs (x y : D) : Option D := match y with
  | .non => oIsN x
  | _ => none
theorem o_is : Op2 X.K false false oIs (fun x y H Q => y = .non ∧ Q (.bl (decide (x = .non))) H) := by
  intro io H x y dx dy d os ps Q bl rx ry _ _ e q
  cases dy <;> first | cases e | skip
  cases ry
  refine ⟨rfl, ?_⟩
  cases rx <;> cases e <;> exact give_bl rfl q
/-- a value all may hold has nothing of its own -/
theorem de_s1 {e : Expr} {f : Ev} {md : Bool} (h : PE X e (tS X.K f)) : PE X e (tM X.K md f) := PE_wk h fun σ H Q ⟨io, b, r, oss, S, d, b', e, q⟩ =>
  ⟨io, b, r, oss, S, d, b', e, fun v H' io' k S' x => q v H' io' [] k S' x fun _ => stillIn_of_still (x.nil_still rfl)⟩
theorem de_int {i : Int} {j : Nat} {pos : Pos} : PE X (.Constant (.int i) j pos) (tS X.K (eC (.int i))) := de_c pe_int fun _ _ => .int i
theorem de_bl {b : Bool} {j : Nat} {pos : Pos} : PE X (.Constant (.bool b) j pos) (tS X.K (eC (.bl b))) := de_c pe_bl fun _ _ => .bl b
theorem de_non {j : Nat} {pos : Pos} : PE X (.Constant .none j pos) (tS X.K (eC .non)) := de_c pe_non fun _ _ => .non
theorem de_str {x : Str} {j : Nat} {pos : Pos} (h : PyData.strOk x = true) : PE X (.Constant (.str x) j pos) (tS X.K (eC (.str x))) := de_c pe_str fun _ _ => .str h
/-- a name of the def -/
theorem room64 {k : Nat} {A : Around} (hr : Room k A) : A.units + 65 < cLine := by have := hr.un; omega
theorem room64' {k : Nat} {A : Around} (hr : Room k A) : A.units + 64 < cLine := by have := hr.un; omega
end
end HF

/-! HF: the rules in short, for printed terms. -/
namespace HF
open PySem PySem.Spec L2
open PyProof.Rows hiding St
section
variable {X : Cx} {a b c e : Expr} {pos p1 p2 p3 p4 p5 : Pos} {f g h : Ev}
/-! names, constants -/
theorem nS (i : Nat) {x : Str} (hN : X.N[i]? = some x := by rfl) (hv : Vis X.env.scope x := by first | exact Or.inl rfl | exact Or.inr (Or.inl rfl) | exact Or.inr (Or.inr rfl)) (hd : (x == ("__debug__" : Str)) = false := by decide) (hcd : (x == ("__classdict__" : Str)) = false := by decide) : PE X (.Name x pos) (tS X.K (eV i)) := de_v hN hv hd hcd
theorem nV (i : Nat) {x : Str} (hN : X.N[i]? = some x := by rfl) (hv : Vis X.env.scope x := by first | exact Or.inl rfl | exact Or.inr (Or.inl rfl) | exact Or.inr (Or.inr rfl)) (hd : (x == ("__debug__" : Str)) = false := by decide) (hcd : (x == ("__classdict__" : Str)) = false := by decide) : PE X (.Name x pos) (tV X.K (eV i)) := de_sv (de_v hN hv hd hcd)
theorem nB (i : Nat) {x : Str} (hN : X.N[i]? = some x := by rfl) (hv : Vis X.env.scope x := by first | exact Or.inl rfl | exact Or.inr (Or.inl rfl) | exact Or.inr (Or.inr rfl)) (hd : (x == ("__debug__" : Str)) = false := by decide) (hcd : (x == ("__classdict__" : Str)) = false := by decide) : PE X (.Name x pos) (tM X.K false (eB i)) := de_b hN hv hd hcd
theorem nI (i : Nat) {x : Str} (hN : X.N[i]? = some x := by rfl) (hv : Vis X.env.scope x := by first | exact Or.inl rfl | exact Or.inr (Or.inl rfl) | exact Or.inr (Or.inr rfl)) (hd : (x == ("__debug__" : Str)) = false := by decide) (hcd : (x == ("__classdict__" : Str)) = false := by decide) : PE X (.Name x pos) (tM X.K true (eI i)) := de_i hN hv hd hcd
/-! lists of arguments -/
theorem aV {es : List Expr} {fs : List Ev} (he : PE X e (tV X.K f)) (hes : PA X es (tAV X.K fs)) (hs : starEach (e :: es) X.env = (false, eval e X.env) :: starEach es X.env := by rfl) : PA X (e :: es) (tAV X.K (f :: fs)) := da_cons he hes hs
theorem aS {es : List Expr} {fs : List Ev} (he : PE X e (tS X.K f)) (hes : PA X es (tAS X.K fs)) (hs : starEach (e :: es) X.env = (false, eval e X.env) :: starEach es X.env := by rfl) : PA X (e :: es) (tAS X.K (f :: fs)) := da_consS he hes hs
theorem aM {es : List Expr} {fs : List Ev} {md : Bool} (he : PE X e (tM X.K md f)) (hes : PA X es (tAM X.K md fs)) (hs : starEach (e :: es) X.env = (false, eval e X.env) :: starEach es X.env := by rfl) : PA X (e :: es) (tAM X.K md (f :: fs)) := da_consM he hes hs
/-! operators -/
theorem xAdd (ha : PE X a (tM X.K true f)) (hb : PE X b (tM X.K true g)) : PE X (.BinOp a .Add b pos) (tV X.K (e2 oAdd f g)) := de_bin o_add op_addA ha hb
theorem xSub (ha : PE X a (tM X.K false f)) (hb : PE X b (tM X.K false g)) : PE X (.BinOp a .Sub b pos) (tV X.K (e2 oSub f g)) := de_bin o_sub op_sub ha hb
theorem xMul (ha : PE X a (tM X.K true f)) (hb : PE X b (tM X.K false g)) : PE X (.BinOp a .Mult b pos) (tV X.K (e2 oMul f g)) := de_bin o_mul op_mulA ha hb
theorem xFdiv (ha : PE X a (tM X.K false f)) (hb : PE X b (tM X.K false g)) : PE X (.BinOp a .FloorDiv b pos) (tV X.K (e2 oFdiv f g)) := de_bin o_fdiv op_fdiv ha hb
theorem xMod (ha : PE X a (tM X.K false f)) (hb : PE X b (tM X.K false g)) : PE X (.BinOp a .Mod b pos) (tV X.K (e2 oMod f g)) := de_bin o_mod op_mod ha hb
theorem xPow (ha : PE X a (tM X.K false f)) (hb : PE X b (tM X.K false g)) : PE X (.BinOp a .Pow b pos) (tV X.K (e2 oPow f g)) := de_bin o_pow op_pow ha hb
/-! comparisons, as values and as tests -/
theorem xLt (ha : PE X a (tM X.K false f)) (hb : PE X b (tM X.K false g)) : PE X (.Compare a [.Lt] [b] pos) (tV X.K (e2 oLt f g)) := de_cmp o_lt op_ltA ha hb (nomark _)
theorem xLe (ha : PE X a (tM X.K false f)) (hb : PE X b (tM X.K false g)) : PE X (.Compare a [.LtE] [b] pos) (tV X.K (e2 oLe f g)) := de_cmp o_le op_le ha hb (nomark _)
theorem xGt (ha : PE X a (tM X.K false f)) (hb : PE X b (tM X.K false g)) : PE X (.Compare a [.Gt] [b] pos) (tV X.K (e2 oGt f g)) := de_cmp o_gt op_gtA ha hb (nomark _)
theorem xGe (ha : PE X a (tM X.K false f)) (hb : PE X b (tM X.K false g)) : PE X (.Compare a [.GtE] [b] pos) (tV X.K (e2 oGe f g)) := de_cmp o_ge op_ge ha hb (nomark _)
theorem xIs (ha : PE X a (tM X.K false f)) (hb : PE X b (tM X.K false g)) : PE X (.Compare a [.Is] [b] pos) (tV X.K (e2 oIs f g)) := de_cmp o_is op_isN ha hb (nomark _)
theorem xEq {k : Nat} (hr : Room k X.A) (ha : PE X a (tM X.K false f)) (hb : PE X b (tM X.K false g)) : PE X (.Compare a [.Eq] [b] pos) (tV X.K (e2 oEq f g)) := de_cmp o_eq (op_eqD (room64' hr)) ha hb (nomark _)
theorem xNe {k : Nat} (hr : Room k X.A) (ha : PE X a (tM X.K false f)) (hb : PE X b (tM X.K false g)) : PE X (.Compare a [.NotEq] [b] pos) (tV X.K (e2 oNe f g)) := de_cmp o_ne (op_neD (room64' hr)) ha hb (nomark _)
theorem xIn {k : Nat} (hr : Room k X.A) (ha : PE X a (tM X.K false f)) (hb : PE X b (tM X.K false g)) (hm : behindInMarks .In b = false := by with_unfolding_all rfl) : PE X (.Compare a [.In] [b] pos) (tV X.K (e2 oIn f g)) := de_cmp o_in (op_inA (room64 hr)) ha hb hm
theorem xNin {k : Nat} (hr : Room k X.A) (ha : PE X a (tM X.K false f)) (hb : PE X b (tM X.K false g)) (hm : behindInMarks .NotIn b = false := by with_unfolding_all rfl) : PE X (.Compare a [.NotIn] [b] pos) (tV X.K (e2 oNotIn f g)) := de_cmp o_nin (op_ninA (room64 hr)) ha hb hm
theorem tLt (ha : PE X a (tM X.K false f)) (hb : PE X b (tM X.K false g)) : PT X (.Compare a [.Lt] [b] pos) (tT X.K (e2 oLt f g)) := dt_cmp o_lt op_ltA ha hb (nomark _)
theorem tLe (ha : PE X a (tM X.K false f)) (hb : PE X b (tM X.K false g)) : PT X (.Compare a [.LtE] [b] pos) (tT X.K (e2 oLe f g)) := dt_cmp o_le op_le ha hb (nomark _)
theorem tGt (ha : PE X a (tM X.K false f)) (hb : PE X b (tM X.K false g)) : PT X (.Compare a [.Gt] [b] pos) (tT X.K (e2 oGt f g)) := dt_cmp o_gt op_gtA ha hb (nomark _)
theorem tGe (ha : PE X a (tM X.K false f)) (hb : PE X b (tM X.K false g)) : PT X (.Compare a [.GtE] [b] pos) (tT X.K (e2 oGe f g)) := dt_cmp o_ge op_ge ha hb (nomark _)
theorem tIs (ha : PE X a (tM X.K false f)) (hb : PE X b (tM X.K false g)) : PT X (.Compare a [.Is] [b] pos) (tT X.K (e2 oIs f g)) := dt_cmp o_is op_isN ha hb (nomark _)
theorem tEq {k : Nat} (hr : Room k X.A) (ha : PE X a (tM X.K false f)) (hb : PE X b (tM X.K false g)) : PT X (.Compare a [.Eq] [b] pos) (tT X.K (e2 oEq f g)) := dt_cmp o_eq (op_eqD (room64' hr)) ha hb (nomark _)
theorem tNe {k : Nat} (hr : Room k X.A) (ha : PE X a (tM X.K false f)) (hb : PE X b (tM X.K false g)) : PT X (.Compare a [.NotEq] [b] pos) (tT X.K (e2 oNe f g)) := dt_cmp o_ne (op_neD (room64' hr)) ha hb (nomark _)
theorem tIn {k : Nat} (hr : Room k X.A) (ha : PE X a (tM X.K false f)) (hb : PE X b (tM X.K false g)) (hm : behindInMarks .In b = false := by with_unfolding_all rfl) : PT X (.Compare a [.In] [b] pos) (tT X.K (e2 oIn f g)) := dt_cmp o_in (op_inA (room64 hr)) ha hb hm
theorem tNin {k : Nat} (hr : Room k X.A) (ha : PE X a (tM X.K false f)) (hb : PE X b (tM X.K false g)) (hm : behindInMarks .NotIn b = false := by with_unfolding_all rfl) : PT X (.Compare a [.NotIn] [b] pos) (tT X.K (e2 oNotIn f g)) := dt_cmp o_nin (op_ninA (room64 hr)) ha hb hm
theorem tLeLt (ha : PE X a (tM X.K false f)) (hb : PE X b (tM X.K false g)) (hc : PE X c (tM X.K false h)) (hm : lastMarks [.LtE, .Lt] [b, c] = false := by with_unfolding_all rfl) : PT X (.Compare a [.LtE, .Lt] [b, c] pos) (tT X.K (eChain oLe oLt f g h)) := dt_chain o_le o_lt op_le op_ltA ha hb hc hm
theorem tVal (h : PE X e (tV X.K f)) (he : ∀ whole, isTrue e X.env whole = (do let v ← whole; standAt e.pos; holding [v] (truthy v)) := by intro _; rfl) : PT X e (tT X.K f) := dt_val h he
theorem tAnd {rest : List Expr} (ha : PT X a (tT X.K f)) (hb : PW X (.BoolOp .And (b :: rest) pos) (tT X.K g)) : PW X (.BoolOp .And (a :: b :: rest) pos) (tT X.K (eAnd f g)) := dw_and ha hb
theorem tOr {rest : List Expr} (ha : PT X a (tT X.K f)) (hb : PW X (.BoolOp .Or (b :: rest) pos) (tT X.K g)) : PW X (.BoolOp .Or (a :: b :: rest) pos) (tT X.K (eOr f g)) := dw_or ha hb
/-! subscripts -/
theorem xIx (ha : PE X a (tM X.K true f)) (hb : PE X b (tM X.K false g)) (hs : PlainIx b := by intro _ _; rfl) : PE X (.Subscript a b pos) (tV X.K (eIx f g)) := de_ixB ha hb hs
/-! displays -/
theorem xTup {es : List Expr} {x1} {fs : List Ev} (h : PA X es (tAV X.K fs)) (hz : fs.length ≤ 60 := by decide) : PE X (.Tuple es x1 pos) (tV X.K (eTup fs)) := de_tup h (Nat.le_trans hz (by decide))
theorem xLst {es : List Expr} {fs : List Ev} (h : PA X es (tAV X.K fs)) (hz : fs.length ≤ 60 := by decide) : PE X (.List es pos) (tV X.K (eLst fs)) := de_lst h (Nat.le_trans hz (by decide))
theorem xBox {es : List Expr} {fs : List Ev} (h : PA X es (tAV X.K fs)) (hz : fs.length ≤ 60 := by decide) : PE X (.List es pos) (tV X.K (eBox fs)) := de_box h (Nat.le_trans hz (by decide))
/-! built-ins -/
theorem bLen {es : List Expr} {fs : List Ev} (z : X.mg "len" = none) (ha : PA X (e :: es) (tAM X.K false fs)) (hg : Gl X "len" := by rfl) (hs : starEach (e :: es) X.env = (false, eval e X.env) :: starEach es X.env := by rfl) (hp : (backTo pos (starEach es X.env)).any (·.1) = false := by rfl) : PE X (.Call (.Name "len" p1) (e :: es) [] pos) (tV X.K (eN (n1 oLen) fs)) :=
  de_n o_len ha fun t h => pe_callB cr_len hg z PySem.boot_len h (by decide) (by decide) hs hp
theorem bAbs {es : List Expr} {fs : List Ev} (z : X.mg "abs" = none) (ha : PA X (e :: es) (tAM X.K false fs)) (hv : bootBuiltins "abs" = some (.builtin "abs") := by decide +kernel) (hg : Gl X "abs" := by rfl) (hs : starEach (e :: es) X.env = (false, eval e X.env) :: starEach es X.env := by rfl) (hp : (backTo pos (starEach es X.env)).any (·.1) = false := by rfl) : PE X (.Call (.Name "abs" p1) (e :: es) [] pos) (tV X.K (eN (n1 oAbs) fs)) :=
  de_n o_abs ha fun t h => pe_callB call_abs hg z hv h (by decide) (by decide) hs hp
theorem bInt {es : List Expr} {fs : List Ev} (z : X.mg "int" = none) (ha : PA X (e :: es) (tAM X.K false fs)) (hv : bootBuiltins "int" = some (.type "int") := by decide +kernel) (hg : Gl X "int" := by rfl) (hs : starEach (e :: es) X.env = (false, eval e X.env) :: starEach es X.env := by rfl) (hp : (backTo pos (starEach es X.env)).any (·.1) = false := by rfl) : PE X (.Call (.Name "int" p1) (e :: es) [] pos) (tV X.K (eN (n1 oInt) fs)) :=
  de_callT o_int call_int1 hg z hv ha (by decide) (by decide) hs hp
theorem bMin {es : List Expr} {fs : List Ev} (hc : X.calm = true) (z : X.mg "min" = none) (ha : PA X (e :: es) (tAM X.K false fs)) (hv : bootBuiltins "min" = some (.builtin "min") := by decide +kernel) (hg : Gl X "min" := by rfl) (hs : starEach (e :: es) X.env = (false, eval e X.env) :: starEach es X.env := by rfl) (hp : (backTo pos (starEach es X.env)).any (·.1) = false := by rfl) : PE X (.Call (.Name "min" p1) (e :: es) [] pos) (tV X.K (eN (n2 oMin2) fs)) :=
  de_n o_min2 ha fun t h => pe_callB (call_min2 hc) hg z hv h (by decide) (by decide) hs hp
theorem bMax {es : List Expr} {fs : List Ev} (hc : X.calm = true) (z : X.mg "max" = none) (ha : PA X (e :: es) (tAM X.K false fs)) (hv : bootBuiltins "max" = some (.builtin "max") := by decide +kernel) (hg : Gl X "max" := by rfl) (hs : starEach (e :: es) X.env = (false, eval e X.env) :: starEach es X.env := by rfl) (hp : (backTo pos (starEach es X.env)).any (·.1) = false := by rfl) : PE X (.Call (.Name "max" p1) (e :: es) [] pos) (tV X.K (eN (n2 oMax2) fs)) :=
  de_n o_max2 ha fun t h => pe_callB (call_max2 hc) hg z hv h (by decide) (by decide) hs hp
theorem bAll {es : List Expr} {fs : List Ev} (hc : X.calm = true) (z : X.mg "all" = none) (ha : PA X (e :: es) (tAM X.K false fs)) (hv : bootBuiltins "all" = some (.builtin "all") := by decide +kernel) (hg : Gl X "all" := by rfl) (hs : starEach (e :: es) X.env = (false, eval e X.env) :: starEach es X.env := by rfl) (hp : (backTo pos (starEach es X.env)).any (·.1) = false := by rfl) : PE X (.Call (.Name "all" p1) (e :: es) [] pos) (tV X.K (eN (n1 oAll) fs)) :=
  de_n o_all ha fun t h => pe_callB (cr_all hc) hg z hv h (by decide) (by decide) hs hp
theorem bAny {es : List Expr} {fs : List Ev} (hc : X.calm = true) (z : X.mg "any" = none) (ha : PA X (e :: es) (tAM X.K false fs)) (hv : bootBuiltins "any" = some (.builtin "any") := by decide +kernel) (hg : Gl X "any" := by rfl) (hs : starEach (e :: es) X.env = (false, eval e X.env) :: starEach es X.env := by rfl) (hp : (backTo pos (starEach es X.env)).any (·.1) = false := by rfl) : PE X (.Call (.Name "any" p1) (e :: es) [] pos) (tV X.K (eN (n1 oAny) fs)) :=
  de_n o_any ha fun t h => pe_callB (cr_any hc) hg z hv h (by decide) (by decide) hs hp
theorem bSum {es : List Expr} {fs : List Ev} (hc : X.calm = true) (z : X.mg "sum" = none) (ha : PA X (e :: es) (tAM X.K false fs)) (hv : bootBuiltins "sum" = some (.builtin "sum") := by decide +kernel) (hg : Gl X "sum" := by rfl) (hs : starEach (e :: es) X.env = (false, eval e X.env) :: starEach es X.env := by rfl) (hp : (backTo pos (starEach es X.env)).any (·.1) = false := by rfl) : PE X (.Call (.Name "sum" p1) (e :: es) [] pos) (tV X.K (eN (n1 oSum) fs)) :=
  de_n o_sum ha fun t h => pe_callB (cr_sum hc) hg z hv h (by decide) (by decide) hs hp
theorem bSorted {es : List Expr} {fs : List Ev} (z : X.mg "sorted" = none) (ha : PA X (e :: es) (tAM X.K false fs)) (hv : bootBuiltins "sorted" = some (.builtin "sorted") := by decide +kernel) (hg : Gl X "sorted" := by rfl) (hs : starEach (e :: es) X.env = (false, eval e X.env) :: starEach es X.env := by rfl) (hp : (backTo pos (starEach es X.env)).any (·.1) = false := by rfl) : PE X (.Call (.Name "sorted" p1) (e :: es) [] pos) (tV X.K (eN (n1 oSorted) fs)) :=
  de_n o_sorted ha fun t h => pe_callB cr_sortedS hg z hv h (by decide) (by decide) hs hp
theorem bRepr {es : List Expr} {fs : List Ev} {k : Nat} (hg0 : X.A.guards = some []) (hr : Room k X.A) (z : X.mg "repr" = none) (ha : PA X (e :: es) (tAM X.K false fs)) (hv : bootBuiltins "repr" = some (.builtin "repr") := by decide +kernel) (hg : Gl X "repr" := by rfl) (hs : starEach (e :: es) X.env = (false, eval e X.env) :: starEach es X.env := by rfl) (hp : (backTo pos (starEach es X.env)).any (·.1) = false := by rfl) : PE X (.Call (.Name "repr" p1) (e :: es) [] pos) (tV X.K (eN (n1 oShow) fs)) :=
  de_n o_show ha fun t h => pe_callB (cr_repr hg0 (room64' hr)) hg z hv h (by decide) (by decide) hs hp
theorem bList {es : List Expr} {fs : List Ev} (z : X.mg "list" = none) (ha : PA X (e :: es) (tAM X.K true fs)) (hv : bootBuiltins "list" = some (.type "list") := by decide +kernel) (hg : Gl X "list" := by rfl) (hs : starEach (e :: es) X.env = (false, eval e X.env) :: starEach es X.env := by rfl) (hp : (backTo pos (starEach es X.env)).any (·.1) = false := by rfl) : PE X (.Call (.Name "list" p1) (e :: es) [] pos) (tV X.K (eN (n1 oList) fs)) :=
  de_callT o_list call_list_of hg z hv ha (by decide) (by decide) hs hp
theorem bTuple {es : List Expr} {fs : List Ev} (z : X.mg "tuple" = none) (ha : PA X (e :: es) (tAM X.K true fs)) (hv : bootBuiltins "tuple" = some (.type "tuple") := by decide +kernel) (hg : Gl X "tuple" := by rfl) (hs : starEach (e :: es) X.env = (false, eval e X.env) :: starEach es X.env := by rfl) (hp : (backTo pos (starEach es X.env)).any (·.1) = false := by rfl) : PE X (.Call (.Name "tuple" p1) (e :: es) [] pos) (tV X.K (eN (n1 oTuple) fs)) :=
  de_callT o_tuple call_tupF hg z hv ha (by decide) (by decide) hs hp
theorem bIsi {x : Str} (t : Ty) (z : X.mg "isinstance" = none) (zx : X.mg x = none) (ha : PE X a (tM X.K false f)) (vx : bootBuiltins x = some (.type t.nm) := by decide +kernel) (hv : bootBuiltins "isinstance" = some (.builtin "isinstance") := by decide +kernel) (hg : Gl X "isinstance" := by rfl) (gx : Gl X x := by rfl) (hd : (x == ("__debug__" : Str)) = false := by decide) (hn : x ≠ "__name__" := by decide)
    (hs : starEach [a, .Name x p2] X.env = (false, eval a X.env) :: starEach [.Name x p2] X.env := by rfl) (hs2 : starEach [.Name x p2] X.env = (false, eval (.Name x p2) X.env) :: starEach [] X.env := by rfl) (hpl : (backTo pos (starEach [.Name x p2] X.env)).any (·.1) = false := by rfl) : PE X (.Call (.Name "isinstance" p1) [a, .Name x p2] [] pos) (tV X.K (e1 (oIsi [t]) f)) := de_isi t hg z hv gx zx vx ha hd hn hs hs2 hpl
theorem bIsi2 {x y : Str} {kk : Nat} (t u : Ty) (z : X.mg "isinstance" = none) (zx : X.mg x = none) (zy : X.mg y = none) (ha : PE X a (tM X.K false f)) (vx : bootBuiltins x = some (.type t.nm) := by decide +kernel) (vy : bootBuiltins y = some (.type u.nm) := by decide +kernel) (hv : bootBuiltins "isinstance" = some (.builtin "isinstance") := by decide +kernel) (hg : Gl X "isinstance" := by rfl) (gx : Gl X x := by rfl) (gy : Gl X y := by rfl)
    (hd : (x == ("__debug__" : Str)) = false := by decide) (hn : x ≠ "__name__" := by decide) (hd' : (y == ("__debug__" : Str)) = false := by decide) (hn' : y ≠ "__name__" := by decide)
    (hs : starEach [a, .Tuple [.Name x p2, .Name y p3] kk p4] X.env = (false, eval a X.env) :: starEach [.Tuple [.Name x p2, .Name y p3] kk p4] X.env := by rfl) (hs2 : starEach [.Tuple [.Name x p2, .Name y p3] kk p4] X.env = (false, eval (.Tuple [.Name x p2, .Name y p3] kk p4) X.env) :: starEach [] X.env := by rfl) (hpl : (backTo pos (starEach [.Tuple [.Name x p2, .Name y p3] kk p4] X.env)).any (·.1) = false := by rfl)
    (hs3 : starEach [.Name x p2, .Name y p3] X.env = (false, eval (.Name x p2) X.env) :: starEach [.Name y p3] X.env := by rfl) (hs4 : starEach [.Name y p3] X.env = (false, eval (.Name y p3) X.env) :: starEach [] X.env := by rfl) :
    PE X (.Call (.Name "isinstance" p1) [a, .Tuple [.Name x p2, .Name y p3] kk p4] [] pos) (tV X.K (e1 (oIsi [t, u]) f)) := de_isi2 t u hg z hv gx zx vx gy zy vy ha hd hn hd' hn' hs hs2 hpl hs3 hs4
theorem mIndex {k : Nat} (hr : Room k X.A) (ho : PE X a (tM X.K false f)) (ha : PE X e (tM X.K false g)) (hbase : attributeBase a "index" X.env (eval a X.env) = eval a X.env := by rfl)
    (hfew : ((backTo pos (starEach [e] X.env)).all (fun x => !x.1) && (backToKw pos (keywordEach [] X.env)).all (fun x => x.1.isSome) && decide ([e].length + ([] : List Keyword).length + (if ([] : List Keyword).isEmpty then 0 else 1) < 30)) = true := by rfl)
    (hline : (p1.endLine == pos.line) = true := by rfl) (hs : starEach [e] X.env = (false, eval e X.env) :: starEach [] X.env := by rfl) (hplain : (backTo pos (starEach [] X.env)).any (·.1) = false := by rfl) : PE X (.Call (.Attribute a "index" p1) [e] [] pos) (tV X.K (e2 oIndex f g)) := de_m1 (om_index (room64 hr)) ho ha hbase hfew hline hs hplain
theorem mJoin (ho : PE X a (tM X.K false f)) (ha : PE X e (tM X.K false g)) (hbase : attributeBase a "join" X.env (eval a X.env) = eval a X.env := by rfl)
    (hfew : ((backTo pos (starEach [e] X.env)).all (fun x => !x.1) && (backToKw pos (keywordEach [] X.env)).all (fun x => x.1.isSome) && decide ([e].length + ([] : List Keyword).length + (if ([] : List Keyword).isEmpty then 0 else 1) < 30)) = true := by rfl)
    (hline : (p1.endLine == pos.line) = true := by rfl) (hs : starEach [e] X.env = (false, eval e X.env) :: starEach [] X.env := by rfl) (hplain : (backTo pos (starEach [] X.env)).any (·.1) = false := by rfl) : PE X (.Call (.Attribute a "join" p1) [e] [] pos) (tV X.K (e2 oJoin f g)) := de_m1 om_join ho ha hbase hfew hline hs hplain
end
end HF

/-! HF: statements, walks, defs in short, for printed terms. -/
namespace HF
open PySem PySem.Spec L2
open PyProof.Rows hiding St
/-- a def that may be called -/
structure Cal (P : Program) (w : World) (K : PySem.W.Frag) (mg : Str → Option Value) (base : Heap) (k : Nat) (x : Str) (st : Stmt) (fn : Fn) (ps : List Str) : Prop where
  ex : ∃ (f : Addr) (kV doc pm : Value) (an : Option Addr) (cdv ct : Value), FnG P w K mg base k f (PySem.W.fnOf x x (defArgs st) (defBody st) (defScope st) .none kV doc pm an cdv ct) ps (spF K fn ps.length) ∧ mg x = some (.ref f) ∧ PySem.W.keepIn K (.ref f) = true
/-- a def as it stands behind the top -/
structure Std (K : PySem.W.Frag) (mg : Str → Option Value) (x : Str) (st : Stmt) : Prop where
  ex : ∃ (f : Addr) (oc : Value) (od : Option Addr) (kV doc pm : Value) (an : Option Addr) (cdv ct : Value) (osl : Array (Option Value)), K.lookup f = some ⟨oc, od, .func (PySem.W.fnOf x x (defArgs st) (defBody st) (defScope st) .none kV doc pm an cdv ct), osl⟩ ∧ PySem.W.codeIn K cdv x = true ∧ PySem.W.keepIn K (.ref f) = true ∧ mg x = some (.ref f)
theorem std_mk {K : PySem.W.Frag} {h : Heap} {mg : Str → Option Value} {x : Str} {st : Stmt} {f : Addr} {oc : Value} {od an : Option Addr} {osl : Array (Option Value)} {kV doc pm cdv ct : Value} (X : K.In h) (G : h.Ns mainGlobals mg) (a : PySem.W.nsIn K mainGlobals x = some (some (.ref f)))
    (l : K.lookup f = some ⟨oc, od, .func (PySem.W.fnOf x x (defArgs st) (defBody st) (defScope st) .none kV doc pm an cdv ct), osl⟩) (c : PySem.W.codeIn K cdv x = true) (k : PySem.W.keepIn K (.ref f) = true) : Std K mg x st := ⟨⟨f, oc, od, kV, doc, pm, an, cdv, ct, osl, l, c, k, PySem.W.mg_of X G a⟩⟩
theorem Cal.of {P : Program} {w : World} {K : PySem.W.Frag} {mg : Str → Option Value} {base : Heap} {k : Nat} {x : Str} {st : Stmt} {N ps : List Str} {sv : Sv} (n : Nat) (S : Std K mg x st) (sc : FnScope N ps (defScope st)) (hn : N.length = ps.length + n)
    (hb : ∀ (f : Addr) (cdv : Value) (A : Around) (outer : List PySem.Env) (s : Shared) (H : Hp) (E : XK), A.guards = some [] → Room k (A.deeper (envOfC x (defScope st) s.heap.objs.size f cdv)) → PSs (cxOf CXn P w K mg base N x (defScope st) f cdv A outer s H E).nox (defBody st) (tD K sv)) :
    Cal P w K mg base (k + 1) x st (runFn n sv) ps := by
  obtain ⟨f, oc, od, kV, doc, pm, an, cdv, ct, osl, l, c, kp, hm⟩ := S.ex
  exact ⟨f, kV, doc, pm, an, cdv, ct, fn_g n l c sc hn fun A outer s H E hg hr => hb f cdv A outer s H E hg hr, hm, kp⟩
theorem Cal.zero {P : Program} {w : World} {K : PySem.W.Frag} {mg : Str → Option Value} {base : Heap} {k : Nat} {x : Str} {st : Stmt} {ps : List Str} (S : Std K mg x st) : Cal P w K mg base k x st (fun _ => fail) ps := by
  obtain ⟨f, oc, od, kV, doc, pm, an, cdv, ct, osl, l, c, kp, hm⟩ := S.ex
  exact ⟨f, kV, doc, pm, an, cdv, ct, ⟨spF.len, fun A outer s H args us vs Q E hg hr e0 hb r h => by
    obtain ⟨_, _, _, _, _, _, _, _, e, _⟩ := h
    cases e⟩, hm, kp⟩
theorem Cal.mono {P : Program} {w : World} {K : PySem.W.Frag} {mg : Str → Option Value} {base : Heap} {j k : Nat} {x : Str} {st : Stmt} {fn : Fn} {ps : List Str} (c : Cal P w K mg base j x st fn ps) (h : j ≤ k) : Cal P w K mg base k x st fn ps := by
  obtain ⟨f, kV, doc, pm, an, cdv, ct, F, r⟩ := c.ex
  exact ⟨f, kV, doc, pm, an, cdv, ct, F.mono h, r⟩
/-- i, j = e, the items of a new tuple -/
def sUnp (i : Nat) (oi : Bool) (j : Nat) (oj : Bool) (f : Ev) : Sv := fun r => bnd (f r) fun d => match d with
  | .tup [d, e] => match putS oi i d r with
    | some r1 => match putS oj j e r1 with
      | some r2 => ret (.nx, r2)
      | none => fail
    | none => fail
  | _ => fail
theorem ds_unp {X : Cx} {i j : Nat} {oi oj : Bool} {x y : Str} {e : Expr} {f : Ev} {px py pt pos : Pos} {kt : Nat} (hc : X.calm = true) (hN : X.N.Nodup) (he : PE X e (tV X.K f)) (hi : X.N[i]? = some x) (hj : X.N[j]? = some y) (hx : Loc X.env.scope x) (hy : Loc X.env.scope y)
    (hf : X.fn x = true ∨ X.env.scope.names.lookup x = some .local) (hf2 : X.fn y = true ∨ X.env.scope.names.lookup y = some .local)
    (hs : swapsWithSole [.Tuple [.Name x px, .Name y py] kt pt] e pos.line X.env = pure false) (hw : swappedStores [.Tuple [.Name x px, .Name y py] kt pt] e X.env = pure none) (h1 : (assignEach [.Tuple [.Name x px, .Name y py] kt pt] X.env).map (·.2) = [assign (.Tuple [.Name x px, .Name y py] kt pt) X.env]) :
    PS X (.Assign [.Tuple [.Name x px, .Name y py] kt pt] e pos) (tD X.K (sUnp i oi j oj f)) :=
  PS_wk (ps_asg he (pg_tup hc (pgs_cons (pg_name hN hi hx hf) (pgs_cons (pg_name hN hj hy hf2) pgs_nil))) hs hw h1) fun D σ H ⟨io0, H0, io, b, r, oss, A, fl, r', b', e, q⟩ => by
    obtain ⟨d0, b1, e1, e2⟩ := bnd_some e
    refine ⟨io, b, r, oss, A.sr, d0, b1, e1, fun v H1 io1 os k1 S1 rx n fr => ?_⟩
    match d0, e2, rx with
    | .tup [d, d2], e2, rx =>
      dsimp only at e2
      cases g1 : putS oi i d r with
      | none => rw [g1] at e2; cases e2
      | some r1 =>
        rw [g1] at e2
        dsimp only at e2
        cases g2 : putS oj j d2 r1 with
        | none => rw [g2] at e2; cases e2
        | some r2 =>
          rw [g2] at e2
          cases e2
          obtain ⟨a, vs, rfl, hq, rl⟩ := rx.tup_inv
          obtain ⟨v, ws, o1, o2, rfl, rfl, x1, rl⟩ := rl.consI
          obtain ⟨w, ws, o2, o3, rfl, rfl, x2, rl⟩ := rl.consI
          cases rl
          rw [List.append_nil] at n fr
          obtain ⟨n1, n2, n3⟩ := List.nodup_append.mp n
          have f1 : ∀ a ∈ o1, H a = none := fun a ha => fr a (List.mem_append_left _ ha)
          have f2 : ∀ a ∈ o2, H a = none := fun a ha => fr a (List.mem_append_right _ ha)
          obtain ⟨p1, S2, m2⟩ := S1.putS x1 n1 (A.sr.apart f1) g1
          obtain ⟨p2, S3, m3⟩ := S2.putS x2 n2 (fun a ha hm => (m2 a hm).elim (fun z => n3 a z a ha rfl) (A.sr.apart f2 a ha)) g2
          refine ⟨a, _, rfl, hq, rfl, v, _, rfl, w, _, rfl, rfl, q _ H1 io1 p2 S3 (A.kp.trans k1 A.bl) (k1.kf A.sr.bl) fun a ha => ?_⟩
          rcases m3 a ha with z | z
          · exact fresh_back A.kp A.sr (f2 a z)
          · rcases m2 a z with z | z
            · exact fresh_back A.kp A.sr (f1 a z)
            · exact A.fr a z
section
variable {X : Cx} {a b c e : Expr} {pos p1 p2 p3 p4 p5 : Pos} {f g h : Ev}
theorem callF {k : Nat} {x : Str} {st : Stmt} {fn : Fn} {ps : List Str} {es : List Expr} {fs : List Ev} (C : Cal X.prog X.w X.K X.mg X.base k x st fn ps) (hg : X.A.guards = some []) (hr : Room k X.A) (ha : PA X (e :: es) (tAS X.K fs))
    (hb : ∀ (kV doc pm : Value) (an : Option Addr) (cdv ct : Value) (us : List Value), us.length = ps.length → bindArgs (PySem.W.fnOf x x (defArgs st) (defBody st) (defScope st) .none kV doc pm an cdv ct) ⟨us, []⟩ = pure (ps.zip us))
    (hn : fs.length = ps.length := by rfl) (hgl : Gl X x := by rfl) (hdb : (x == ("__debug__" : Str)) = false := by decide) (he : starEach (e :: es) X.env = (false, eval e X.env) :: starEach es X.env := by rfl) (hpl : (backTo pos (starEach es X.env)).any (·.1) = false := by rfl) : PE X (.Call (.Name x p1) (e :: es) [] pos) (tV X.K (eCall fn fs)) := by
  obtain ⟨f, kV, doc, pm, an, cdv, ct, F, hm, kp⟩ := C.ex
  exact de_call F hg hr hgl hm kp (fun s us _ hl => .of_eq (hb kV doc pm an cdv ct us hl)) hn ha hdb he hpl
theorem callK0 {k : Nat} {x : Str} {st : Stmt} {fn : Fn} {ps kn : List Str} {ks : List Ev} {kws : List Keyword} (idx : List Nat) (C : Cal X.prog X.w X.K X.mg X.base k x st fn ps) (hg : X.A.guards = some []) (hr : Room k X.A) (hkw : PK X kws (tAS X.K ks))
    (hb : ∀ (kV doc pm : Value) (an : Option Addr) (cdv ct : Value) (ws : List Value), ws.length = ks.length → bindArgs (PySem.W.fnOf x x (defArgs st) (defBody st) (defScope st) .none kV doc pm an cdv ct) ⟨[], kn.zip ws⟩ = pure (ps.zip (pick idx ws)))
    (hN : (pick idx (List.range (ks.length + 0))).length = ps.length := by rfl) (hgl : Gl X x := by rfl) (hall : (backToKw pos (keywordEach kws X.env)).all (·.1.isSome) = true := by rfl) (hks : (backToKw pos (keywordEach kws X.env)).filterMap (·.1) = kn := by rfl) (hdb : (x == ("__debug__" : Str)) = false := by decide)
    (hpl : ((backTo pos (starEach [] X.env)).any (·.1) || (backToKw pos (keywordEach kws X.env)).any (·.1.isNone)) = false := by rfl) : PE X (.Call (.Name x p1) [] kws pos) (tV X.K (eCallK idx fn [] ks [])) := by
  obtain ⟨f, kV, doc, pm, an, cdv, ct, F, hm, kp⟩ := C.ex
  exact de_callK0 (kn := kn) F hg hr hgl hm kp .nil (fun s ws _ hl => .of_eq (by rw [List.append_nil]; exact hb kV doc pm an cdv ct ws hl)) hN hkw hall hks hdb hpl
theorem callK {k : Nat} {x : Str} {st : Stmt} {fn : Fn} {ps kn : List Str} {es : List Expr} {fs ks : List Ev} {kws : List Keyword} (idx : List Nat) (C : Cal X.prog X.w X.K X.mg X.base k x st fn ps) (hg : X.A.guards = some []) (hr : Room k X.A) (ha : PA X (e :: es) (tAS X.K fs)) (hkw : PK X kws (tAS X.K ks))
    (hb : ∀ (kV doc pm : Value) (an : Option Addr) (cdv ct : Value) (us ws : List Value), us.length = fs.length → ws.length = ks.length → bindArgs (PySem.W.fnOf x x (defArgs st) (defBody st) (defScope st) .none kV doc pm an cdv ct) ⟨us, kn.zip ws⟩ = pure (ps.zip (pick idx (us ++ ws))))
    (hN : (pick idx (List.range (fs.length + ks.length + 0))).length = ps.length := by rfl) (hgl : Gl X x := by rfl) (hall : (backToKw pos (keywordEach kws X.env)).all (·.1.isSome) = true := by rfl) (hks : (backToKw pos (keywordEach kws X.env)).filterMap (·.1) = kn := by rfl) (hdb : (x == ("__debug__" : Str)) = false := by decide)
    (he : starEach (e :: es) X.env = (false, eval e X.env) :: starEach es X.env := by rfl) (hpl : ((backTo pos (starEach (e :: es) X.env)).any (·.1) || (backToKw pos (keywordEach kws X.env)).any (·.1.isNone)) = false := by rfl) : PE X (.Call (.Name x p1) (e :: es) kws pos) (tV X.K (eCallK idx fn fs ks [])) := by
  obtain ⟨f, kV, doc, pm, an, cdv, ct, F, hm, kp⟩ := C.ex
  exact de_callK (kn := kn) F hg hr hgl hm kp .nil (fun s us ws _ hl hl2 => .of_eq (by rw [List.append_nil]; exact hb kV doc pm an cdv ct us ws hl hl2)) hN ha hkw hall hks hdb he hpl
theorem kS {nm : Option Str} {kpos : Pos} {kws : List Keyword} {fs : List Ev} (he : PE X e (tS X.K f)) (hes : PK X kws (tAS X.K fs)) : PK X (⟨nm, e, kpos⟩ :: kws) (tAS X.K (f :: fs)) := dk_cons he hes
/-! walks -/
theorem wRange {tg : Expr} (z : X.mg "range" = none) (ha : PA X [a] (tAM X.K false [f])) (hg : Gl X "range" := by rfl) (hs : starEach [a] X.env = [(false, eval a X.env)] := by rfl) : PI X tg (.Call (.Name "range" p1) [a] [] pos) (tI X.K (itN (l1 itRange) [f])) := di_range1 hg z ha hs
theorem wRange2 {tg : Expr} (z : X.mg "range" = none) (ha : PA X [a, c] (tAM X.K false [f, g])) (hg : Gl X "range" := by rfl) (hs : starEach [a, c] X.env = [(false, eval a X.env), (false, eval c X.env)] := by rfl) (hs2 : starEach [c] X.env = [(false, eval c X.env)] := by rfl) : PI X tg (.Call (.Name "range" p1) [a, c] [] pos) (tI X.K (itN (l2 itRange2) [f, g])) := di_range2 hg z ha hs hs2
theorem wZip {elts : List Expr} {kk : Nat} (z : X.mg "zip" = none) (ha : PA X [a, c] (tAS X.K [f, g])) (hg : Gl X "zip" := by rfl) (hs : starEach [a, c] X.env = (false, eval a X.env) :: starEach [c] X.env := by rfl) (hpl : (backTo pos (starEach [c] X.env)).any (·.1) = false := by rfl) : PI X (.Tuple elts kk p2) (.Call (.Name "zip" p1) [a, c] [] pos) (tI X.K (itN (l2 itZip) [f, g])) := di_zip hg z ha hs hpl
theorem wEnum {elts : List Expr} {kk : Nat} (z : X.mg "enumerate" = none) (ha : PA X [a] (tAS X.K [f])) (hg : Gl X "enumerate" := by rfl) (hs : starEach [a] X.env = [(false, eval a X.env)] := by rfl) : PI X (.Tuple elts kk p2) (.Call (.Name "enumerate" p1) [a] [] pos) (tI X.K (itN (l1 itEnumD) [f])) := di_enum hg z ha hs
theorem bZipS {kk : Nat} (zl : X.mg "list" = none) (z : X.mg "zip" = none) (hc : X.calm = true) (ha : PA X [a, c] (tAS X.K [f, g])) (hg : Gl X "list" := by rfl) (hg2 : Gl X "zip" := by rfl) (he : starEach [a, c] X.env = (false, eval a X.env) :: starEach [c] X.env := by rfl)
    (he2 : starEach [.Call (.Name "zip" p2) [a, c] [⟨some "strict", .Constant (.bool true) kk p3, p4⟩] p5] X.env = (false, eval (.Call (.Name "zip" p2) [a, c] [⟨some "strict", .Constant (.bool true) kk p3, p4⟩] p5) X.env) :: starEach [] X.env := by rfl)
    (hpl : ((backTo p5 (starEach [a, c] X.env)).any (·.1) || (backToKw p5 (keywordEach [⟨some "strict", .Constant (.bool true) kk p3, p4⟩] X.env)).any (·.1.isNone)) = false := by rfl) :
    PE X (.Call (.Name "list" p1) [.Call (.Name "zip" p2) [a, c] [⟨some "strict", .Constant (.bool true) kk p3, p4⟩] p5] [] pos) (tV X.K (eN (n2 oZipS) [f, g])) := de_lzs hg zl hg2 z ha hc he he2 hpl
/-! targets -/
theorem g1 (i : Nat) {x : Str} (hN : X.N.Nodup) (hi : X.N[i]? = some x := by rfl) (hx : Loc X.env.scope x := by first | exact Or.inl rfl | exact Or.inr rfl) (hf : X.fn x = true ∨ X.env.scope.names.lookup x = some .local := by first | exact .inl rfl | exact .inr rfl) : PG X (.Name x pos) (tG X.K (.one i)) := dg_one hN hi hx hf
theorem g2 (i j : Nat) {x y : Str} {kk : Nat} (hc : X.calm = true) (hN : X.N.Nodup) (hi : X.N[i]? = some x := by rfl) (hj : X.N[j]? = some y := by rfl) (hx : Loc X.env.scope x := by first | exact Or.inl rfl | exact Or.inr rfl) (hy : Loc X.env.scope y := by first | exact Or.inl rfl | exact Or.inr rfl)
    (hf : X.fn x = true ∨ X.env.scope.names.lookup x = some .local := by first | exact .inl rfl | exact .inr rfl) (hf2 : X.fn y = true ∨ X.env.scope.names.lookup y = some .local := by first | exact .inl rfl | exact .inr rfl) : PG X (.Tuple [.Name x p1, .Name y p2] kk pos) (tG X.K (.two i j)) := dg_two hc hN hi hj hx hy hf hf2
/-! statements -/
theorem stSet (i : Nat) {x : Str} (hN : X.N.Nodup) (he : PE X e (tS X.K f)) (hi : X.N[i]? = some x := by rfl) (hx : Loc X.env.scope x := by first | exact Or.inl rfl | exact Or.inr rfl) (hs : swapsWith e (some (.Name x p1)) pos.line X.env = pure false := by rfl) (hf : X.fn x = true ∨ X.env.scope.names.lookup x = some .local := by first | exact .inl rfl | exact .inr rfl) : PS X (.Assign [.Name x p1] e pos) (tD X.K (sSet i f)) := ds_set hN hi hx he hs hf
theorem stSetO (i : Nat) {x : Str} (hN : X.N.Nodup) (he : PE X e (tV X.K f)) (hi : X.N[i]? = some x := by rfl) (hx : Loc X.env.scope x := by first | exact Or.inl rfl | exact Or.inr rfl) (hs : swapsWith e (some (.Name x p1)) pos.line X.env = pure false := by rfl) (hf : X.fn x = true ∨ X.env.scope.names.lookup x = some .local := by first | exact .inl rfl | exact .inr rfl) : PS X (.Assign [.Name x p1] e pos) (tD X.K (sSetO i f)) := ds_setO hN hi hx he hs hf
theorem stPar (i : Nat) (oi : Bool) (j : Nat) (oj : Bool) {x y : Str} {px py pt pt2 : Pos} {kt k2 : Nat} (hc : X.calm = true) (hN : X.N.Nodup) (ha : PA X [a, c] (tAV X.K [f, g])) (hi : X.N[i]? = some x := by rfl) (hj : X.N[j]? = some y := by rfl) (hij : i ≠ j := by decide) (hx : X.env.scope.names.lookup x = some .local := by rfl) (hy : X.env.scope.names.lookup y = some .local := by rfl)
    (hw : swappedStores [.Tuple [.Name x px, .Name y py] kt pt] (.Tuple [a, c] k2 pt2) X.env = pure (some [x, y]) := by rfl) (hs : swapsWithSole [.Tuple [.Name x px, .Name y py] kt pt] (.Tuple [a, c] k2 pt2) pos.line X.env = pure false := by rfl) : PS X (.Assign [.Tuple [.Name x px, .Name y py] kt pt] (.Tuple [a, c] k2 pt2) pos) (tD X.K (sPar i oi j oj f g)) := ds_par hc hN hi hj hij hx hy ha hw hs
theorem stUnp (i : Nat) (oi : Bool) (j : Nat) (oj : Bool) {x y : Str} {px py pt : Pos} {kt : Nat} (hc : X.calm = true) (hN : X.N.Nodup) (he : PE X e (tV X.K f)) (hi : X.N[i]? = some x := by rfl) (hj : X.N[j]? = some y := by rfl) (hx : Loc X.env.scope x := by first | exact Or.inl rfl | exact Or.inr rfl) (hy : Loc X.env.scope y := by first | exact Or.inl rfl | exact Or.inr rfl)
    (hf : X.fn x = true ∨ X.env.scope.names.lookup x = some .local := by first | exact .inl rfl | exact .inr rfl) (hf2 : X.fn y = true ∨ X.env.scope.names.lookup y = some .local := by first | exact .inl rfl | exact .inr rfl)
    (hs : swapsWithSole [.Tuple [.Name x px, .Name y py] kt pt] e pos.line X.env = pure false := by rfl) (hw : swappedStores [.Tuple [.Name x px, .Name y py] kt pt] e X.env = pure none := by rfl) (h1 : (assignEach [.Tuple [.Name x px, .Name y py] kt pt] X.env).map (·.2) = [assign (.Tuple [.Name x px, .Name y py] kt pt) X.env] := by rfl) :
    PS X (.Assign [.Tuple [.Name x px, .Name y py] kt pt] e pos) (tD X.K (sUnp i oi j oj f)) := ds_unp hc hN he hi hj hx hy hf hf2 hs hw h1
theorem stRetV (i : Nat) {x : Str} (hN : X.N[i]? = some x := by rfl) (hv : Vis X.env.scope x := by first | exact Or.inl rfl | exact Or.inr (Or.inl rfl) | exact Or.inr (Or.inr rfl)) (hd : (x == ("__debug__" : Str)) = false := by decide) (hcd : (x == ("__classdict__" : Str)) = false := by decide) : PS X (.Return (some (.Name x p1)) pos) (tD X.K (sRetV i)) := ds_retV hN hv hd hcd
theorem stBset (i : Nat) {x : Str} {ei ev : Expr} {spos : Pos} (hi : PE X ei (tM X.K false g)) (he : PE X ev (tM X.K false f)) (hN : X.N[i]? = some x := by rfl) (hv : Vis X.env.scope x := by first | exact Or.inl rfl | exact Or.inr (Or.inl rfl) | exact Or.inr (Or.inr rfl)) (hd : (x == ("__debug__" : Str)) = false := by decide) (hcd : (x == ("__classdict__" : Str)) = false := by decide)
    (ha : ∀ v, assign (.Subscript (.Name x p1) ei spos) X.env v = (do
      let ov ← holding [v] (eval (.Name x p1) X.env)
      let iv ← holding [v, ov] (eval ei X.env)
      standAt spos
      holding [v, ov, iv] (setItem ov iv v)
      release [v, ov, iv] []) := by intro _; rfl)
    (hs : swapsWithSole [.Subscript (.Name x p1) ei spos] ev pos.line X.env = pure false := by rfl) (hw : swappedStores [.Subscript (.Name x p1) ei spos] ev X.env = pure none := by rfl) (h1 : (assignEach [.Subscript (.Name x p1) ei spos] X.env).map (·.2) = [assign (.Subscript (.Name x p1) ei spos) X.env] := by rfl) :
    PS X (.Assign [.Subscript (.Name x p1) ei spos] ev pos) (tD X.K (sBSet i g f)) := ds_bset hN hv hd hcd hi he ha hs hw h1
theorem stAppend (i : Nat) {x : Str} {es : List Expr} {fs : List Ev} {npos apos cpos : Pos} (ha : PA X (e :: es) (tAV X.K fs)) (hN : X.N[i]? = some x := by rfl) (hv : Vis X.env.scope x := by first | exact Or.inl rfl | exact Or.inr (Or.inl rfl) | exact Or.inr (Or.inr rfl)) (hd : (x == ("__debug__" : Str)) = false := by decide) (hcd : (x == ("__classdict__" : Str)) = false := by decide)
    (hbase : attributeBase (.Name x npos) "append" X.env (eval (.Name x npos) X.env) = eval (.Name x npos) X.env := by rfl)
    (hfew : ((backTo cpos (starEach (e :: es) X.env)).all (fun x => !x.1) && (backToKw cpos (keywordEach [] X.env)).all (fun x => x.1.isSome) && decide ((e :: es).length + ([] : List Keyword).length + (if ([] : List Keyword).isEmpty then 0 else 1) < 30)) = true := by rfl)
    (hline : (apos.endLine == cpos.line) = true := by rfl) (hs : starEach (e :: es) X.env = (false, eval e X.env) :: starEach es X.env := by rfl) (hplain : (backTo cpos (starEach es X.env)).any (·.1) = false := by rfl)
    (hsw : swapsWith (.Call (.Attribute (.Name x npos) "append" apos) (e :: es) [] cpos) none pos.line X.env = pure false := by rfl) : PS X (.Expr (.Call (.Attribute (.Name x npos) "append" apos) (e :: es) [] cpos) pos) (tD X.K (sMut i mAppend fs)) :=
  ds_mut opM_append PySem.F.plainAttrs_list PySem.F.slot_list_append PySem.F.type_list_append mt_append hN hv hd hcd ha hbase hfew hline hs hplain hsw
theorem stInsert (i : Nat) {x : Str} {es : List Expr} {fs : List Ev} {npos apos cpos : Pos} (ha : PA X (e :: es) (tAV X.K fs)) (hN : X.N[i]? = some x := by rfl) (hv : Vis X.env.scope x := by first | exact Or.inl rfl | exact Or.inr (Or.inl rfl) | exact Or.inr (Or.inr rfl)) (hd : (x == ("__debug__" : Str)) = false := by decide) (hcd : (x == ("__classdict__" : Str)) = false := by decide)
    (hbase : attributeBase (.Name x npos) "insert" X.env (eval (.Name x npos) X.env) = eval (.Name x npos) X.env := by rfl)
    (hfew : ((backTo cpos (starEach (e :: es) X.env)).all (fun x => !x.1) && (backToKw cpos (keywordEach [] X.env)).all (fun x => x.1.isSome) && decide ((e :: es).length + ([] : List Keyword).length + (if ([] : List Keyword).isEmpty then 0 else 1) < 30)) = true := by rfl)
    (hline : (apos.endLine == cpos.line) = true := by rfl) (hs : starEach (e :: es) X.env = (false, eval e X.env) :: starEach es X.env := by rfl) (hplain : (backTo cpos (starEach es X.env)).any (·.1) = false := by rfl)
    (hsw : swapsWith (.Call (.Attribute (.Name x npos) "insert" apos) (e :: es) [] cpos) none pos.line X.env = pure false := by rfl) : PS X (.Expr (.Call (.Attribute (.Name x npos) "insert" apos) (e :: es) [] cpos) pos) (tD X.K (sMut i mInsertS fs)) :=
  ds_mut opM_insert PySem.F.plainAttrs_list PySem.F.slot_list_insert PySem.F.type_list_insert mt_insert hN hv hd hcd ha hbase hfew hline hs hplain hsw
theorem stFor {tg iter : Expr} {body : List Stmt} {t : Tg} {it : Ws} {sv : Sv} (hp : PassesOwn (model X.prog X.w) X.A X.env X.xe) (hc : X.calm = true) (hi : PI X tg iter (tI X.K it)) (hg : PG X tg (tG X.K t)) (hb : PSs X body (tD X.K sv)) (hs : ∀ x, foldedSetIterable iter X.env x = pure x := by intro _; rfl) : PS X (.For tg iter body [] pos) (tD X.K (sFor t it sv)) := ds_for hp hc hi hg hb hs
/-! comprehensions -/
theorem xLc {elt tg iter : Expr} {ifs : List Expr} {scope : Scope} (own : List (Str × Nat)) (t : Tg) {it : Ws} {co : Option Ev} (hc : X.calm = true) (hN : X.N.Nodup) (hi : PI X tg iter (tI X.K it)) (ok : BlkOk X.N X.env.scope scope own)
    (hg : ∀ (s : Shared) (H : Hp) (C : Addr) (cl : List (Str × Addr)) (fp : List Addr), PG (X.blk s H scope (compEnvC scope cl C X.env) fp) tg (tG X.K t)) (ht : ∀ (s : Shared) (H : Hp) (C : Addr) (cl : List (Str × Addr)) (fp : List Addr), PTs (X.blk s H scope (compEnvC scope cl C X.env) fp) ifs (tC? X.K co))
    (he : ∀ (s : Shared) (H : Hp) (C : Addr) (cl : List (Str × Addr)) (fp : List Addr), PE (X.blk s H scope (compEnvC scope cl C X.env) fp) elt (tV X.K f)) (hs : ∀ i ∈ t.slots, i ∈ own.map (·.2) := by decide) (hf : ∀ x, foldedSetIterable iter X.env x = pure x := by intro _; rfl) :
    PE X (.ListComp elt [⟨tg, iter, ifs, 0⟩] scope pos) (tV X.K (eLc (own.map (·.2)) t it co f)) := de_lc hc hN hi ok hs hg ht he hf
theorem xDc {kx vx tg iter : Expr} {ifs : List Expr} {scope : Scope} (own : List (Str × Nat)) (t : Tg) {it : Ws} {co : Option Ev} {fk : Ev} (hc : X.calm = true) (hN : X.N.Nodup) (hi : PI X tg iter (tI X.K it)) (ok : BlkOk X.N X.env.scope scope own)
    (hg : ∀ (s : Shared) (H : Hp) (C : Addr) (cl : List (Str × Addr)) (fp : List Addr), PG (X.blk s H scope (compEnvC scope cl C X.env) fp) tg (tG X.K t)) (ht : ∀ (s : Shared) (H : Hp) (C : Addr) (cl : List (Str × Addr)) (fp : List Addr), PTs (X.blk s H scope (compEnvC scope cl C X.env) fp) ifs (tC? X.K co))
    (hk : ∀ (s : Shared) (H : Hp) (C : Addr) (cl : List (Str × Addr)) (fp : List Addr), PE (X.blk s H scope (compEnvC scope cl C X.env) fp) kx (tS X.K fk)) (he : ∀ (s : Shared) (H : Hp) (C : Addr) (cl : List (Str × Addr)) (fp : List Addr), PE (X.blk s H scope (compEnvC scope cl C X.env) fp) vx (tS X.K f))
    (hs : ∀ i ∈ t.slots, i ∈ own.map (·.2) := by decide) (hf : ∀ x, foldedSetIterable iter X.env x = pure x := by intro _; rfl) :
    PE X (.DictComp kx vx [⟨tg, iter, ifs, 0⟩] scope pos) (tV X.K (eDc (own.map (·.2)) t it co fk f)) := de_dc hc hN hi ok hs hg ht hk he hf
theorem stSetLc (i : Nat) {y : Str} {py : Pos} {elt tg iter : Expr} {ifs : List Expr} {scope : Scope} {lpos : Pos} (own : List (Str × Nat)) (t : Tg) {it : Ws} {co : Option Ev} (hc : X.calm = true) (hN : X.N.Nodup) (hsw : swapsWith (.ListComp elt [⟨tg, iter, ifs, 0⟩] scope lpos) (some (.Name y py)) pos.line X.env = pure true) (hi : PI X tg iter (tI X.K it)) (ok : BlkOk X.N X.env.scope scope own)
    (hg : ∀ (s : Shared) (H : Hp) (C : Addr) (cl : List (Str × Addr)) (fp : List Addr), PG (X.blk s H scope (compEnvC scope cl C X.env) fp) tg (tG X.K t)) (ht : ∀ (s : Shared) (H : Hp) (C : Addr) (cl : List (Str × Addr)) (fp : List Addr), PTs (X.blk s H scope (compEnvC scope cl C X.env) fp) ifs (tC? X.K co))
    (he : ∀ (s : Shared) (H : Hp) (C : Addr) (cl : List (Str × Addr)) (fp : List Addr), PE (X.blk s H scope (compEnvC scope cl C X.env) fp) elt (tV X.K f)) (hy : X.N[i]? = some y := by rfl) (hyl : X.env.scope.names.lookup y = some .local := by rfl) (hs : ∀ i ∈ t.slots, i ∈ own.map (·.2) := by decide) (hf : ∀ x, foldedSetIterable iter X.env x = pure x := by intro _; rfl) :
    PS X (.Assign [.Name y py] (.ListComp elt [⟨tg, iter, ifs, 0⟩] scope lpos) pos) (tD X.K (sSetO i (eLc (own.map (·.2)) t it co f))) := ds_setLc hc hN hy hyl hsw hi ok hs hg ht he hf
end
end HF

/-! HF: names lent to a def that hands back no object; a part of a name's own list changed in place; what is raised. -/
namespace HF
open PySem PySem.Spec L2
open PyProof.Rows hiding St
theorem dedup : ∀ os : List Addr, ∃ as : List Addr, as.Nodup ∧ ∀ a, a ∈ as ↔ a ∈ os
  | [] => ⟨[], List.nodup_nil, fun _ => Iff.rfl⟩
  | o :: os => by
    obtain ⟨as, n, h⟩ := dedup os
    by_cases ho : o ∈ as
    · exact ⟨as, n, fun a => ⟨fun z => List.mem_cons_of_mem _ ((h a).mp z), fun z => (List.mem_cons.mp z).elim (fun e => e ▸ ho) (h a).mpr⟩⟩
    · exact ⟨o :: as, List.nodup_cons.mpr ⟨ho, n⟩, fun a => by rw [List.mem_cons, List.mem_cons, h a]⟩
/-- what was frozen is free again -/
theorem inv_thaw {X : Cx} {pins : List (Addr × Obj)} {σ : St} {s : Shared} {G : Hp} : ∀ {as : List Addr} {H : Hp}, Inv X pins σ H s → as.Nodup → (∀ a ∈ as, ∃ u o, G a = some u ∧ H a = some (.frz o u) ∧ ∀ o' u', X.H_0 a ≠ some (.frz o' u')) →
    ∃ H', Inv X pins σ H' s ∧ (∀ a ∈ as, H' a = G a) ∧ ∀ a, a ∉ as → H' a = H a
  | [], H, I, _, _ => ⟨H, I, (fun _ z => nomatch z), fun _ _ => rfl⟩
  | a :: as, H, I, nd, h => by
    obtain ⟨na, nd⟩ := List.nodup_cons.mp nd
    obtain ⟨u, o, e1, e2, e3⟩ := h a List.mem_cons_self
    have I1 := I.unlock e2 e3
    obtain ⟨H', I2, h1, h2⟩ := inv_thaw (as := as) I1 nd fun b hb => by
      obtain ⟨w, p, g1, g2, g3⟩ := h b (List.mem_cons_of_mem _ hb)
      exact ⟨w, p, g1, by rw [upd_ne (fun q : b = a => na (q ▸ hb))]; exact g2, g3⟩
    refine ⟨H', I2, fun b hb => ?_, fun b hb => ?_⟩
    · rcases List.mem_cons.mp hb with q | hb
      · rw [q, h2 a na, upd_same, e1]
      · exact h1 b hb
    · rw [h2 b fun z => hb (List.mem_cons_of_mem _ z)]
      exact upd_ne fun q => hb (q ▸ List.mem_cons_self)
theorem Rp.scal {K : PySem.W.Frag} {H H' : Hp} {io io' : List Addr} {d : D} {v : V} {os : List Addr} (h : Rp K H io d v os) (e : isScal d = true) : Rp K H' io' d v [] := by
  cases h <;> first | cases e | skip
  · exact .non
  · exact .bl _
  · exact .int _
  · exact .str ‹_›
section
variable {X : Cx} {k : Nat} {f : Addr} {fd : FuncData} {ps : List Str} {fn : Fn} {x : Str} {p pos : Pos} {e : Expr} {es : List Expr}
theorem de_callS {fs : List Ev} {n : Nat} (F : FnG X.prog X.w X.K X.mg X.base k f fd ps (spF X.K fn n)) (hg : X.A.guards = some []) (hr : Room k X.A) (hgl : Gl X x) (hm : X.mg x = some (.ref f)) (hk : PySem.W.keepIn X.K (.ref f) = true)
    (hb : ∀ (s : Shared) (us : List Value), X.K.In s.heap → us.length = n → BindsTo s fd ⟨us, []⟩ (ps.zip us)) (hn : fs.length = n) (ha : PA X (e :: es) (tAM X.K false fs)) (hdb : (x == ("__debug__" : Str)) = false)
    (he : starEach (e :: es) X.env = (false, eval e X.env) :: starEach es X.env) (hpl : (backTo pos (starEach es X.env)).any (·.1) = false) : PE X (.Call (.Name x p) (e :: es) [] pos) (tV X.K (eCallS fn fs)) := by
  refine ⟨fun pins s σ H Q I ⟨io, b, r, oss, S, d, b', e, q⟩ => ?_⟩
  obtain ⟨ds, b1, e1, e2⟩ := bnd_some e
  obtain ⟨d0, b2, e3, e4⟩ := bnd_some e2
  obtain ⟨hsc, rfl, rfl⟩ : isScal d0 = true ∧ d = d0 ∧ b' = b2 := by
    by_cases hs : isScal d0 = true
    · rw [if_pos hs] at e4
      cases e4; exact ⟨hs, rfl, rfl⟩
    · rw [if_neg hs] at e4; cases e4
  refine wpAny_Call_Name_kw (ld_glob I hgl hm ?_ hdb)
  refine PySem.W.callWith_K (h₀ := X.base) I.ok.mod.kin hk (thn (ha.run pos pins s σ H (fun vs H1 => ∃ io1 os, Kp io H io1 H1 ∧ SR X.K io1 b1 r oss σ H1 ∧ RpL X.K H1 io1 ds vs os) I ⟨io, b, r, oss, S, ds, b1, e1, fun vs H1 io1 os k1 S1 rl _ => ⟨io1, os, k1, S1, rl⟩⟩) fun us s1 ⟨vs, H1, I1, rv, io1, os, k1, S1, rl⟩ => ⟨I1.kIn, ?_⟩) he hpl
  have hds : ds.length = n := (evs_len e1).trans hn
  obtain ⟨as, na, has⟩ := dedup os
  have hown : ∀ a ∈ as, Ownd H1 io1 a := fun a ha => rl.ownd S1.bl a ((has a).mp ha)
  obtain ⟨H2, I2, fz⟩ := inv_fz I1 na fun a ha => (hown a ha).2
  have rl2 := rl.fz fz fun a ha => (has a).mpr ha
  have S2 : SR X.K io1 b1 [] [] [] H2 := S1.bare.fz fz (fun a ha => (hown a ha).1) fun a ha z => nomatch z
  have h0 : ∀ a ∈ as, ∀ o' u', X.H_0 a ≠ some (.frz o' u') := fun a ha => by
    obtain ⟨_, u, eu, mu⟩ := hown a ha
    exact I1.nofrz eu mu
  refine thn (go_fn F hg hr (hb s1 us I1.kIn (by rw [← rv.length, ← rl.length]; exact hds)) I2 rv (Q := fun v H' => ∃ io', Kp io1 H2 io' H' ∧ SR X.K io' b' [] [] [] H' ∧ Rp X.K H' io' d v [])
    ⟨io1, b1, shareL ds, d, b', S2, rl2, (rl2.length.trans (rl.length.symm.trans hds)), e3, fun v H' io' os' k2 S3 rx _ _ => ⟨io', k2, S3, rx.scal hsc⟩⟩) fun u s2 ⟨v, H', I3, rv3, io', k2, S3, rx⟩ => ?_
  have hfz : ∀ a ∈ as, ∃ u o, H1 a = some u ∧ Mut (some u) ∧ H' a = some (.frz o u) := fun a ha => by
    obtain ⟨u, o, g1, g2, g3⟩ := fz.frz a ha
    exact ⟨u, o, g1, g2, k2.keep a _ g3 (hown a ha).1⟩
  obtain ⟨H3, I4, h1, h2⟩ := inv_thaw (G := H1) I3 na fun a ha => by
    obtain ⟨u, o, g1, _, g2⟩ := hfz a ha
    exact ⟨u, o, g1, g2, h0 a ha⟩
  have nio : ∀ a ∈ as, a ∉ io' := fun a ha hm => by
    obtain ⟨vs, ev⟩ := S3.bl a hm
    obtain ⟨u, o, _, _, g⟩ := hfz a ha
    rw [ev] at g; cases g
  have kk : Kp io1 H1 io' H3 := by
    refine ⟨fun a o ea na => ?_, k2.pre, fun a ha hn => ?_⟩
    · by_cases hm : a ∈ as
      · rw [h1 a hm]; exact ea
      · rw [h2 a hm]; exact k2.keep a o ((fz.same a hm).trans ea) na
    · have g := k2.new a ha hn
      by_cases hm : a ∈ as
      · exact absurd ha (nio a hm)
      · rw [← fz.same a hm]; exact g
  have S4 : SR X.K io' b' [] [] [] H3 := ⟨S3.len, fun n a zs g1 g2 => by
    rw [h2 a fun z => nio a z (List.mem_of_getElem? g1)]
    exact S3.bx n a zs g1 g2, S3.nd, .nil, List.nodup_nil⟩
  exact ⟨v, H3, I4, rv3, q v H3 io' [] (k1.trans kk S.bl) (S1.move kk S4) (rx.scal hsc) List.nodup_nil nil_all⟩
end
/-! ### a part of a name's own list -/
def sMutAt (i j : Nat) (op : D → List D → Option D) (fs : List Ev) : Sv := fun r => bnd (evs fs r) fun xs => match r[i]? with
  | some (.ow (.lst true ds)) => match ds[j]? with
    | some d => bnd (lift (op d xs)) fun d' => ret (.nx, r.set i (.ow (.lst true (ds.set j d'))))
    | none => fail
  | _ => fail
theorem RpL.at {K : PySem.W.Frag} {H : Hp} {io : List Addr} (bl : BL io H) : ∀ {ds : List D} {vs : List V} {os : List Addr} {j : Nat} {d : D}, RpL K H io ds vs os → ds[j]? = some d → ∃ v o1 o2 o3, vs[j]? = some v ∧ os = o1 ++ o2 ++ o3 ∧ Rp K H io d v o2 ∧
    ∀ (H1 : Hp) (io1 : List Addr) (a : Addr) (o : HO) (d' : D) (o2' : List Addr), Kp io H io1 H1 → Mut (H1 a) → a ∉ o1 → a ∉ o3 → Rp K (L2.upd H1 a o) io1 d' v o2' → RpL K (L2.upd H1 a o) io1 (ds.set j d') vs (o1 ++ o2' ++ o3)
  | _, _, _, _, _, .nil, e => by simp at e
  | _, _, _, 0, _, .cons (os := os) (ps := ps) h r, e => by
    simp at e
    subst e
    exact ⟨_, [], os, ps, rfl, rfl, h, fun H1 io1 a o d' o2' k m _ n3 x => .cons x ((r.keep k bl).upd m n3)⟩
  | _, _, _, j + 1, _, .cons (os := os) (ps := ps) h r, e => by
    obtain ⟨v, o1, o2, o3, e1, e2, x, g⟩ := RpL.at bl (j := j) r (by simpa using e)
    subst e2
    refine ⟨v, os ++ o1, o2, o3, by simpa using e1, by simp, x, fun H1 io1 a o d' o2' k m n1 n3 y => ?_⟩
    have := RpL.cons ((h.keep k bl).upd (o := o) m fun z => n1 (List.mem_append_left _ z)) (g H1 io1 a o d' o2' k m (fun z => n1 (List.mem_append_right _ z)) n3 y)
    rw [List.set_cons_succ]
    simpa using this
section
variable {X : Cx}
/-- what a call of a method of a part of a name's list comes to -/
def tMA (K : PySem.W.Frag) (T : String) (i j : Nat) (rr : V → List V → Hp → VK → Prop) (fs : List Ev) : TE := fun σ H Q => ∃ v, σ[i]? = some (some v) ∧ ∃ l vs y, v = V.ref l ∧ H l = some (.lst vs) ∧ L2.atI vs (j : Int) = some y ∧ tyV K T y H ∧ tAV K fs σ H fun ys H2 => rr y ys H2 Q
def tMN (K : PySem.W.Frag) (T : String) (i : Nat) (rr : V → List V → Hp → VK → Prop) (fs : List Ev) : TE := fun σ H Q => ∃ v, σ[i]? = some (some v) ∧ tyV K T v H ∧ tAV K fs σ H fun ys H2 => rr v ys H2 Q
theorem tAV_nil {K : PySem.W.Frag} {σ : St} {H : Hp} {Q : List V → Hp → Prop} (h : tAV K [] σ H Q) : Q [] H := by
  obtain ⟨io, b, r, oss, S, ds, b', e, q⟩ := h
  cases e
  exact q [] H io [] (Kp.refl _ _) S .nil List.nodup_nil nil_all
theorem ds_mutAt {i j : Nat} {T : String} {op : D → List D → Option D} {rr : V → List V → Hp → VK → Prop} {fs : List Ev} {c : Expr} {pos : Pos} (ho : OpM X.K T op rr) (hE : PE X c (tMA X.K T i j rr fs)) (hsw : swapsWith c none pos.line X.env = pure false) :
    PS X (.Expr c pos) (tD X.K (sMutAt i j op fs)) :=
  PS_wk (ps_expr hE hsw) fun D σ H ⟨io0, H0, io, b, r, oss, A, fl, r', b', e, q⟩ => by
    obtain ⟨ds, b1, e1, e2⟩ := bnd_some e
    cases hr : r[i]? with
    | none => rw [hr] at e2; cases e2
    | some sl =>
      rw [hr] at e2
      rcases A.sr.sl.get hr with rfl | ⟨d0, v, rfl, hv, hx⟩ | ⟨d0, v, os, rfl, hv, ho', hx⟩
      · cases e2
      · cases e2
      · match d0, e2, hx, hr with
        | .lst true dl, e2, hx, hr =>
        dsimp only at e2
        cases hj : dl[j]? with
        | none => rw [hj] at e2; cases e2
        | some dj =>
        rw [hj] at e2
        obtain ⟨d', b2, e3, e4⟩ := bnd_some e2
        obtain ⟨e5, e6⟩ := lift_some e3
        replace e5 : op dj ds = some d' := e5
        replace e6 : b2 = b1 := e6
        subst e6
        cases e4
        obtain ⟨mo, no⟩ := mem_flat ho'
        have nx := no A.sr.od
        obtain ⟨l, vs, ps, rfl, rfl, hA, nl, rl⟩ := hx.lstT
        obtain ⟨nlp, nps⟩ := List.nodup_cons.mp nx
        obtain ⟨vj, o1, o2, o3, ej, rfl, xj, put⟩ := rl.at A.sr.bl hj
        obtain ⟨n12, n3, n123⟩ := List.nodup_append.mp nps
        obtain ⟨n1, n2, n12'⟩ := List.nodup_append.mp n12
        have hat : L2.atI vs (j : Int) = some vj := by
          have hl : j < vs.length := (List.getElem?_eq_some_iff.mp ej).1
          unfold L2.atI L2.ixN
          rw [if_pos (by omega), if_pos (by omega)]
          exact ej
        refine ⟨_, hv, l, vs, vj, rfl, hA, hat, ?_, ?_⟩
        · exact ho.ty io H vj dj ds d' o2 xj e5
        · refine ⟨io, b, r, oss, A.sr, ds, _, e1, fun ys H1 io1 qs k1 S1 rly ny fr => ?_⟩
          have x1 := xj.keep k1 A.sr.bl
          have mo2 : ∀ a ∈ o2, a ∈ oss.flatten := fun a ha => mo a (List.mem_cons_of_mem _ (List.mem_append_left _ (List.mem_append_right _ ha)))
          have ap : ∀ a ∈ qs, a ∉ o2 := fun a ha hm => A.sr.apart fr a ha (mo2 a hm)
          have hA1 := k1.keep l _ hA nl
          refine ho.run io1 H1 vj ys dj ds d' o2 qs _ S1.bl x1 n2 rly ny ap e5 fun a o' os' w ea ha rx' n' hs' => ?_
          have hm : a ∈ oss.flatten := mo2 a ha
          obtain ⟨nio, u, eu, mu⟩ := S1.sl.ownd S1.bl a hm
          have m : Mut (H1 a) := by rw [eu]; exact mu
          have na1 : a ∉ o1 := fun z => n12' a z a ha rfl
          have na3 : a ∉ o3 := fun z => n123 a (List.mem_append_right _ ha) a z rfl
          have nla : l ≠ a := fun z => nlp (List.mem_append_left _ (List.mem_append_right _ (z ▸ ha)))
          have rl' := put H1 io1 a o' d' os' k1 m na1 na3 rx'
          have nl1 : l ∉ io1 := k1.notin hA nl
          have rx2 : Rp X.K (L2.upd H1 a o') io1 (.lst true (dl.set j d')) (.ref l) (l :: (o1 ++ os' ++ o3)) := .lstO ((upd_ne nla).trans hA1) nl1 rl'
          have sub2 : ∀ c ∈ l :: (o1 ++ os' ++ o3), c ∈ l :: (o1 ++ o2 ++ o3) ∨ c ∈ qs := fun c hc => by
            simp only [List.mem_cons, List.mem_append] at hc ⊢
            rcases hc with z | (z | z) | z
            · exact .inl (.inl z)
            · exact .inl (.inr (.inl (.inl z)))
            · exact (hs' c z).elim (fun y => .inl (.inr (.inl (.inr y)))) .inr
            · exact .inl (.inr (.inr z))
          have nd2 : (l :: (o1 ++ os' ++ o3)).Nodup := by
            have fr1 : ∀ c ∈ os', c ∈ oss.flatten → c ∈ o2 := fun c hc hm => (hs' c hc).elim (fun z => z) fun z => absurd hm (A.sr.apart fr c z)
            have mo' : ∀ c, c = l ∨ c ∈ o1 ∨ c ∈ o3 → c ∈ oss.flatten := fun c hc => mo c (by
              simp only [List.mem_cons, List.mem_append]
              rcases hc with z | z | z
              · exact .inl z
              · exact .inr (.inl (.inl z))
              · exact .inr (.inr z))
            refine List.nodup_cons.mpr ⟨fun z => ?_, List.nodup_append.mpr ⟨List.nodup_append.mpr ⟨n1, n', fun c hc c' hc' z => ?_⟩, n3, fun c hc c' hc' z => ?_⟩⟩
            · rcases List.mem_append.mp z with z | z
              · rcases List.mem_append.mp z with z | z
                · exact nlp (List.mem_append_left _ (List.mem_append_left _ z))
                · exact nlp (List.mem_append_left _ (List.mem_append_right _ (fr1 l z (mo' l (.inl rfl)))))
              · exact nlp (List.mem_append_right _ z)
            · subst z
              exact n12' c hc c (fr1 c hc' (mo' c (.inr (.inl hc)))) rfl
            · subst z
              rcases List.mem_append.mp hc with z | z
              · exact n123 c (List.mem_append_left _ z) c hc' rfl
              · exact n123 c (List.mem_append_right _ (fr1 c z (mo' c (.inr (.inr hc'))))) c hc' rfl
          have SE := S1.sl.setU m A.sr.od hr hv ho' (List.mem_cons_of_mem l (List.mem_append_left o3 (List.mem_append_right o1 ha))) rx2
          have fr' : ∀ c ∈ l :: (o1 ++ os' ++ o3), c ∈ l :: (o1 ++ o2 ++ o3) ∨ H0 c = none := fun c hc => (sub2 c hc).imp (fun z => z) fun z => fresh_back A.kp A.sr (fr c z)
          refine q σ _ io1 (oss.set i _) ⟨S1.len, fun n c zs e1 e2 => upd_oth (S1.bx n c zs e1 e2) fun z => nio (z ▸ List.mem_of_getElem? e1), S1.nd, SE, ?_⟩ ?_ ((k1.kf A.sr.bl).trans (Kf.upd m)) ?_
          · exact nodup_setU nd2 sub2 A.sr.od ho' (A.sr.apart fr)
          · have kk := A.kp.trans k1 A.bl
            refine ⟨fun c o e n => ?_, kk.pre, kk.new⟩
            rw [upd_ne (fun z => by subst z; rw [A.fr c hm] at e; cases e)]
            exact kk.keep c o e n
          · refine fun c hc => (mem_set_flat hc).elim (fun z => ?_) (A.fr c)
            exact (fr' c z).elim (fun z => A.fr c (mo c z)) (fun z => z)
theorem ds_mutG {i : Nat} {T : String} {op : D → List D → Option D} {rr : V → List V → Hp → VK → Prop} {fs : List Ev} {c : Expr} {pos : Pos} (ho : OpM X.K T op rr) (hE : PE X c (tMN X.K T i rr fs)) (hsw : swapsWith c none pos.line X.env = pure false) : PS X (.Expr c pos) (tD X.K (sMut i op fs)) :=
  PS_wk (ps_expr hE hsw) fun D σ H ⟨io0, H0, io, b, r, oss, A, fl, r', b', e, q⟩ => by
    obtain ⟨ds, b1, e1, e2⟩ := bnd_some e
    cases hr : r[i]? with
    | none => rw [hr] at e2; cases e2
    | some sl =>
      rw [hr] at e2
      rcases A.sr.sl.get hr with rfl | ⟨d0, v, rfl, hv, hx⟩ | ⟨d0, v, os, rfl, hv, ho', hx⟩
      · cases e2
      · cases e2
      · obtain ⟨d', b2, e3, e4⟩ := bnd_some e2
        obtain ⟨e5, e6⟩ := lift_some e3
        replace e5 : op d0 ds = some d' := e5
        replace e6 : b2 = b1 := e6
        subst e6
        cases e4
        obtain ⟨mo, no⟩ := mem_flat ho'
        have nx := no A.sr.od
        refine ⟨v, hv, ?_, ?_⟩
        · exact ho.ty io H v d0 ds d' os hx e5
        · refine ⟨io, b, r, oss, A.sr, ds, _, e1, fun ys H1 io1 ps k1 S1 rl ny fr => ?_⟩
          have x1 := hx.keep k1 A.sr.bl
          have ap : ∀ a ∈ ps, a ∉ os := fun a ha hm => A.sr.apart fr a ha (mo a hm)
          refine ho.run io1 H1 v ys d0 ds d' os ps _ S1.bl x1 nx rl ny ap e5 fun a o' os' w ea ha rx' n' hs' => ?_
          have hm : a ∈ oss.flatten := mo a ha
          obtain ⟨nio, u, eu, mu⟩ := S1.sl.ownd S1.bl a hm
          have m : Mut (H1 a) := by rw [eu]; exact mu
          have SE := S1.sl.setU m A.sr.od hr hv ho' ha rx'
          have fr' : ∀ c ∈ os', c ∈ os ∨ H0 c = none := fun c hc => (hs' c hc).imp (fun z => z) fun z => fresh_back A.kp A.sr (fr c z)
          refine q σ _ io1 (oss.set i os') ⟨S1.len, fun n c zs e1 e2 => upd_oth (S1.bx n c zs e1 e2) fun z => nio (z ▸ List.mem_of_getElem? e1), S1.nd, SE, ?_⟩ ?_ ((k1.kf A.sr.bl).trans (Kf.upd m)) ?_
          · exact nodup_setU n' hs' A.sr.od ho' (A.sr.apart fr)
          · have kk := A.kp.trans k1 A.bl
            refine ⟨fun c o e n => ?_, kk.pre, kk.new⟩
            rw [upd_ne (fun z => by subst z; rw [A.fr c hm] at e; cases e)]
            exact kk.keep c o e n
          · refine fun c hc => (mem_set_flat hc).elim (fun z => ?_) (A.fr c)
            exact (fr' c z).elim (fun z => A.fr c (mo c z)) (fun z => z)

theorem pe_mA0 {i j : Nat} {T : String} {x nm : Str} {id : String} {rr : V → List V → Hp → VK → Prop} {npos apos cpos spos kp : Pos} {kk : Nat} (pa : PlainAttrs T) (slot : Slot T nm id) (hty : typeOf (.builtin id) = pure (.type "method_descriptor")) (hm : MtR X id rr)
    (hN : X.N[i]? = some x) (hv : Vis X.env.scope x) (hd : (x == ("__debug__" : Str)) = false) (hcd : (x == ("__classdict__" : Str)) = false) (hs : PlainIx (.Constant (.int (j : Int)) kk kp))
    (hbase : attributeBase (.Subscript (.Name x npos) (.Constant (.int (j : Int)) kk kp) spos) nm X.env (eval (.Subscript (.Name x npos) (.Constant (.int (j : Int)) kk kp) spos) X.env) = eval (.Subscript (.Name x npos) (.Constant (.int (j : Int)) kk kp) spos) X.env) (hline : (apos.endLine == cpos.line) = true) :
    PE X (.Call (.Attribute (.Subscript (.Name x npos) (.Constant (.int (j : Int)) kk kp) spos) nm apos) [] [] cpos) (tMA X.K T i j rr []) :=
  PE_wk (pe_bm0 pa slot hty hm (pe_ix ix_any (pe_var hN hv hd hcd) pe_int hs) hbase hline) fun σ H Q ⟨v, hv, l, vs, y, e1, e2, e3, ty, q⟩ => ⟨v, hv, .inl (.inl ⟨l, vs, j, y, e1, rfl, .inl (.inl e2), e3, ty, tAV_nil q⟩)⟩
theorem pe_mA {i j : Nat} {T : String} {x nm : Str} {id : String} {rr : V → List V → Hp → VK → Prop} {e : Expr} {es : List Expr} {fs : List Ev} {npos apos cpos spos kp : Pos} {kk : Nat} (pa : PlainAttrs T) (slot : Slot T nm id) (hty : typeOf (.builtin id) = pure (.type "method_descriptor")) (hm : MtR X id rr)
    (hN : X.N[i]? = some x) (hv : Vis X.env.scope x) (hd : (x == ("__debug__" : Str)) = false) (hcd : (x == ("__classdict__" : Str)) = false) (hs : PlainIx (.Constant (.int (j : Int)) kk kp)) (ha : PA X (e :: es) (tAV X.K fs))
    (hbase : attributeBase (.Subscript (.Name x npos) (.Constant (.int (j : Int)) kk kp) spos) nm X.env (eval (.Subscript (.Name x npos) (.Constant (.int (j : Int)) kk kp) spos) X.env) = eval (.Subscript (.Name x npos) (.Constant (.int (j : Int)) kk kp) spos) X.env)
    (hfew : ((backTo cpos (starEach (e :: es) X.env)).all (fun x => !x.1) && (backToKw cpos (keywordEach [] X.env)).all (fun x => x.1.isSome) && decide ((e :: es).length + ([] : List Keyword).length + (if ([] : List Keyword).isEmpty then 0 else 1) < 30)) = true)
    (hline : (apos.endLine == cpos.line) = true) (hst : starEach (e :: es) X.env = (false, eval e X.env) :: starEach es X.env) (hplain : (backTo cpos (starEach es X.env)).any (·.1) = false) :
    PE X (.Call (.Attribute (.Subscript (.Name x npos) (.Constant (.int (j : Int)) kk kp) spos) nm apos) (e :: es) [] cpos) (tMA X.K T i j rr fs) :=
  PE_wk (pe_bm pa slot hty hm (pe_ix ix_any (pe_var hN hv hd hcd) pe_int hs) ha hbase hfew hline hst hplain) fun σ H Q ⟨v, hv, l, vs, y, e1, e2, e3, ty, q⟩ => ⟨v, hv, .inl (.inl ⟨l, vs, j, y, e1, rfl, .inl (.inl e2), e3, ty, q⟩)⟩
theorem pe_mN0 {i : Nat} {T : String} {x nm : Str} {id : String} {rr : V → List V → Hp → VK → Prop} {npos apos cpos : Pos} (pa : PlainAttrs T) (slot : Slot T nm id) (hty : typeOf (.builtin id) = pure (.type "method_descriptor")) (hm : MtR X id rr)
    (hN : X.N[i]? = some x) (hv : Vis X.env.scope x) (hd : (x == ("__debug__" : Str)) = false) (hcd : (x == ("__classdict__" : Str)) = false)
    (hbase : attributeBase (.Name x npos) nm X.env (eval (.Name x npos) X.env) = eval (.Name x npos) X.env) (hline : (apos.endLine == cpos.line) = true) : PE X (.Call (.Attribute (.Name x npos) nm apos) [] [] cpos) (tMN X.K T i rr []) :=
  PE_wk (pe_bm0 pa slot hty hm (pe_var hN hv hd hcd) hbase hline) fun σ H Q ⟨v, hv, ty, q⟩ => ⟨v, hv, ty, tAV_nil q⟩
def mReverse (d : D) (xs : List D) : Option D := match d, xs with
  | .lst true ys, [] => if stillL ys then some (.lst true ys.reverse) else none
  | _, _ => none
theorem RpL.rev0 {K : PySem.W.Frag} {H : Hp} {io : List Addr} : ∀ {ds : List D} {vs : List V}, RpL K H io ds vs [] → RpL K H io ds.reverse vs.reverse []
  | [], _, h => by cases h; exact .nil
  | d :: ds, _, h => by
    obtain ⟨v, ws, rfl, x, r⟩ := h.one
    rw [List.reverse_cons, List.reverse_cons]
    exact (RpL.rev0 r).append' x
theorem opM_reverse {K : PySem.W.Frag} : OpM K "list" mReverse rReverse := by
  refine ⟨fun io H x dx dys d' os rx e => ?_, ?_⟩
  · unfold mReverse at e
    split at e
    · exact rx.tyL
    · cases e
  intro io H x ys dx dys d' os ps Q bl rx nx ry ny ap e q
  match dx, dys, e, rx, ry with
  | .lst true ds, [], e, rx, ry =>
    obtain ⟨a, vs, qs, rfl, rfl, hA, na, rl⟩ := rx.lstT
    cases ry
    unfold mReverse at e
    dsimp only at e
    split at e
    · rename_i hl
      cases e
      obtain rfl := rl.still_nil hl
      have m : Mut (H a) := by rw [hA]; trivial
      exact ⟨a, vs, rfl, rfl, hA, q a _ [a] .non rfl List.mem_cons_self (.lstO upd_same na ((rl.upd m fun z => nomatch z).rev0)) (List.nodup_cons.mpr ⟨fun z => (nomatch z), List.nodup_nil⟩) fun c hc => .inl hc⟩
    · cases e
/-- what raises: nothing is said of it -/
def sFail : Sv := fun _ => fail
theorem ds_raise {e : Option Expr} {c : Option Expr} {pos : Pos} : PS X (.Raise e c pos) (tD X.K sFail) := ⟨fun pins s σ H D I ⟨_, _, _, _, _, _, _, _, _, _, e, _⟩ => by cases e⟩
end
end HF

/-! HF: sets with more slots: rounds of i -> 5 i + 1 of any good mask. -/
namespace HF
open PySem PySem.Spec PyProof.Rows L2
/-- which slots are met: a number whose bits tell them -/
def orb (m : Nat) : Nat → Nat → Nat → Nat
  | 0, _, acc => acc
  | n + 1, i, acc => orb m n ((i * 5 + 1) % (m + 1)) (acc ||| 2 ^ i)
theorem lcg_step (m i : Nat) : ∀ k, lcgI m ((i * 5 + 1) % (m + 1)) k = lcgI m i (k + 1)
  | 0 => rfl
  | k + 1 => by
    unfold lcgI
    rw [lcg_step m i k]
theorem orb_bit (m : Nat) : ∀ (n i acc j : Nat), (orb m n i acc).testBit j = true → acc.testBit j = true ∨ ∃ k, k < n ∧ lcgI m i k = j
  | 0, _, _, _, h => .inl h
  | n + 1, i, acc, j, h => by
    rcases orb_bit m n _ _ j h with h | ⟨k, hk, e⟩
    · rw [Nat.testBit_or, Bool.or_eq_true] at h
      rcases h with h | h
      · exact .inl h
      · rw [Nat.testBit_two_pow] at h
        exact .inr ⟨0, Nat.succ_pos _, of_decide_eq_true h⟩
    · exact .inr ⟨k + 1, Nat.succ_lt_succ hk, by rw [← lcg_step]; exact e⟩
/-- a mask all of whose slots are met from anywhere -/
structure Mk5 (m : Nat) : Prop where
  odd : m % 2 = 1
  back : lcgI m 0 (m + 1) = 0
  all : ∀ j, j ≤ m → ∃ b, b ≤ m ∧ lcgI m 0 b = j
theorem mk5_of {m : Nat} (h1 : m % 2 = 1) (h2 : lcgI m 0 (m + 1) = 0) (h3 : orb m (m + 1) 0 0 = 2 ^ (m + 1) - 1) : Mk5 m := ⟨h1, h2, fun j hj => by
  have hb : (orb m (m + 1) 0 0).testBit j = true := by
    rw [h3, Nat.testBit_two_pow_sub_one]
    exact decide_eq_true (by omega)
  rcases orb_bit m _ _ _ _ hb with h | ⟨k, hk, e⟩
  · rw [Nat.zero_testBit] at h; cases h
  · exact ⟨k, by omega, e⟩⟩
theorem mk5_7 : Mk5 7 := mk5_of rfl (by decide +kernel) (by decide +kernel)
theorem mk5_31 : Mk5 31 := mk5_of rfl (by decide +kernel) (by decide +kernel)
theorem mk5_127 : Mk5 127 := mk5_of rfl (by decide +kernel) (by decide +kernel)
theorem mk5_511 : Mk5 511 := mk5_of rfl (by decide +kernel) (by decide +kernel)
theorem lcg_two (m i a : Nat) : ∀ k, lcgI m (lcgI m i a) k = lcgI m i (a + k)
  | 0 => rfl
  | k + 1 => by
    show (lcgI m (lcgI m i a) k * 5 + 1) % (m + 1) = (lcgI m i (a + k) * 5 + 1) % (m + 1)
    rw [lcg_two m i a k]
theorem Mk5.meets {m : Nat} (M : Mk5 m) {i j : Nat} (hi : i ≤ m) (hj : j ≤ m) : ∃ k, k ≤ m ∧ lcgI m i k = j := by
  obtain ⟨a, ha, ea⟩ := M.all i hi
  obtain ⟨b, hb, eb⟩ := M.all j hj
  subst ea
  by_cases c : a ≤ b
  · exact ⟨b - a, by omega, by rw [lcg_two, show a + (b - a) = b from by omega, eb]⟩
  · refine ⟨m + 1 + b - a, by omega, ?_⟩
    have back := lcg_two m 0 (m + 1) b
    rw [M.back] at back
    rw [lcg_two, show a + (m + 1 + b - a) = m + 1 + b from by omega, ← back, eb]
/-- each slot is met before a search gives up -/
theorem Mk5.found {m : Nat} (M : Mk5 m) (h : Int) {j : Nat} (hj : j ≤ m) : ∃ k, k < 10 * SetTable.turns m ∧ way m h k = j := by
  obtain ⟨q, hq, e⟩ := M.meets (runI_le m (SetTable.bits h) 12) hj
  obtain ⟨k, hk, e2⟩ := run_nth m (SetTable.bits h) (12 + q)
  refine ⟨k, by unfold SetTable.turns; omega, ?_⟩
  show (nth m _ k).j = j
  rw [e2]
  show runI m (SetTable.bits h) (12 + q) = j
  rw [runI_tail (bits_lt h), e]
end HF

/-! HF: the table of a set, for any mask all of whose slots are met. -/
namespace HF
open PySem PySem.Spec PyProof.Rows L2
theorem way_in (m : Nat) (h : Int) (k : Nat) : way m h k ≤ m := by
  have hi : SetTable.bits h % (m + 1) < m + 1 := Nat.mod_lt _ (Nat.succ_pos _)
  have e := (runEnd_bd (Nat.le_of_lt_succ hi)).1
  have g := (runEnd_bd (Nat.le_of_lt_succ hi)).2.1
  have q := nth_in (m := m) k (runAt m (SetTable.bits h % (m + 1)) (SetTable.bits h)) (by
    unfold runAt
    dsimp only
    omega)
  exact Nat.le_trans (Nat.le_add_right _ _) q
/-- each entry is found again on the way of its hash -/
structure TabK (t : SetTable) (hs : List Int) : Prop where
  up : Ris t.place.toList
  none_ : t.dummies = #[]
  many : t.place.size = hs.length
  good : Mk5 t.mask
  low : ∀ x ∈ t.place.toList, x ≤ t.mask
  way_ : ∀ (i : Nat) (h : Int) (j : Nat), hs[i]? = some h → t.place.toList[i]? = some j → ∃ k, way t.mask h k = j ∧ ∀ q, q < k → way t.mask h q ∈ t.place.toList
section
variable {t : SetTable} {hs : List Int}
/-- the first gap on a way -/
theorem TabK.gap (T : TabK t hs) (hl : hs.length ≤ t.mask) (h : Int) : ∃ K, K < 10 * SetTable.turns t.mask ∧ way t.mask h K ∉ t.place.toList ∧ ∀ k, k < K → way t.mask h k ∈ t.place.toList := by
  obtain ⟨j, hj, out⟩ := st_missing t.place.toList (t.mask + 1) (by rw [Array.length_toList, T.many]; omega)
  obtain ⟨k, hk, rfl⟩ := T.good.found h (Nat.le_of_lt_succ hj)
  obtain ⟨K, le, no, least⟩ := st_least (p := fun k => way t.mask h k ∉ t.place.toList) k out
  exact ⟨K, Nat.lt_of_le_of_lt le hk, no, fun q hq => Classical.byContradiction fun c => least q hq c⟩
/-- an entry of this hash stands before the gap -/
theorem TabK.seen (T : TabK t hs) {h : Int} {K i j : Nat} (no : way t.mask h K ∉ t.place.toList) (hi : hs[i]? = some h) (hj : t.place.toList[i]? = some j) : ∃ k, k < K ∧ way t.mask h k = j := by
  obtain ⟨k, rfl, all⟩ := T.way_ i h j hi hj
  have nk : k ≠ K := fun e => no (e ▸ List.mem_of_getElem? hj)
  have nK : ¬ K < k := fun c => no (all K c)
  exact ⟨k, by omega, rfl⟩
/-- one more entry, at the gap -/
theorem TabK.add (T : TabK t hs) {h : Int} {K : Nat} (no : way t.mask h K ∉ t.place.toList) (all : ∀ k, k < K → way t.mask h k ∈ t.place.toList) :
    ∃ p, p = SetTable.below t.place (way t.mask h K) ∧ (t.put (way t.mask h K)).2 = p ∧ p ≤ hs.length ∧ TabK (t.put (way t.mask h K)).1 (hs.take p ++ h :: hs.drop p) ∧ (t.put (way t.mask h K)).1.fill = hs.length + 1 := by
  refine ⟨_, rfl, rfl, ?_⟩
  have inm := way_in t.mask h K
  generalize hj : way t.mask h K = j at no inm ⊢
  have pl : SetTable.below t.place j ≤ t.place.size := (below_cut T.up j).1
  have pl2 : SetTable.below t.place j ≤ t.place.toList.length := by rw [Array.length_toList]; exact pl
  have ph : SetTable.below t.place j ≤ hs.length := by rw [← T.many]; exact pl
  have pp := put_place t j
  have sz : (t.put j).1.place.size = hs.length + 1 := by rw [← Array.length_toList, pp, len_ins _ pl2, Array.length_toList, T.many]
  have keep : ∀ x, x ∈ t.place.toList → x ∈ (t.put j).1.place.toList := fun x hx => by rw [pp]; exact mem_ins.2 (.inr hx)
  refine ⟨ph, ?_, ?_⟩
  · constructor
    · exact ris_insert T.up fun e => no (List.mem_of_getElem? (by rw [Array.getElem?_toList]; exact e))
    · exact put_dm T.none_ j
    · rw [len_ins _ ph]; exact sz
    · exact T.good
    · intro x hx
      rw [pp] at hx
      rcases mem_ins.1 hx with rfl | hx
      · exact inm
      · exact T.low x hx
    · intro i g y h1 h2
      rw [tins_get hs ph] at h1
      rw [pp, tins_get _ pl2] at h2
      have old : ∀ i', hs[i']? = some g → t.place.toList[i']? = some y → ∃ k, way t.mask g k = y ∧ ∀ q, q < k → way t.mask g q ∈ (t.put j).1.place.toList := fun i' a b => by
        obtain ⟨k, e, z⟩ := T.way_ i' g y a b
        exact ⟨k, e, fun q hq => keep _ (z q hq)⟩
      by_cases c : i < SetTable.below t.place j
      · rw [if_pos c] at h1 h2
        exact old i h1 h2
      · rw [if_neg c] at h1 h2
        by_cases d : i = SetTable.below t.place j
        · rw [if_pos d] at h1 h2
          cases h1; cases h2
          exact ⟨K, hj, fun q hq => keep _ (all q hq)⟩
        · rw [if_neg d] at h1 h2
          exact old (i - 1) h1 h2
  · show (t.put j).1.place.size + (t.put j).1.dummies.size = _
    rw [sz, put_dm T.none_ j]; rfl
end
/-! ### all laid anew -/
/-- the first free slot of a way is taken -/
theorem Mk5.free {m : Nat} (M : Mk5 m) (owner : Array (Option Nat)) (h : Int) {j : Nat} (hj : j ≤ m) (hf : oAt owner j = none) :
    ∃ K, SetTable.layClean.free m owner (SetTable.turns m) (SetTable.bits h % (m + 1)) (SetTable.bits h) = some (way m h K) ∧ oAt owner (way m h K) = none ∧ ∀ k, k < K → oAt owner (way m h k) ≠ none := by
  obtain ⟨q, hq, e⟩ := M.meets (runI_le m (SetTable.bits h) 12) hj
  rw [← runI_tail (bits_lt h)] at e
  have at_ : way m h (off m (SetTable.bits h % (m + 1)) (SetTable.bits h) (12 + q)) = j := by
    unfold way
    rw [nth_off, itL_run]
    exact e
  obtain ⟨K, le, no, least⟩ := st_least (p := fun k => oAt owner (way m h k) = none) _ (by rw [at_]; exact hf)
  refine ⟨K, free_spec m owner (SetTable.turns m) (12 + q) _ _ K (by unfold SetTable.turns; omega) le (fun k hk => ?_) (by rw [show oAt owner (nth m _ K).j = none from no]; rfl), no, least⟩
  have c := least k hk
  cases z : oAt owner (nth m (runAt m (SetTable.bits h % (m + 1)) (SetTable.bits h)) k).j with
  | none => exact absurd z c
  | some _ => rfl
theorem own_more {m : Nat} (M : Mk5 m) {done : List Int} {owner : Array (Option Nat)} (W : Own m done owner) (hl : done.length ≤ m) (h : Int) :
    ∃ j, SetTable.layClean.free m owner (SetTable.turns m) (SetTable.bits h % (m + 1)) (SetTable.bits h) = some j ∧ Own m (done ++ [h]) (owner.setIfInBounds j (some done.length)) := by
  obtain ⟨ps, len, cover⟩ := W.ps
  obtain ⟨g, hg, out⟩ := st_missing ps (m + 1) (by omega)
  have gn : oAt owner g = none := Classical.byContradiction fun c => out (cover g (Nat.le_of_lt_succ hg) c)
  obtain ⟨K, e, no, least⟩ := M.free owner h (Nat.le_of_lt_succ hg) gn
  have inm := way_in m h K
  have ins : way m h K < owner.size := by rw [W.sz]; omega
  have here := oAt_set_self (some done.length) ins
  have stay : ∀ i, oAt owner i ≠ none → oAt (owner.setIfInBounds (way m h K) (some done.length)) i ≠ none := fun i hi => by
    by_cases c : i = way m h K
    · rw [c, here]; intro q; cases q
    · rw [oAt_set_ne _ c]; exact hi
  refine ⟨_, e, ⟨by rw [Array.size_setIfInBounds, W.sz], ?_, ?_, ⟨way m h K :: ps, by simp [len], ?_⟩⟩⟩
  · intro j k hj q
    by_cases c : j = way m h K
    · rw [c, here] at q
      cases q
      exact ⟨h, K, by simp, c.symm, fun i hi => stay _ (least i hi)⟩
    · rw [oAt_set_ne _ c] at q
      obtain ⟨g', K', a1, a2, a3⟩ := W.at_ j k hj q
      exact ⟨g', K', by rw [List.getElem?_append_left (List.getElem?_eq_some_iff.mp a1).1]; exact a1, a2, fun i hi => stay _ (a3 i hi)⟩
  · intro k hk
    rw [List.length_append, List.length_singleton] at hk
    by_cases c : k < done.length
    · obtain ⟨j, hj, q⟩ := W.all k c
      exact ⟨j, hj, by rw [oAt_set_ne _ fun z => by rw [z, no] at q; cases q]; exact q⟩
    · exact ⟨_, inm, by rw [here, show k = done.length from by omega]⟩
  · intro j hj q
    by_cases c : j = way m h K
    · exact c ▸ List.mem_cons_self
    · rw [oAt_set_ne _ c] at q
      exact List.mem_cons_of_mem _ (cover j hj q)
theorem own_fold {m : Nat} (M : Mk5 m) : ∀ (rest done : List Int) (owner : Array (Option Nat)), Own m done owner → done.length + rest.length ≤ m →
    ∃ o', rest.foldl (stepF m) (some (owner, done.length)) = some (o', (done ++ rest).length) ∧ Own m (done ++ rest) o'
  | [], done, owner, W, _ => ⟨owner, by simp, by simpa using W⟩
  | h :: rest, done, owner, W, hl => by
    rw [List.length_cons] at hl
    obtain ⟨j, e, W'⟩ := own_more M W (by omega) h
    obtain ⟨o', f, W2⟩ := own_fold M rest (done ++ [h]) _ W' (by rw [List.length_append, List.length_singleton]; omega)
    have as : done ++ [h] ++ rest = done ++ h :: rest := by simp
    rw [as] at f W2
    rw [List.length_append, List.length_singleton] at f
    exact ⟨o', by rw [List.foldl_cons, stepF_some e]; exact f, W2⟩
theorem lay_ok {m : Nat} (M : Mk5 m) {hs : Array Int} (hn : hs.size ≤ m) : ∃ owner, SetTable.layClean m hs = some owner ∧ Own m hs.toList owner := by
  obtain ⟨owner, f, W⟩ := own_fold M hs.toList [] _ (Own.init m) (by simp; omega)
  rw [List.nil_append] at f W
  rw [List.length_nil] at f
  exact ⟨owner, by rw [layClean_eq, f]; rfl, W⟩
/-- the table laid anew -/
theorem relay_ok (t : SetTable) {hs : Array Int} {wanted m : Nat} (hw : SetTable.sizeAbove wanted - 1 = m) (M : Mk5 m) (hn : hs.size ≤ m) :
    ∃ t' order, t.relaid hs wanted = some (t', order) ∧ order.toList.Perm (List.range hs.size) ∧ TabK t' (order.toList.map fun i => hs.getD i 0) ∧ t'.mask = m ∧ t'.led = t.led ∧ t'.plain = t.plain ∧ t'.dummies = #[] := by
  subst hw
  generalize hm : SetTable.sizeAbove wanted - 1 = m at M hn
  obtain ⟨owner, e, W⟩ := lay_ok M hn
  obtain ⟨up, within⟩ := ris_live (fun j => owner.getD j none) (List.range (m + 1)) List.pairwise_lt_range
  have live : ∀ {j k : Nat}, (j, k) ∈ liveOf m owner ↔ j ≤ m ∧ oAt owner j = some k := mem_live W.sz
  have nd : ((liveOf m owner).map (·.1)).Nodup := List.Pairwise.imp (fun h => Nat.ne_of_lt h) up
  have allk : ∀ k, k < hs.size → k ∈ (liveOf m owner).map (·.2) := fun k hk => by
    obtain ⟨j, b1, b2⟩ := W.all k (by rw [Array.length_toList]; exact hk)
    exact List.mem_map.mpr ⟨(j, k), live.2 ⟨b1, b2⟩, rfl⟩
  have len : (liveOf m owner).length = hs.size := by
    have zz : hs.toList.length = hs.size := Array.length_toList
    obtain ⟨ps, p1, p2⟩ := W.ps
    have a := nat_nodup_len _ ps nd fun x hx => by
      obtain ⟨⟨y, k⟩, hq, rfl⟩ := List.mem_map.mp hx
      obtain ⟨b1, b2⟩ := live.1 hq
      exact p2 y b1 (by rw [b2]; intro z; cases z)
    have b := nat_nodup_len (List.range hs.size) _ List.nodup_range fun k hk => allk k (List.mem_range.mp hk)
    rw [List.length_map, p1] at a
    rw [List.length_map, List.length_range] at b
    omega
  refine ⟨tabOf t m owner, ((liveOf m owner).map (·.2)).toArray, by rw [relaid_eq, hm, e]; rfl, perm_range _ _ (by rw [List.length_map]; exact len) allk, ?_, rfl, rfl, rfl, rfl⟩
  constructor
  · exact up
  · rfl
  · show ((liveOf m owner).map (·.1)).toArray.size = _
    simp
  · exact M
  · exact fun x hx => Nat.le_of_lt_succ (List.mem_range.mp (within x hx))
  · intro i h j h1 h2
    have h1' : (((liveOf m owner).map (·.2)).map fun i => hs.getD i 0)[i]? = some h := h1
    have h2' : ((liveOf m owner).map (·.1))[i]? = some j := h2
    rw [List.getElem?_map, List.getElem?_map] at h1'
    rw [List.getElem?_map] at h2'
    cases hq : (liveOf m owner)[i]? with
    | none => rw [hq] at h2'; cases h2'
    | some q =>
      obtain ⟨y, k⟩ := q
      rw [hq] at h1' h2'
      cases h2'
      have eh : hs.getD k 0 = h := Option.some.inj h1'
      obtain ⟨b1, b2⟩ := live.1 (List.mem_of_getElem? hq)
      obtain ⟨g, K, a1, a2, a3⟩ := W.at_ y k b1 b2
      have eg : hs.getD k 0 = g := by rw [Array.getD_eq_getD_getElem?, ← Array.getElem?_toList, a1]; rfl
      rw [eg] at eh
      subst eh
      refine ⟨K, a2, fun q hq => ?_⟩
      show way m g q ∈ (liveOf m owner).map (·.1)
      cases z : oAt owner (way m g q) with
      | none => exact absurd z (a3 q hq)
      | some k2 => exact List.mem_map.mpr ⟨(way m g q, k2), live.2 ⟨way_in m g q, z⟩, rfl⟩
end HF

/-! HF: a set of tuples of texts: what it is, how it is searched. -/
namespace HF
open PySem PySem.Spec PyProof.Rows L2
abbrev Kt := Addr × List Str
abbrev hT (P : Program) (w : World) (k : List Str) : Int := tupleKeyHash (strKind P w) k
/-- the tuple at a has the texts k -/
abbrev IsS (P : Program) (w : World) (h : Heap) (k : List Str) (a : Addr) : Prop := IsTupleKey (strKind P w) h k a
section
variable {P : Program} {w : World} {A : Around} {E : Value → Shared → Prop} {s : Shared}
theorem str_items {k : List Str} {vs : List Value} (h : ItemsAre (strKind P w) k vs) : ∀ v ∈ vs, ∃ x t, v = Value.str x t := by
  induction h with
  | nil => intro v hv; cases hv
  | @cons k0 v' ks vs h1 _ ih =>
    intro v hv
    rcases List.mem_cons.mp hv with rfl | hv
    · cases v with
      | str x t => exact ⟨x, t, rfl⟩
      | _ => cases h1
    · exact ih v hv
theorem noClass_str (n : Nat) (x : Str) (t : Tok) : ofAClassStatement n (.str x t) = pure false := by cases n <;> rfl
theorem byVal_str (n : Nat) (x : Str) (t : Tok) : hashByValue n (.str x t) = pure false := by cases n <;> rfl
theorem noClass {k : List Str} {b : Addr} {Q : Bool → Shared → Prop} (hk : IsS P w s.heap k b) (h : Q false s) : wpAny (model P w) A (ofAClassStatement 8 (.ref b)) Q E s := by
  have ty := hk.typeIs
  obtain ⟨o, items, n, ho, _, hd, hi⟩ := hk
  unfold ofAClassStatement
  refine wpAny_bind (wpAny_typeOf ty ?_)
  dsimp only
  simp only [show (("tuple" : String) == "tuple") = true by decide, if_true, Bool.not_true, Bool.false_eq_true, if_false]
  try refine wpAny_bind (wpAny_pure ?_)
  try simp only [Bool.not_true, Bool.false_eq_true, if_false]
  show wpAny _ _ (seqItems? (.ref b) >>= _) _ _ s
  refine wpAny_bind (wpAny_seqItems ho hd ?_)
  dsimp only
  refine wpAny_bind ?_
  show wpAny _ _ (forIn items _ _) _ _ s
  rw [← Array.forIn_toList]
  refine wpAny_forIn_list _ (fun rest r s' => r.1 = none ∧ s' = s ∧ ∀ v ∈ rest, ∃ x t, v = Value.str x t) _ ?_ ?_ _ _ ⟨rfl, rfl, str_items hi⟩
  · rintro v rest r s' ⟨_, rfl, all⟩
    obtain ⟨x, t, rfl⟩ := all v List.mem_cons_self
    rw [noClass_str]
    refine wpAny_bind (wpAny_pure ?_)
    simp only [Bool.false_eq_true, if_false]
    exact wpAny_pure ⟨rfl, rfl, fun u hu => all u (List.mem_cons_of_mem _ hu)⟩
  · rintro ⟨r1, r2⟩ s' ⟨hr, rfl, _⟩
    simp only at hr
    subst hr
    exact wpAny_pure h
theorem byVal {k : List Str} {b : Addr} {Q : Bool → Shared → Prop} (hk : IsS P w s.heap k b) (h : ∀ q, Q q s) : wpAny (model P w) A (hashByValue 8 (.ref b)) Q E s := by
  have ty := hk.typeIs
  obtain ⟨o, items, n, ho, _, hd, hi⟩ := hk
  unfold hashByValue
  refine wpAny_bind (wpAny_specialOf ty F.slot_tuple_hash.lookup ?_)
  show wpAny _ _ (seqItems? (.ref b) >>= _) _ _ s
  refine wpAny_bind (wpAny_seqItems ho hd ?_)
  refine wpAny_bind ?_
  show wpAny _ _ (forIn items _ _) _ _ s
  rw [← Array.forIn_toList]
  refine wpAny_forIn_list _ (fun rest r s' => r.1 = none ∧ s' = s ∧ ∀ v ∈ rest, ∃ x t, v = Value.str x t) _ ?_ ?_ _ _ ⟨rfl, rfl, str_items hi⟩
  · rintro v rest r s' ⟨_, rfl, all⟩
    obtain ⟨x, t, rfl⟩ := all v List.mem_cons_self
    rw [byVal_str]
    refine wpAny_bind (wpAny_pure ?_)
    simp only [Bool.not_false, if_true]
    exact wpAny_pure (wpAny_pure (h false))
  · rintro ⟨r1, r2⟩ s' ⟨hr, rfl, _⟩
    simp only at hr
    subst hr
    exact wpAny_pure (h true)
/-- nobody sees a search among such tuples -/
theorem unseen {k : List Str} {b : Addr} {Q : Bool → Shared → Prop} (hk : IsS P w s.heap k b) {ys : List Value} (hy : ∀ y ∈ ys, ∃ k' c, y = Value.ref c ∧ IsS P w s.heap k' c) (h : Q false s) :
    wpAny (model P w) A (searchCouldBeSeen (.ref b) ys) Q E s := by
  unfold searchCouldBeSeen
  refine wpAny_bind ?_
  refine wpAny_forIn_list _ (fun rest r s' => r.1 = none ∧ s' = s ∧ ∀ y ∈ rest, ∃ k' c, y = Value.ref c ∧ IsS P w s.heap k' c) _ ?_ ?_ _ _ ⟨rfl, rfl, hy⟩
  · rintro v rest r s' ⟨_, rfl, all⟩
    obtain ⟨k', c, rfl, hc⟩ := all v List.mem_cons_self
    have more : ∀ y ∈ rest, ∃ k' c, y = Value.ref c ∧ IsS P w s'.heap k' c := fun u hu => all u (List.mem_cons_of_mem _ hu)
    dsimp only
    by_cases hv : (b == c || (carriedByValue (.ref b) && carriedByValue (.ref c))) = true
    · exact wp_if_pos hv (wpAny_pure ⟨rfl, rfl, more⟩)
    · refine wp_if_neg hv ?_
      refine wpAny_bind (wpAny_eqIsQuiet_tuple hk ?_)
      simp only [Bool.not_true, Bool.false_eq_true, if_false]
      refine wpAny_bind (wpAny_eqIsQuiet_tuple hc ?_)
      simp only [Bool.not_true, Bool.false_eq_true, if_false]
      refine wpAny_bind (noClass hk ?_)
      simp only [Bool.false_eq_true, if_false]
      refine wpAny_bind (noClass hc ?_)
      simp only [Bool.false_eq_true, if_false]
      exact wpAny_pure ⟨rfl, rfl, more⟩
  · rintro ⟨r1, r2⟩ s' ⟨hr, rfl, _⟩
    simp only at hr
    subst hr
    exact wpAny_pure h
/-! ### the set -/
def rowS (P : Program) (w : World) (L : List Kt) : List (Int × Value) := L.map fun p => (hT P w p.2, Value.ref p.1)
structure SetS (P : Program) (w : World) (h : Heap) (a : Addr) (L : List Kt) (es : Array (Int × Value)) (ep : Nat) (t : SetTable) : Prop where
  ob : ∃ o, h.get? a = some o ∧ o.ExactSet ∧ o.data = .set es ep t
  rows : es.toList = rowS P w L
  tab : TabK t (L.map fun p => hT P w p.2)
  nd : (L.map (·.2)).Nodup
  tup : ∀ p ∈ L, IsS P w h p.2 p.1
  led : w.params.followText "set-order" = true ∨ t.led = true
  room : L.length * 5 < t.mask * 3
  small : t.mask = 7 ∨ t.mask = 31 ∨ t.mask = 127 ∨ t.mask = 511
variable {a : Addr} {L : List Kt} {es : Array (Int × Value)} {ep : Nat} {t : SetTable}
theorem SetS.size (R : SetS P w s.heap a L es ep t) : es.size = L.length := by
  have h := congrArg List.length R.rows
  unfold rowS at h
  rwa [Array.length_toList, List.length_map] at h
theorem SetS.fits (R : SetS P w s.heap a L es ep t) : t.fits es.size = true := by
  have h1 := R.tab.many
  rw [List.length_map] at h1
  have h2 := R.size
  have h3 := R.room
  unfold SetTable.fits SetTable.fill
  rw [R.tab.none_, Bool.and_eq_true, beq_iff_eq, decide_eq_true_eq]
  show t.place.size = es.size ∧ t.place.size + 0 ≤ t.mask
  omega
theorem SetS.entry (R : SetS P w s.heap a L es ep t) {i : Nat} {p : Kt} (h : L[i]? = some p) : es[i]? = some (hT P w p.2, Value.ref p.1) := by
  rw [← Array.getElem?_toList, R.rows]
  unfold rowS
  rw [List.getElem?_map, h]; rfl
theorem SetS.kept (R : SetS P w s.heap a L es ep t) : ¬ t.gaveWay = true := by
  unfold SetTable.gaveWay
  rw [R.tab.good.odd]
  decide
end
end HF

/-! HF: a set of tuples of texts: searching. -/
namespace HF
open PySem PySem.Spec PyProof.Rows L2
/-- where a search begins -/
abbrev beg (m : Nat) (h : Int) : SetTable.Probe := runAt m (SetTable.bits h % (m + 1)) (SetTable.bits h)
theorem beg_dummy (m : Nat) (h : Int) : ∀ n, (nth m (beg m h) n).dummy = none := by
  have key : ∀ (n : Nat) (p : SetTable.Probe), p.dummy = none → (nth m p n).dummy = none := by
    intro n
    induction n with
    | zero => exact fun p h => h
    | succ n ih =>
      intro p h
      refine ih (adv m p) ?_
      unfold adv
      split <;> exact h
  exact fun n => key n _ rfl
section
variable {P : Program} {w : World} {A : Around} {E : Value → Shared → Prop} {s : Shared} {a : Addr} {L : List Kt} {es : Array (Int × Value)} {ep : Nat} {t : SetTable}
theorem same_block (t : SetTable) : t.sameMemory t.moves t.mask = some true := by
  unfold SetTable.sameMemory
  rw [if_pos (beq_self_eq_true _)]
/-- a search, from its c-th step on: K is the gap -/
theorem look_on (R : SetS P w s.heap a L es ep t) {x : Addr} {k : List Str} (hx : IsS P w s.heap k x) (hu : A.units < cLine) {K : Nat} (hKf : K < 10 * SetTable.turns t.mask)
    (no : way t.mask (hT P w k) K ∉ t.place.toList) (all : ∀ c, c < K → way t.mask (hT P w k) c ∈ t.place.toList) {Q : SetFound → Shared → Prop}
    (hin : k ∈ L.map (·.2) → Q (.there none) s) (hout : k ∉ L.map (·.2) → Q (.free (way t.mask (hT P w k) K) false) s) :
    ∀ (f c : Nat) (stand : Option SetTable.Probe), stand.getD (t.probeStart (hT P w k)) = nth t.mask (beg t.mask (hT P w k)) c → c ≤ K → K - c < f →
      (∀ (i : Nat) p, L[i]? = some p → p.2 = k → ∃ q, c ≤ q ∧ q < K ∧ t.place.toList[i]? = some (way t.mask (hT P w k) q)) →
      wpAny (model P w) A (setSearchFrom a (.ref x) (hT P w k) true f stand) Q E s
  | 0, c, stand, _, _, hf, _ => absurd hf (Nat.not_lt_zero _)
  | f + 1, c, stand, hst, hc, hf, left => by
    obtain ⟨o, ho, hex, hd⟩ := R.ob
    generalize hg : hT P w k = g at *
    have hashAt : ∀ (i : Nat) p, L[i]? = some p → ((es[i]?.map (·.1)).getD 0) = hT P w p.2 := fun i p hp => by
      rw [R.entry hp]; rfl
    have on : ∀ q, nth t.mask (nth t.mask (beg t.mask g) c) q = nth t.mask (beg t.mask g) (c + q) := fun q => (nth_add t.mask c _ q).symm
    have onj : ∀ q, (nth t.mask (nth t.mask (beg t.mask g) c) q).j = way t.mask g (c + q) := fun q => congrArg SetTable.Probe.j (on q)
    have cK : c + (K - c) = K := by omega
    have spec := go_spec t R.tab.up R.tab.none_ (fun i => (es[i]?.map (·.1)).getD 0) g (10 * SetTable.turns t.mask) (K - c) _ (beg_dummy t.mask g c) (by omega)
      (fun q hq => by rw [onj]; exact all (c + q) (by omega)) (by rw [onj, cK]; exact no)
    rw [setSearchFrom_succ]
    refine wpAny_bind (wpAny_setState_of ho hd R.fits ?_)
    dsimp only
    refine wp_if_neg R.kept ?_
    try refine wpAny_bind (wpAny_pure ?_)
    rcases spec with ⟨q, i, hq, hi, hh, before, pr⟩ | ⟨before, pr⟩
    · have pr' : t.probe (fun i => (es[i]?.map (·.1)).getD 0) g (stand.getD (t.probeStart g)) = some (.candidate (way t.mask g (c + q)) i (nth t.mask (beg t.mask g) (c + (q + 1)))) := by
        rw [hst, ← onj, ← on]
        exact pr
      rw [pr']
      dsimp only
      rw [onj] at hi
      have il : i < L.length := by
        have h1 := (List.getElem?_eq_some_iff.mp hi).1
        have h2 := R.tab.many
        rw [List.length_map] at h2
        rw [Array.length_toList] at h1
        omega
      obtain ⟨p, hp⟩ : ∃ p, L[i]? = some p := ⟨_, List.getElem?_eq_getElem il⟩
      have pm : p ∈ L := List.mem_of_getElem? hp
      have slot : t.slot (way t.mask g (c + q)) = .live i := slot_live R.tab.up hi
      have rest : wpAny (model P w) A (searchRest a (.ref x) g true f es t (way t.mask g (c + q)) i (nth t.mask (beg t.mask g) (c + (q + 1)))) Q E s := by
        unfold searchRest
        rw [R.entry hp]
        dsimp only
        refine wpAny_bind (wpAny_holding (wpAny_eqBool_tuple hu (R.tup p pm) hx ?_))
        refine wpAny_bind (wpAny_setState_of ho hd R.fits ?_)
        dsimp only
        by_cases e : p.2 = k
        · exact wp_if_pos (by simp [e]) (wpAny_pure (hin (List.mem_map.mpr ⟨p, pm, e⟩)))
        · refine wp_if_neg (by simp [e]) ?_
          try refine wpAny_bind (wpAny_pure ?_)
          rw [same_block]
          dsimp only
          simp only [if_true, slot, R.entry hp]
          refine wpAny_bind (wpAny_isSame_ref_self (wpAny_bind (wpAny_pure ?_)))
          simp only [if_true]
          refine wp_if_neg (by simp [e]) ?_
          have go := look_on R hx hu (K := K) (by exact hKf) (by rw [hg]; exact no) (by rw [hg]; exact all) (Q := Q) hin (by rw [hg]; exact hout) f (c + (q + 1)) (some (nth t.mask (beg t.mask g) (c + (q + 1)))) (by rw [hg]; rfl) (by omega) (by omega) (fun i0 p0 h0 e0 => by
            obtain ⟨q', a1, a2, a3⟩ := left i0 p0 h0 e0
            rw [hg]
            refine ⟨q', ?_, a2, a3⟩
            by_cases y : q' < c + q
            · exfalso
              refine before (q' - c) i0 (by omega) (by rw [onj, show c + (q' - c) = q' by omega]; exact a3) ?_
              show ((es[i0]?.map (·.1)).getD 0) = g
              rw [hashAt i0 p0 h0, e0, hg]
            · by_cases z : q' = c + q
              · exfalso
                rw [z] at a3
                have s0 := slot_live R.tab.up a3
                rw [slot] at s0
                injection s0 with s0
                rw [← s0, hp] at h0
                exact e ((congrArg Prod.snd (Option.some.inj h0)).trans e0)
              · omega)
          rw [hg] at go
          exact go
      by_cases hl : t.led = true
      · refine wp_if_neg (by simp [hl]) ?_
        try refine wpAny_bind (wpAny_pure ?_)
        exact rest
      · refine wp_if_pos (by simp [hl]) ?_
        refine wpAny_bind (unseen hx (fun y hy => ?_) ?_)
        · obtain ⟨en, he, rfl⟩ := List.mem_map.mp hy
          have he2 : en ∈ es ∧ en.1 = g := by simpa using he
          have he3 : en ∈ es.toList := by simpa using he2.1
          rw [R.rows] at he3
          obtain ⟨p2, hp2, rfl⟩ := List.mem_map.mp he3
          exact ⟨p2.2, p2.1, rfl, R.tup p2 hp2⟩
        · refine wp_if_neg (by decide) ?_
          try refine wpAny_bind (wpAny_pure ?_)
          exact rest
    · have pr' : t.probe (fun i => (es[i]?.map (·.1)).getD 0) g (stand.getD (t.probeStart g)) = some (.empty (way t.mask g K) none) := by
        have e2 : way t.mask g K = (nth t.mask (nth t.mask (beg t.mask g) c) (K - c)).j := by rw [onj, cK]
        rw [hst, e2]
        exact pr
      rw [pr']
      dsimp only
      refine wpAny_pure (hout fun hm => ?_)
      obtain ⟨p0, h0, e0⟩ := List.mem_map.mp hm
      obtain ⟨i0, hi0, rfl⟩ := List.getElem_of_mem h0
      have h00 : L[i0]? = some L[i0] := List.getElem?_eq_getElem hi0
      obtain ⟨q', a1, a2, a3⟩ := left i0 _ h00 e0
      refine before (q' - c) i0 (by omega) (by rw [onj, show c + (q' - c) = q' by omega]; exact a3) ?_
      show ((es[i0]?.map (·.1)).getD 0) = g
      rw [hashAt i0 _ h00, e0, hg]
/-- a search for adding -/
theorem look_for (R : SetS P w s.heap a L es ep t) {x : Addr} {k : List Str} (hx : IsS P w s.heap k x) (hu : A.units < cLine) {Q : SetFound → Shared → Prop}
    (hin : k ∈ L.map (·.2) → Q (.there none) s)
    (hout : ∀ K, k ∉ L.map (·.2) → way t.mask (hT P w k) K ∉ t.place.toList → (∀ c, c < K → way t.mask (hT P w k) c ∈ t.place.toList) → Q (.free (way t.mask (hT P w k) K) false) s) :
    wpAny (model P w) A (setSearch a (.ref x) (hT P w k) true) Q E s := by
  have room := R.room
  obtain ⟨K, hKf, no, all⟩ := R.tab.gap (by rw [List.length_map]; omega) (hT P w k)
  have big : K < 100000 := by
    have : 10 * SetTable.turns t.mask ≤ 10000 := by
      unfold SetTable.turns
      rcases R.small with e | e | e | e <;> omega
    omega
  unfold setSearch
  refine look_on R hx hu hKf no all hin (fun hn => hout K hn no all) 100000 0 none rfl (Nat.zero_le _) (by omega) fun i p hp hk => ?_
  have hi : (L.map fun p => hT P w p.2)[i]? = some (hT P w k) := by rw [List.getElem?_map, hp, ← hk]; rfl
  have il : i < t.place.toList.length := by
    have h1 := (List.getElem?_eq_some_iff.mp hp).1
    have h2 := R.tab.many
    rw [List.length_map] at h2
    rw [Array.length_toList]
    omega
  have hj := List.getElem?_eq_getElem il
  obtain ⟨c, hc, e⟩ := R.tab.seen no hi hj
  exact ⟨c, Nat.zero_le _, hc, by rw [hj, e]⟩
end
end HF

/-! HF: a set of tuples of texts: adding. -/
namespace HF
open PySem PySem.Spec PyProof.Rows L2
theorem up_5 : SetTable.sizeAbove (SetTable.grown 5) = 32 := by decide +kernel
theorem up_19 : SetTable.sizeAbove (SetTable.grown 19) = 128 := by decide +kernel
theorem up_77 : SetTable.sizeAbove (SetTable.grown 77) = 512 := by decide +kernel
section
variable {P : Program} {w : World} {A : Around} {E : Value → Shared → Prop} {s : Shared} {a : Addr} {L : List Kt} {es : Array (Int × Value)} {ep : Nat} {t : SetTable}
theorem IsS.but {h h' : Heap} {k : List Str} {b : Addr} {o : Obj} (hb : IsS P w h k b) (ho : h.get? a = some o) (hd : o.data = .set es ep t) (hs : Heap.SameBut a h h') : IsS P w h' k b := by
  obtain ⟨o', items, n, e, hc, hd', hi⟩ := hb
  have ne : b ≠ a := fun z => by
    rw [z, ho] at e
    cases e
    rw [hd] at hd'
    cases hd'
  exact ⟨o', items, n, (hs.2 b ne).trans e, hc, hd', hi⟩
theorem IsS.keep {h h' : Heap} {k : List Str} {b : Addr} (hb : IsS P w h k b) (hk : ∀ c o, h.get? c = some o → h'.get? c = some o) : IsS P w h' k b := by
  obtain ⟨o, items, n, e, r⟩ := hb
  exact ⟨o, items, n, hk b o e, r⟩
/-- the rows in another order -/
theorem rowS_order (hr : es.toList = rowS P w L) {order : Array Nat} (hp : order.toList.Perm (List.range L.length)) :
    ∃ L2 : List Kt, (order.filterMap (es[·]?)).toList = rowS P w L2 ∧ L2.Perm L ∧ (L2.map fun p => hT P w p.2) = order.toList.map fun i => (es.map (·.1)).getD i 0 := by
  have ent : ∀ (i : Nat) (h : i < L.length), es[i]? = some (hT P w (L[i]).2, Value.ref (L[i]).1) := fun i h => by
    rw [← Array.getElem?_toList, hr]
    unfold rowS
    rw [List.getElem?_map, List.getElem?_eq_getElem h]; rfl
  have go : ∀ l : List Nat, (∀ i ∈ l, i < L.length) → l.filterMap (fun i => es[i]?) = rowS P w (l.filterMap fun i => L[i]?) ∧ ((l.filterMap fun i => L[i]?).map fun p => hT P w p.2) = l.map fun i => (es.map (·.1)).getD i 0 := by
    intro l
    induction l with
    | nil => exact fun _ => ⟨rfl, rfl⟩
    | cons i l ih =>
      intro hl
      have hi := hl i List.mem_cons_self
      obtain ⟨e1, e2⟩ := ih fun j hj => hl j (List.mem_cons_of_mem _ hj)
      rw [List.filterMap_cons_some (ent i hi), List.filterMap_cons_some (List.getElem?_eq_getElem hi), e1]
      refine ⟨rfl, ?_⟩
      rw [List.map_cons, List.map_cons, e2]
      congr 1
      rw [Array.getD_eq_getD_getElem?, Array.getElem?_map, ent i hi]
      rfl
  obtain ⟨e1, e2⟩ := go order.toList fun i hi => List.mem_range.mp (hp.mem_iff.mp hi)
  refine ⟨_, by simpa using e1, ?_, e2⟩
  have whole : (List.range L.length).filterMap (fun i => L[i]?) = L := by
    have part : ∀ n, n ≤ L.length → (List.range n).filterMap (fun i => L[i]?) = L.take n := by
      intro n
      induction n with
      | zero => exact fun _ => rfl
      | succ n ih =>
        intro hn
        rw [List.range_succ, List.filterMap_append, ih (Nat.le_of_lt hn), List.take_succ, List.getElem?_eq_getElem hn, List.filterMap_cons_some (List.getElem?_eq_getElem hn)]
        rfl
    rw [part _ (Nat.le_refl _), List.take_length]
  have := hp.filterMap (fun i => L[i]?)
  rwa [whole] at this
/-- all laid anew in a greater table -/
theorem grow_at {o : Obj} (ho : s.heap.get? a = some o) (hex : o.ExactSet) (hd : o.data = .set es ep t) (hr : es.toList = rowS P w L) (hsz : t.place.size = es.size) (hdm : t.dummies = #[]) (hfl : es.size ≤ t.mask)
    (nd : (L.map (·.2)).Nodup) (tup : ∀ p ∈ L, IsS P w s.heap p.2 p.1) (ld : w.params.followText "set-order" = true ∨ t.led = true) {wanted m : Nat} (hw : SetTable.sizeAbove wanted - 1 = m) (M : Mk5 m)
    (sm : m = 7 ∨ m = 31 ∨ m = 127 ∨ m = 511) (hw2 : SetTable.sizeAbove wanted ≤ 1024) (hn : L.length * 5 < m * 3) {Q : Unit → Shared → Prop}
    (hQ : ∀ h' L' es' ep' t', Heap.SameBut a s.heap h' → SetS P w h' a L' es' ep' t' → L'.Perm L → Q () { s with heap := h' }) : wpAny (model P w) A (setRelay a wanted) Q E s := by
  have hsl : es.size = L.length := by
    have h := congrArg List.length hr
    unfold rowS at h
    rwa [Array.length_toList, List.length_map] at h
  have fit : t.fits es.size = true := by
    unfold SetTable.fits SetTable.fill
    rw [hdm, Bool.and_eq_true, beq_iff_eq, decide_eq_true_eq]
    show t.place.size = es.size ∧ t.place.size + 0 ≤ t.mask
    omega
  obtain ⟨t', order, e, hp, T, em, el, _, ed⟩ := relay_ok t (hs := es.map (·.1)) (wanted := wanted) hw M (by rw [Array.size_map, hsl]; omega)
  rw [Array.size_map, hsl] at hp
  obtain ⟨L2, r1, r2, r3⟩ := rowS_order hr hp
  rw [← r3] at T
  have sz2 : (order.filterMap (es[·]?)).size = es.size := by
    have h := congrArg List.length r1
    unfold rowS at h
    rw [Array.length_toList, List.length_map, r2.length_eq] at h
    rw [h, hsl]
  have big : L.length ≤ 1000 := by rcases sm with q | q | q | q <;> omega
  rw [setRelay_eq]
  refine wpAny_bind (wpAny_setState_of ho hd fit ?_)
  dsimp only
  refine wp_if_neg (by rw [sizeLine_eq]; omega) ?_
  try refine wpAny_bind (wpAny_pure ?_)
  rw [e]
  dsimp only
  refine wpAny_bind ?_
  refine wp_if_neg (by rw [sz2]; simp) ?_
  try refine wpAny_bind (wpAny_pure ?_)
  refine wpAny_pure ?_
  dsimp only
  refine wpAny_storeSet_of ho hd ?_ (by rw [sz2, hsl, sizeLine_eq]; omega)
  have sb : Heap.SameBut a s.heap (s.heap.update a (Obj.putSet (order.filterMap (es[·]?)) t')) := Heap.SameBut.update ..
  refine hQ _ L2 _ (ep + 1) t' sb ⟨⟨_, store_at ho hd, ⟨hex.1, hex.2.1, hex.2.2⟩, rfl⟩, r1, T, (r2.map (·.2)).nodup_iff.mpr nd, fun p hpm => (tup p (r2.mem_iff.mp hpm)).but ho hd sb, by rw [el]; exact ld, by rw [r2.length_eq, em]; exact hn, by rw [em]; exact sm⟩ r2
/-- one more, if it is new -/
theorem add_one (R : SetS P w s.heap a L es ep t) {x : Addr} {k : List Str} (hx : IsS P w s.heap k x) (hu : A.units < cLine) (few : L.length < 300) {Q : Bool → Shared → Prop}
    (hQ : ∀ b h' L' es' ep' t', Heap.SameBut a s.heap h' → SetS P w h' a L' es' ep' t' → (k ∈ L.map (·.2) → L' = L) → (k ∉ L.map (·.2) → L'.Perm ((x, k) :: L)) → Q b { s with heap := h' }) :
    wpAny (model P w) A (setAddHashed a (.ref x) (hT P w k)) Q E s := by
  obtain ⟨o, ho, hex, hd⟩ := R.ob
  have hsl := R.size
  have room := R.room
  unfold setAddHashed
  refine wpAny_holding ?_
  rw [show (100000 : Nat) = 99999 + 1 from rfl, setAddHashedIn_succ]
  refine wpAny_bind (wpAny_setState_of ho hd R.fits ?_)
  dsimp only
  refine wp_if_neg (by simp [byScan, Value.scannable]) ?_
  try refine wpAny_bind (wpAny_pure ?_)
  refine wpAny_bind (look_for R hx hu (fun hm => ?_) fun K hm no all => ?_)
  · dsimp only
    exact wpAny_pure (hQ false s.heap L es ep t (Heap.SameBut.refl a s.heap) R (fun _ => rfl) fun z => absurd hm z)
  · dsimp only
    refine wpAny_bind (wpAny_setState_of ho hd R.fits ?_)
    dsimp only
    obtain ⟨p, hp, q1, q2, T1, q9⟩ := R.tab.add no all
    have q4 : (t.put (way t.mask (hT P w k) K)).1.mask = t.mask := rfl
    have q5 : (t.put (way t.mask (hT P w k) K)).1.led = t.led := rfl
    generalize hpt : t.put (way t.mask (hT P w k) K) = pt at q1 T1 q4 q5 q9 ⊢
    obtain ⟨t1, p1⟩ := pt
    dsimp only at q1 T1 q4 q5 q9 ⊢
    subst q1
    have pm := L2.put_perm L p1 (x, k)
    have len : (L.take p1 ++ (x, k) :: L.drop p1).length = L.length + 1 := pm.length_eq
    have hh : (L.take p1 ++ (x, k) :: L.drop p1).map (fun p => hT P w p.2) = (L.map fun p => hT P w p.2).take p1 ++ hT P w k :: (L.map fun p => hT P w p.2).drop p1 := by
      rw [List.map_append, List.map_cons, List.map_take, List.map_drop]
    rw [← hh] at T1
    have hin : (SetTable.insertAt es p1 (hT P w k, Value.ref x)).toList = rowS P w (L.take p1 ++ (x, k) :: L.drop p1) := by
      rw [SetTable.toList_insertAt, R.rows]
      unfold rowS
      rw [List.map_append, List.map_cons, List.map_take, List.map_drop]
    have nd1 : ((L.take p1 ++ (x, k) :: L.drop p1).map (·.2)).Nodup := by
      refine (pm.map (·.2)).nodup_iff.mpr ?_
      rw [List.map_cons]
      exact List.nodup_cons.mpr ⟨hm, R.nd⟩
    have hes : (SetTable.insertAt es p1 (hT P w k, Value.ref x)).size = L.length + 1 := by
      have h := congrArg List.length hin
      unfold rowS at h
      rwa [Array.length_toList, List.length_map, len] at h
    generalize SetTable.insertAt es p1 (hT P w k, Value.ref x) = es1 at hin hes ⊢
    generalize L.take p1 ++ (x, k) :: L.drop p1 = L1 at pm len T1 nd1 hin
    suffices after : ∀ q : Bool, wpAny (model P w) A (do
        storeSet a es1 (if q = true then t1 else { t1 with plain := false })
        if (!false && (if q = true then t1 else { t1 with plain := false }).tooFull) = true then do
          setRelay a (SetTable.grown (es.size + 1))
          pure true
        else pure true : Sem Bool) Q E s by
      by_cases pl : t1.plain = true
      · exact wp_if_pos pl (wpAny_bind (byVal hx fun q => after q))
      · exact wp_if_neg pl (wpAny_bind (wpAny_pure (after true)))
    intro q
    obtain ⟨t2, ht2⟩ : ∃ t2, t2 = if q = true then t1 else { t1 with plain := false } := ⟨_, rfl⟩
    rw [← ht2]
    have f1 : TabK t2 (L1.map fun p => hT P w p.2) := by
      cases q
      · subst ht2; exact ⟨T1.up, T1.none_, T1.many, T1.good, T1.low, T1.way_⟩
      · subst ht2; exact T1
    have f2 : t2.mask = t.mask := by cases q <;> subst ht2 <;> exact q4
    have f3 : t2.led = t.led := by cases q <;> subst ht2 <;> exact q5
    have f4 : t2.fill = L.length + 1 := by
      rw [List.length_map] at q9
      cases q <;> subst ht2 <;> exact q9
    clear ht2
    refine wpAny_bind (wpAny_storeSet_of ho hd ?_ (by rw [hes, sizeLine_eq]; omega))
    have sb : Heap.SameBut a s.heap (s.heap.update a (Obj.putSet es1 t2)) := Heap.SameBut.update ..
    have ho1 := store_at (es' := es1) (t' := t2) ho hd
    generalize s.heap.update a (Obj.putSet es1 t2) = h1 at sb ho1 ⊢
    have tup1 : ∀ p ∈ L1, IsS P w h1 p.2 p.1 := fun p hp => by
      rcases List.mem_cons.mp (pm.mem_iff.mp hp) with rfl | hp
      · exact hx.but ho hd sb
      · exact (R.tup p hp).but ho hd sb
    have ld1 : w.params.followText "set-order" = true ∨ t2.led = true := by rw [f3]; exact R.led
    by_cases hf : t2.tooFull = true
    · first
        | (refine wpAny_bind ?_; refine wp_if_pos (by simp [hf]) ?_)
        | (refine wp_if_pos (by simp [hf]) ?_; refine wpAny_bind ?_)
      have full : (L.length + 1) * 5 ≥ t.mask * 3 := by
        have h := hf
        unfold SetTable.tooFull at h
        rwa [decide_eq_true_eq, f4, f2] at h
      rw [hsl]
      have sz1 : t2.place.size = es1.size := by
        have h := f1.many
        rw [List.length_map, len] at h
        rw [h, hes]
      have ways : (t.mask = 7 ∧ L.length = 4) ∨ (t.mask = 31 ∧ L.length = 18) ∨ (t.mask = 127 ∧ L.length = 76) := by
        rcases R.small with e | e | e | e <;> rw [e] at full room
        · exact .inl ⟨e, by omega⟩
        · exact .inr (.inl ⟨e, by omega⟩)
        · exact .inr (.inr ⟨e, by omega⟩)
        · omega
      have go : ∀ m, SetTable.sizeAbove (SetTable.grown (L.length + 1)) - 1 = m → Mk5 m → (m = 7 ∨ m = 31 ∨ m = 127 ∨ m = 511) → SetTable.sizeAbove (SetTable.grown (L.length + 1)) ≤ 1024 → (L.length + 1) * 5 < m * 3 →
          wpAny (model P w) A (setRelay a (SetTable.grown (L.length + 1))) (fun _ s2 => wpAny (model P w) A (pure true) Q E s2) E { s with heap := h1 } := fun m g1 g2 g3 g4 g5 => by
        refine grow_at (s := { s with heap := h1 }) ho1 ⟨hex.1, hex.2.1, hex.2.2⟩ rfl hin sz1 f1.none_ (by rw [hes, f2]; rcases ways with ⟨e, e2⟩ | ⟨e, e2⟩ | ⟨e, e2⟩ <;> omega) nd1 tup1 ld1 g1 g2 g3 g4 (by rw [len]; exact g5) ?_
        intro h2 L2 es2 ep2 t3 sb2 R2 pm2
        exact wpAny_pure (hQ true h2 L2 es2 ep2 t3 (sb.trans sb2) R2 (fun z => absurd z hm) fun _ => pm2.trans pm)
      rcases ways with ⟨_, e⟩ | ⟨_, e⟩ | ⟨_, e⟩
      · exact go 31 (by rw [e, up_5]) mk5_31 (.inr (.inl rfl)) (by rw [e, up_5]; decide) (by omega)
      · exact go 127 (by rw [e, up_19]) mk5_127 (.inr (.inr (.inl rfl))) (by rw [e, up_19]; decide) (by omega)
      · exact go 511 (by rw [e, up_77]) mk5_511 (.inr (.inr (.inr rfl))) (by rw [e, up_77]; decide) (by omega)
    · first
        | refine wp_if_neg (by simp [hf]) ?_
        | (refine wpAny_bind ?_; refine wp_if_neg (by simp [hf]) ?_; refine wpAny_pure ?_)
      refine wpAny_pure (hQ true h1 L1 es1 (ep + 1) t2 sb ⟨⟨_, ho1, ⟨hex.1, hex.2.1, hex.2.2⟩, rfl⟩, hin, f1, nd1, tup1, ld1, ?_, by rw [f2]; exact R.small⟩ (fun z => absurd z hm) fun _ => pm)
      have h := hf
      unfold SetTable.tooFull at h
      rw [decide_eq_true_eq, f4] at h
      rw [len]
      omega
end
end HF

/-! HF: set(xs), xs a list of tuples of texts. -/
namespace HF
open PySem PySem.Spec PyProof.Rows L2
/-- what stands in the set behind i items -/
structure GotS (ks : List Kt) (i : Nat) (L : List Kt) : Prop where
  sub : ∀ p ∈ L, p ∈ ks.take i
  all : ∀ p ∈ ks.take i, p.2 ∈ L.map (·.2)
  len : L.length ≤ i
theorem take_succ_of {α : Type} {l : List α} {i : Nat} {x : α} (h : l[i]? = some x) : l.take (i + 1) = l.take i ++ [x] := by rw [List.take_succ, h]; rfl
theorem GotS.old {ks L : List Kt} {i : Nat} {x : Kt} (g : GotS ks i L) (h : ks[i]? = some x) (hm : x.2 ∈ L.map (·.2)) : GotS ks (i + 1) L := by
  have e := take_succ_of h
  refine ⟨fun p hp => by rw [e]; exact List.mem_append_left _ (g.sub p hp), fun p hp => ?_, Nat.le_succ_of_le g.len⟩
  rw [e] at hp
  rcases List.mem_append.mp hp with z | z
  · exact g.all p z
  · rw [List.mem_singleton.mp z]; exact hm
theorem GotS.new {ks L L' : List Kt} {i : Nat} {x : Kt} (g : GotS ks i L) (h : ks[i]? = some x) (pm : L'.Perm (x :: L)) : GotS ks (i + 1) L' := by
  have e := take_succ_of h
  refine ⟨fun p hp => ?_, fun p hp => ?_, by rw [pm.length_eq, List.length_cons]; exact Nat.succ_le_succ g.len⟩
  · rw [e]
    rcases List.mem_cons.mp (pm.mem_iff.mp hp) with rfl | z
    · exact List.mem_append_right _ (List.mem_singleton.mpr rfl)
    · exact List.mem_append_left _ (g.sub p z)
  · rw [e] at hp
    rw [(pm.map (·.2)).mem_iff, List.map_cons]
    rcases List.mem_append.mp hp with z | z
    · exact List.mem_cons_of_mem _ (g.all p z)
    · rw [List.mem_singleton.mp z]; exact List.mem_cons_self
section
variable {P : Program} {w : World} {A : Around} {E : Value → Shared → Prop} {s : Shared}
theorem SetS.keep {h h' : Heap} {a : Addr} {L : List Kt} {es : Array (Int × Value)} {ep : Nat} {t : SetTable} (R : SetS P w h a L es ep t) (ha : ∀ o, h.get? a = some o → h'.get? a = some o) (ht : ∀ p ∈ L, IsS P w h' p.2 p.1) : SetS P w h' a L es ep t := by
  obtain ⟨o, ho, r⟩ := R.ob
  exact ⟨⟨o, ha o ho, r⟩, R.rows, R.tab, R.nd, ht, R.led, R.room, R.small⟩
theorem setS_new {h : Heap} {a : Addr} (ho : h.get? a = some { cls := .type "set", dict := none, data := .set #[] 0 (.fresh 0 0 (!w.params.followText "set-order")) }) : SetS P w h a [] #[] 0 (.fresh 0 0 (!w.params.followText "set-order")) where
  ob := ⟨_, ho, ⟨rfl, rfl, rfl⟩, rfl⟩
  rows := rfl
  tab := ⟨List.Pairwise.nil, rfl, rfl, mk5_7, fun x hx => (by cases hx), fun i h j hi => (by simp at hi)⟩
  nd := List.nodup_nil
  tup := fun p hp => (by cases hp)
  led := by
    show _ ∨ (!w.params.followText "set-order") = true
    cases w.params.followText "set-order" <;> simp
  room := by
    show 0 * 5 < 7 * 3
    decide
  small := .inl rfl
/-- the loop of set.update -/
theorem fill_loop {I : Addr} {fp wr : List Addr} {G : Array GenState → Array GenState → Prop} {n : Nat} {Pv : Nat → Value → Prop} {St : Nat → Shared → Prop} {R : Result → Shared → Prop}
    (W : WalksS P w A.in1 I fp wr G n Pv St) (S : Addr) (out : S ∉ fp) (ks : List Kt) (hn : n = ks.length) (few : ks.length < 300) (hval : ∀ i v, Pv i v → ∃ p, ks[i]? = some p ∧ v = .ref p.1)
    (h0 : Heap) (hk : ∀ p ∈ ks, IsS P w h0 p.2 p.1) (hS0 : h0.get? S = none) (hw0 : ∀ b ∈ wr, h0.get? b = none) (hu : A.in1.units < cLine) :
    ∀ (k i : Nat) (s : Shared), n - i = k → i ≤ n → St i s → (∀ b o, h0.get? b = some o → s.heap.get? b = some o) → (∃ L es ep t, SetS P w s.heap S L es ep t ∧ GotS ks i L) →
      (∀ s' L es ep t, Moved (S :: wr) G s s' → SetS P w s'.heap S L es ep t → GotS ks n L → (∀ b o, h0.get? b = some o → s'.heap.get? b = some o) → R (.ok (.ret .none)) s') →
      codeAny (model P w) A (.builtin "set.update.loop" ⟨[.ref S, .ref I], []⟩) R s := by
  have out2 : S ∉ wr := fun h => out (W.sub _ h)
  have into : ∀ b ∈ wr, b ∈ S :: wr := fun b hb => List.mem_cons_of_mem _ hb
  have stay : ∀ {s s' : Shared}, Moved wr G s s' → (∀ b o, h0.get? b = some o → s.heap.get? b = some o) → ∀ b o, h0.get? b = some o → s'.heap.get? b = some o := fun mv old b o e =>
    mv.heap b o (fun hb => by rw [hw0 b hb] at e; cases e) (old b o e)
  intro k
  induction k with
  | zero =>
    intro i s hk' hi hst old ⟨L, es, ep, t, hS, g⟩ hR
    obtain rfl : i = n := by omega
    refine codeAny_builtin F.entry_set_update_loop ?_
    rw [Around.under_plainId F.plain_set_update_loop _]
    show wpAny _ A.in1 (pyNext (.ref I) >>= _) _ _ s
    refine wpAny_bind (W.done s _ _ hst fun s' mv => ?_)
    show wpAny _ A.in1 (PySem.ret Value.none) _ _ s'
    have old' := stay mv old
    exact wpAny_pure (hR s' L es ep t (mv.mono into) (hS.keep (fun o e => mv.heap S o out2 e) fun p hp => (hk p (List.mem_of_mem_take (g.sub p hp))).keep old') g old')
  | succ k ih =>
    intro i s hk' hi hst old ⟨L, es, ep, t, hS, g⟩ hR
    have lt : i < n := by omega
    refine codeAny_builtin F.entry_set_update_loop ?_
    rw [Around.under_plainId F.plain_set_update_loop _]
    show wpAny _ A.in1 (pyNext (.ref I) >>= _) _ _ s
    refine wpAny_bind (W.item i s _ _ lt hst fun v s' hP hst' mv => ?_)
    obtain ⟨p, hp, rfl⟩ := hval i v hP
    have old' := stay mv old
    have hS' : SetS P w s'.heap S L es ep t := hS.keep (fun o e => mv.heap S o out2 e) fun q hq => (hk q (List.mem_of_mem_take (g.sub q hq))).keep old'
    have hx : IsS P w s'.heap p.2 p.1 := (hk p (List.mem_of_getElem? hp)).keep old'
    show wpAny _ A.in1 (holding [Value.ref p.1] (setAdd S (.ref p.1)) >>= _) _ _ s'
    refine wpAny_bind (wpAny_holding ?_)
    unfold setAdd
    refine wpAny_holding ?_
    refine wpAny_bind (wpAny_pyHash_tuple hu hx ?_)
    refine add_one (s := { s' with toks := s'.toks + (p.2.length + 1) }) hS' hx hu (by have := g.len; omega) fun b h' L' es' ep' t' sb hS2 c1 c2 => ?_
    have g' : GotS ks (i + 1) L' := by
      by_cases c : p.2 ∈ L.map (·.2)
      · rw [c1 c]; exact g.old hp c
      · exact g.new hp (c2 c)
    have old2 : ∀ b o, h0.get? b = some o → h'.get? b = some o := fun b o e => (sb.2 b (fun z => by rw [z, hS0] at e; cases e)).trans (old' b o e)
    refine wpAny_pure ⟨plainId_quiet F.plain_set_update_loop _, ih (i + 1) _ (by omega) lt (W.frame _ s' _ _ hst' (Nat.le_add_right _ _) fun b hb o e => ?_) old2 ⟨L', es', ep', t', hS2, g'⟩ fun s'' L2 es2 ep2 t2 mv2 hS3 g2 old3 => ?_⟩
    · rw [sb.2 b fun h => out (by rw [← h]; exact hb)]; exact e
    · refine hR s'' L2 es2 ep2 t2 (Moved.trans W.gtrans ((mv.mono into).then_heap (Nat.le_add_right _ _) fun b o hb e => ?_) mv2) hS3 g2 old3
      rw [sb.2 b fun h => hb (by rw [h]; exact List.mem_cons_self)]; exact e
end
end HF

/-! HF: the call of set. -/
namespace HF
open PySem PySem.Spec PyProof.Rows L2
/-- an empty set as it is made -/
abbrev bare (w : World) : Obj := { cls := .type "set", dict := none, data := .set #[] 0 (.fresh 0 0 (!w.params.followText "set-order")) }
section
variable {P : Program} {w : World} {A : Around} {E : Value → Shared → Prop} {s : Shared}
set_option maxHeartbeats 3200000 in
/-- set(xs) -/
theorem set_call {l : Addr} {items : Array Value} (ks : List Kt) {Q : Value → Shared → Prop} (hh : A.handled = none) (hl : s.heap.IsList l items) (hit : items.toList = ks.map fun p => Value.ref p.1)
    (hk : ∀ p ∈ ks, IsS P w s.heap p.2 p.1) (few : ks.length < 300) (hu : A.units + 3 < cLine)
    (h : ∀ (h' : Heap) (tk : Nat) L es ep t, SetS P w h' s.heap.objs.size L es ep t → GotS ks ks.length L → (∀ b o, s.heap.get? b = some o → h'.get? b = some o) → Q (.ref s.heap.objs.size) { s with heap := h', toks := tk }) :
    wpAny (model P w) A (call (.type "set") [.ref l]) Q E s := by
  have isz : items.size = ks.length := by
    have q := congrArg List.length hit
    rwa [Array.length_toList, List.length_map] at q
  obtain ⟨c, tl, hmro⟩ := F.called_set.mro
  have hmade := F.called_set.made
  have hsub := F.called_set.sub
  have h1 := F.called_set.notType
  have h2 := F.called_set.canCreate
  have hct := F.typeCall_set_1 (.ref l)
  have hli := F.called_set.init.lookup
  have hbi := F.called_set.init.bind (.ref s.heap.objs.size)
  have pushed : (s.heap.push (bare w)).get? s.heap.objs.size = some (bare w) := Heap.get?_push_size _ rfl
  have hT : Shared.TypeIs { s with heap := s.heap.push (bare w) } (.ref s.heap.objs.size) "set" := ⟨_, pushed, rfl⟩
  refine wpAny_call (codeAny_of_tree ?_)
  show wpAny _ _ (callAny (.type "set") _) _ _ _
  refine wpAny_pure ⟨Code.quiet_builtin _ (by decide +kernel), codeAny_builtin F.entry_type_call ?_⟩
  rw [Around.under_plain (weight_type_call_type "set" [.ref l] []) rfl]
  repeat (any_goals (first | assumption | wp_step))

  refine codeAny_mono (code_set_led1 (.ref l) (E := E) (Q₁ := fun obj s₁ => obj = .ref s.heap.objs.size ∧ s₁ = { s with heap := s.heap.push (bare w) }) ⟨rfl, rfl⟩) fun r s₁ hr => ?_
  match r, hr with
  | .error e, hr => exact hr
  | .ok (.ret obj), hr =>
    obtain ⟨rfl, rfl⟩ := hr
    repeat (any_goals (first | assumption | wp_step))

    refine codeAny_mono (codeAny_call_builtin (R := wants (fun r s₂ => r = .none ∧ ∃ h' tk L es ep t, s₂ = { s with heap := h', toks := tk } ∧ SetS P w h' s.heap.objs.size L es ep t ∧ GotS ks ks.length L ∧
        (∀ b o, s.heap.get? b = some o → h'.get? b = some o)) E) F.called_set.init.plain F.entry_set_init (check_set_init_1 hT ?_)) fun r₂ s₂ hr₂ => ?_
    · obtain ⟨⟨lc, ldi, lda, lsl⟩, hol, hcl, nl, hdl⟩ := hl
      simp only at hcl hdl
      subst hcl; subst hdl
      have hol' : (s.heap.push (bare w)).get? l = some { cls := .type "list", dict := ldi, data := .seq items nl, slots := lsl } := Heap.get?_push_of_some _ hol
      have hsls := F.sub_list_set
      have hslf := F.sub_list_frozenset
      have hne : (Value.type "list" == Value.type "dict") = false := by decide
      have hl1 : (s.heap.push (bare w)).IsList l items := ⟨_, hol', rfl, nl, rfl⟩
      have lS : l < s.heap.objs.size := Heap.lt_size hol
      have hh3 : A.in1.in1.in1.handled = none := by simp [hh]
      have grown : (s.heap.push (bare w)).objs.size = s.heap.objs.size + 1 := Heap.size_push ..
      unfold Builtin.«set.__init__» noKeywords Builtin.Frozenset.updateFrom
      generalize hPI : pyIter = PI
      wp_walk
      subst hPI

      refine wpAny_pyIter_list hl1 (wpAny_bind (wpAny_runValue ?_))
      have lI : l ≠ (s.heap.push (bare w)).objs.size := by rw [grown]; exact Nat.ne_of_lt (Nat.lt_succ_of_lt lS)
      have outS : s.heap.objs.size ∉ [(s.heap.push (bare w)).objs.size, l] := by
        rw [grown]
        simp only [List.mem_cons, List.not_mem_nil, or_false, not_or]
        exact ⟨Nat.ne_of_lt (Nat.lt_succ_self _), Nat.ne_of_gt lS⟩
      have hval : ∀ (i : Nat) (v : Value), items[i]? = some v → ∃ p, ks[i]? = some p ∧ v = .ref p.1 := fun i v hv => by
        rw [← Array.getElem?_toList, hit, List.getElem?_map] at hv
        cases hq : ks[i]? with
        | none => rw [hq] at hv; cases hv
        | some p => rw [hq] at hv; cases hv; exact ⟨p, rfl, rfl⟩
      have unused : ∀ b, s.heap.objs.size ≤ b → s.heap.get? b = none := fun b hb => by
        cases q : s.heap.get? b with
        | none => rfl
        | some o => exact absurd (Heap.lt_size q) (Nat.not_lt_of_le hb)
      refine fill_loop ((Walks.list hh3 _ l lI items).toS) s.heap.objs.size outS ks isz few hval s.heap hk (unused _ (Nat.le_refl _)) (fun b hb => unused b (by
          rw [List.mem_singleton.mp hb, grown]; exact Nat.le_succ _)) hu (items.size - 0) 0 _ (by omega) (Nat.zero_le _)
        ⟨⟨_, Heap.get?_push_size _ rfl, rfl, rfl⟩, (hl1.push _)⟩ (fun b o e => Heap.get?_push_of_some _ (Heap.get?_push_of_some _ e)) ?start ?stop
      case start =>
        exact ⟨[], #[], 0, _, setS_new (Heap.get?_push_of_some _ pushed), fun p hp => (by cases hp), fun p hp => (by simp at hp), Nat.le_refl _⟩
      case stop =>
        intro s' L es ep t mv hS' g' old
        obtain ⟨h', g2, d', tk', os'⟩ := s'
        obtain rfl : g2 = s.gens := mv.gens
        obtain rfl : d' = s.drawn := mv.drawn
        obtain rfl : os' = s.os := mv.os
        rw [isz] at g'
        show wpAny _ _ _ _ _ _
        refine wpAny_pure ?_
        show wpAny _ _ (PySem.ret Value.none) _ _ _
        exact wpAny_pure ⟨rfl, h', tk', L, es, ep, t, rfl, hS', g', old⟩
    · match r₂, hr₂ with
      | .error e, hr₂ => exact hr₂
      | .ok (.ret r), hr₂ =>
        obtain ⟨rfl, h', tk, L, es, ep, t, rfl, hS', g', hk'⟩ := hr₂
        repeat (any_goals (first | assumption | wp_step))
        exact h _ _ _ _ _ _ hS' g' hk'
end
end HF

/-! HF: the order of flat tuples (of ints and texts), and how a list of such is sorted. -/
namespace HF
open PySem PySem.Spec PyProof.Rows L2
/-! ### the order -/
def ltF : Key → Key → Bool
  | .inl a, .inl b => decide (a < b)
  | .inr a, .inr b => decide (a.cps.toList < b.cps.toList)
  | .inl _, .inr _ => true
  | .inr _, .inl _ => false
def ltFs : List Key → List Key → Bool
  | [], [] => false
  | [], _ :: _ => true
  | _ :: _, [] => false
  | x :: xs, y :: ys => if x = y then ltFs xs ys else ltF x y
def sameK : Key → Key → Bool
  | .inl _, .inl _ => true
  | .inr _, .inr _ => true
  | _, _ => false
/-- may be compared: at each place of one kind -/
def cmpOk : List Key → List Key → Bool
  | x :: xs, y :: ys => sameK x y && cmpOk xs ys
  | _, _ => true
theorem str_ext {a b : Str} (h : a.cps.toList = b.cps.toList) : a = b := by
  cases a; cases b
  congr 1
  exact Array.toList_inj.mp h
theorem ltF_irrefl : ∀ x : Key, ltF x x = false
  | .inl a => by unfold ltF; exact decide_eq_false (Int.lt_irrefl a)
  | .inr a => by unfold ltF; exact decide_eq_false (List.lt_irrefl _)
theorem ltF_asym : ∀ {x y : Key}, ltF x y = true → ltF y x = false
  | .inl a, .inl b, h => by
    have h := of_decide_eq_true h
    exact decide_eq_false (by omega)
  | .inr a, .inr b, h => by
    have h := of_decide_eq_true h
    exact decide_eq_false (List.lt_asymm h)
  | .inl _, .inr _, _ => rfl
  | .inr _, .inl _, h => nomatch h
theorem ltF_trans : ∀ {x y z : Key}, ltF x y = true → ltF y z = true → ltF x z = true
  | .inl a, .inl b, .inl c, h, h' => by
    have h := of_decide_eq_true h
    have h' := of_decide_eq_true h'
    exact decide_eq_true (by omega)
  | .inr a, .inr b, .inr c, h, h' => by
    have h := of_decide_eq_true h
    have h' := of_decide_eq_true h'
    exact decide_eq_true (List.lt_trans h h')
  | .inl _, .inl _, .inr _, _, _ => rfl
  | .inl _, .inr _, .inr _, _, _ => rfl
  | .inl _, .inr _, .inl _, _, h => nomatch h
  | .inr _, .inl _, _, h, _ => nomatch h
  | .inr _, .inr _, .inl _, _, h => nomatch h
theorem ltF_total : ∀ {x y : Key}, x ≠ y → ltF x y = true ∨ ltF y x = true
  | .inl a, .inl b, h => by
    by_cases q : a < b
    · exact .inl (decide_eq_true q)
    · refine .inr (decide_eq_true ?_)
      have : a ≠ b := fun e => h (by rw [e])
      omega
  | .inr a, .inr b, h => by
    by_cases q : a.cps.toList < b.cps.toList
    · exact .inl (decide_eq_true q)
    · by_cases q' : b.cps.toList < a.cps.toList
      · exact .inr (decide_eq_true q')
      · exact absurd (congrArg Sum.inr (str_ext (List.le_antisymm (List.not_lt.mp q') (List.not_lt.mp q)))) h
  | .inl _, .inr _, _ => .inl rfl
  | .inr _, .inl _, _ => .inr rfl
theorem ltFs_irrefl : ∀ xs : List Key, ltFs xs xs = false
  | [] => rfl
  | x :: xs => by unfold ltFs; rw [if_pos rfl]; exact ltFs_irrefl xs
theorem ltFs_trans : ∀ {xs ys zs : List Key}, ltFs xs ys = true → ltFs ys zs = true → ltFs xs zs = true
  | [], [], _, h, _ => nomatch h
  | [], _ :: _, [], _, h => nomatch h
  | [], _ :: _, _ :: _, _, _ => rfl
  | _ :: _, [], _, h, _ => nomatch h
  | _ :: _, _ :: _, [], _, h => nomatch h
  | x :: xs, y :: ys, z :: zs, h, h' => by
    unfold ltFs at h h' ⊢
    by_cases e : x = y
    · subst e
      rw [if_pos rfl] at h
      by_cases e' : x = z
      · rw [if_pos e'] at h' ⊢
        exact ltFs_trans h h'
      · rw [if_neg e'] at h' ⊢
        exact h'
    · rw [if_neg e] at h
      by_cases e' : y = z
      · subst e'
        rw [if_neg e]
        exact h
      · rw [if_neg e'] at h'
        rw [if_neg (fun q => by subst q; have := ltF_asym h; rw [h'] at this; cases this)]
        exact ltF_trans h h'
theorem ltFs_asym {xs ys : List Key} (h : ltFs xs ys = true) : ltFs ys xs = false := by
  cases q : ltFs ys xs with
  | false => rfl
  | true =>
    have := ltFs_trans h q
    rw [ltFs_irrefl] at this; cases this
theorem ltFs_total : ∀ {xs ys : List Key}, xs ≠ ys → ltFs xs ys = true ∨ ltFs ys xs = true
  | [], [], h => absurd rfl h
  | [], _ :: _, _ => .inl rfl
  | _ :: _, [], _ => .inr rfl
  | x :: xs, y :: ys, h => by
    unfold ltFs
    by_cases e : x = y
    · subst e
      rw [if_pos rfl, if_pos rfl]
      exact ltFs_total fun q => h (by rw [q])
    · rw [if_neg e, if_neg fun q => e q.symm]
      exact ltF_total e
theorem swo_F : SrtO.Swo ltFs := ⟨fun x y h => ltFs_asym h, fun x y z h1 h2 => by
  cases q : ltFs z x with
  | false => rfl
  | true =>
    by_cases e : y = x
    · subst e; rw [h2] at q; cases q
    · have hxy : ltFs x y = true := (ltFs_total e).resolve_left (by rw [h1]; decide)
      have := ltFs_trans q hxy
      rw [h2] at this; cases this⟩
def leFs (x y : List Key) : Bool := !ltFs y x
theorem leFs_trans (a b c : List Key) (h : leFs a b = true) (h' : leFs b c = true) : leFs a c = true := by
  unfold leFs at *
  rw [Bool.not_eq_true'] at *
  exact swo_F.tr a b c h h'
theorem leFs_total (a b : List Key) : (leFs a b || leFs b a) = true := by
  unfold leFs
  cases q : ltFs b a with
  | false => rfl
  | true => rw [ltFs_asym q]; rfl
theorem leFs_anti {a b : List Key} (h : leFs a b = true) (h' : leFs b a = true) : a = b := by
  unfold leFs at *
  rw [Bool.not_eq_true'] at *
  by_cases e : a = b
  · exact e
  · rcases ltFs_total e with q | q
    · rw [h'] at q; cases q
    · rw [h] at q; cases q
/-- sorted rows -/
def sortR (xs : List (List Key)) : List (List Key) := xs.mergeSort leFs
theorem sortR_perm (xs : List (List Key)) : (sortR xs).Perm xs := List.mergeSort_perm ..
theorem sortR_sorted (xs : List (List Key)) : (sortR xs).Pairwise fun a b => leFs a b = true := List.pairwise_mergeSort leFs_trans leFs_total xs
theorem sortR_of {xs ys : List (List Key)} (p : ys.Perm xs) (h : ys.Pairwise fun a b => leFs a b = true) : ys = sortR xs :=
  List.Perm.eq_of_pairwise (le := fun a b => leFs a b = true) (fun a b _ _ => leFs_anti) h (sortR_sorted xs) (p.trans (sortR_perm xs).symm)
/-! ### at the machine -/
/-- v is a tuple of these -/
def IsFlat (h : Heap) (v : Value) (ks : List Key) : Prop := ∃ (a : Addr) (o : Obj) (its : Array Value) (n : Nat), v = .ref a ∧ h.get? a = some o ∧ o.cls = .type "tuple" ∧ o.data = .seq its n ∧ Vals (ks.map kV) its.toList
theorem IsFlat.keeps {h h' : Heap} {v : Value} {ks : List Key} (x : IsFlat h v ks) (k : ∀ b o, h.get? b = some o → o.cls = .type "tuple" → h'.get? b = some o) : IsFlat h' v ks := by
  obtain ⟨a, o, its, n, e, ho, hc, r⟩ := x
  exact ⟨a, o, its, n, e, k a o ho hc, hc, r⟩
theorem vals_inj : ∀ {ks js : List Key} {us : List Value}, Vals (ks.map kV) us → Vals (js.map kV) us → ks = js
  | [], [], _, _, _ => rfl
  | [], _ :: _, _, .nil, h => nomatch h
  | _ :: _, [], _, h, .nil => nomatch h
  | k :: ks, j :: js, u :: us, .cons r h, .cons r' h' => by
    have e := vals_inj h h'
    subst e
    have : k = j := by
      cases k with
      | inl i =>
        obtain ⟨t, rfl⟩ := (show ∃ t, u = Value.int i t from r)
        cases j with
        | inl i' => obtain ⟨t', e⟩ := (show ∃ t, Value.int i _ = Value.int i' t from r'); cases e; rfl
        | inr x' => obtain ⟨t', e⟩ := (show ∃ t, Value.int i _ = Value.str x' t from r'); cases e
      | inr x =>
        obtain ⟨t, rfl⟩ := (show ∃ t, u = Value.str x t from r)
        cases j with
        | inl i' => obtain ⟨t', e⟩ := (show ∃ t, Value.str x _ = Value.int i' t from r'); cases e
        | inr x' => obtain ⟨t', e⟩ := (show ∃ t, Value.str x _ = Value.str x' t from r'); cases e; rfl
    rw [this]
theorem IsFlat.inj {h : Heap} {v : Value} {ks js : List Key} (x : IsFlat h v ks) (y : IsFlat h v js) : ks = js := by
  obtain ⟨a, o, its, n, e, ho, _, hd, r⟩ := x
  obtain ⟨a', o', its', n', e', ho', _, hd', r'⟩ := y
  rw [e] at e'; cases e'
  rw [ho] at ho'; cases ho'
  rw [hd] at hd'; cases hd'
  exact vals_inj r r'
section
open Classical
noncomputable def flatOf (h : Heap) (v : Value) : List Key := if p : ∃ ks, IsFlat h v ks then p.choose else []
theorem IsFlat.flatOf {h : Heap} {v : Value} {ks : List Key} (x : IsFlat h v ks) : HF.flatOf h v = ks := by
  unfold HF.flatOf
  rw [dif_pos ⟨ks, x⟩]
  exact (Exists.choose_spec (⟨ks, x⟩ : ∃ ks, IsFlat h v ks)).inj x
end
section
variable {prog : Program} {w : World} {A : Around} {E : Value → Shared → Prop} {s : Shared}
theorem key_one {k j : Key} {u v : Value} {b : Bool} {Q : Bool → Shared → Prop} (r : RelV (kV k) u) (r' : RelV (kV j) v) (sm : sameK k j = true) (h : Q (ltF k j) s) : wpAny (model prog w) A (oneLt' b u v) Q E s := by
  cases k with
  | inl i =>
    obtain ⟨t, rfl⟩ := (show ∃ t, u = Value.int i t from r)
    cases j with
    | inl i' =>
      obtain ⟨t', rfl⟩ := (show ∃ t, v = Value.int i' t from r')
      cases b with
      | true => exact oneLt_int h
      | false => exact PySem.W.kat_one _ _ (PyProof.Rows.lt_int h)
    | inr x' => cases sm
  | inr x =>
    obtain ⟨t, rfl⟩ := (show ∃ t, u = Value.str x t from r)
    cases j with
    | inl i' => cases sm
    | inr x' =>
      obtain ⟨t', rfl⟩ := (show ∃ t, v = Value.str x' t from r')
      cases b with
      | true => exact oneLt_str h
      | false => exact PySem.W.kat_one _ _ (PyProof.Rows.lt_str h)
theorem key_eq {k j : Key} {u v : Value} {Q : Bool → Shared → Prop} (r : RelV (kV k) u) (r' : RelV (kV j) v) (h : Q (decide (k = j)) s) (sm : sameK k j = true) : wpAny (model prog w) A (eqBool u v) Q E s := by
  cases k with
  | inl i =>
    obtain ⟨t, rfl⟩ := (show ∃ t, u = Value.int i t from r)
    cases j with
    | inl i' =>
      obtain ⟨t', rfl⟩ := (show ∃ t, v = Value.int i' t from r')
      refine SeqAt.EqAt.int_int i t i' t' prog w _ _ ?_
      have e : (i == i') = decide ((Sum.inl i : Key) = Sum.inl i') := by
        by_cases q : i = i'
        · subst q; simp
        · simp [q]
      rw [e]; exact h
    | inr x' => cases sm
  | inr x =>
    obtain ⟨t, rfl⟩ := (show ∃ t, u = Value.str x t from r)
    cases j with
    | inl i' => cases sm
    | inr x' =>
      obtain ⟨t', rfl⟩ := (show ∃ t, v = Value.str x' t from r')
      refine SeqAt.EqAt.str_str x t x' t' prog w _ _ ?_
      have e : (x == x') = decide ((Sum.inr x : Key) = Sum.inr x') := by
        by_cases q : x = x'
        · subst q; simp
        · simp [q]
      rw [e]; exact h
theorem flat_lex {b : Bool} {Q : Bool → Shared → Prop} : ∀ {ks js : List Key} {us vs : List Value} {i : Nat} {fin : Bool}, Vals (ks.map kV) us → Vals (js.map kV) vs → cmpOk ks js = true → ∀ m n : Nat, fin = decide (m + ks.length < n + js.length) → m = n → Q (ltFs ks js) s → PySem.W.KatLex prog w A b fin Q (us.zip vs) i s
  | [], [], _, _, i, fin, .nil, .nil, _, m, n, ef, e, h => by
    refine PySem.W.kat_nil ?_
    subst e
    rw [ef, decide_eq_false (by simp)]
    exact h
  | [], _ :: _, _, _, i, fin, .nil, .cons _ _, _, m, n, ef, e, h => by
    refine PySem.W.kat_nil ?_
    subst e
    rw [ef, decide_eq_true (by simp)]
    exact h
  | _ :: _, [], _, _, i, fin, .cons _ _, .nil, _, m, n, ef, e, h => by
    refine PySem.W.kat_nil ?_
    subst e
    rw [ef, decide_eq_false (by simp)]
    exact h
  | k :: ks, j :: js, u :: us, v :: vs, i, fin, .cons r rs, .cons r' rs', c, m, n, ef, e, h => by
    unfold cmpOk at c
    rw [Bool.and_eq_true] at c
    refine PySem.W.kat_cons (key_eq r r' ?_ c.1)
    unfold ltFs at h
    refine PySem.W.kat_go (fun q => PySem.W.kat_yes ?_) (fun q => PySem.W.kat_no ?_)
    · rw [if_pos (of_decide_eq_true q)] at h
      exact flat_lex rs rs' c.2 (m + 1) (n + 1) (by rw [ef]; congr 1; simp only [List.length_cons]; rw [eq_iff_iff]; omega) (by rw [e]) h
    · rw [if_neg (of_decide_eq_false q)] at h
      exact key_one r r' c.1 h
/-- any two may be compared; none is bare -/
def CmpAll (kss : List (List Key)) : Prop := (∀ x ∈ kss, x ≠ []) ∧ ∀ x ∈ kss, ∀ y ∈ kss, cmpOk x y = true
theorem flat_cmp {vs : List Value} {k : Value → List Key} (hp : ∀ v ∈ vs, IsFlat s.heap v (k v)) (hc : CmpAll (vs.map k)) : SrtO.Cmp prog w A s (tuples' true) (fun p => p.1 ∈ vs) (SrtO.lt2 fun v u => ltFs (k v) (k u)) := by
  intro p q hm hm'
  obtain ⟨a, o, its, n, e, ho, hcl, hd, r⟩ := hp _ hm
  obtain ⟨a', o', its', n', e', ho', hcl', hd', r'⟩ := hp _ hm'
  show wpAny (model prog w) A (keyLt' (tuples' true) p.1 q.1) (fun r s' => s' = s ∧ r = ltFs (k p.1) (k q.1)) (fun _ _ => False) s
  have c := hc.2 _ (List.mem_map.mpr ⟨_, hm, rfl⟩) _ (List.mem_map.mpr ⟨_, hm', rfl⟩)
  generalize k p.1 = K1 at r c ⊢
  generalize k q.1 = K2 at r' c ⊢
  rw [e, e']
  refine PySem.W.kat_lt ho hd ho' hd' ?_
  refine flat_lex (ks := K1) (js := K2) r r' c 0 0 ?_ rfl ⟨rfl, rfl⟩
  have l1 := r.length
  have l2 := r'.length
  have e1 : K1.length = its.size := by simpa using l1
  have e2 : K2.length = its'.size := by simpa using l2
  rw [Nat.zero_add, Nat.zero_add, e1, e2]
def tyK : Key → String
  | .inl _ => "int"
  | .inr _ => "str"
theorem flats_firsts : ∀ {vs : List Value} {k : Value → List Key} {h : Heap}, (∀ v ∈ vs, IsFlat h v (k v)) → (∀ v ∈ vs, k v ≠ []) → ∃ fs : List Value, PySem.W.KatTups h vs fs ∧ fs.length = vs.length ∧ ∀ f ∈ fs, ∃ v ∈ vs, ∃ x r, k v = x :: r ∧ RelV (kV x) f
  | [], _, _, _, _ => ⟨[], .nil, rfl, fun _ z => nomatch z⟩
  | v :: vs, k, h, hp, hn => by
    obtain ⟨fs, h1, h2, h3⟩ := flats_firsts (fun u hu => hp u (List.mem_cons_of_mem _ hu)) fun u hu => hn u (List.mem_cons_of_mem _ hu)
    obtain ⟨a, o, its, n, e, ho, hc, hd, r⟩ := hp v List.mem_cons_self
    cases hk : k v with
    | nil => exact absurd hk (hn v List.mem_cons_self)
    | cons x ks =>
      rw [hk] at r
      obtain ⟨us⟩ := its
      cases us with
      | nil => cases r
      | cons u us =>
        cases r with
        | cons rx rs =>
          subst e
          refine ⟨u :: fs, .cons ho hc hd (by simp) h1, by rw [List.length_cons, List.length_cons, h2], fun f hf => ?_⟩
          rcases List.mem_cons.mp hf with q | hf
          · subst q
            exact ⟨_, List.mem_cons_self, x, ks, hk, rx⟩
          · obtain ⟨y, hy, z⟩ := h3 f hf
            exact ⟨y, List.mem_cons_of_mem _ hy, z⟩
theorem flat_sortable {a : Addr} {vs : List Value} {k : Value → List Key} (h0 : 0 < vs.length) (hp : ∀ v ∈ vs, IsFlat s.heap v (k v)) (hcm : CmpAll (vs.map k)) (ha : ∀ o, s.heap.get? a = some o → o.cls ≠ .type "tuple") : SrtO.SortableO prog w A s a vs fun v u => ltFs (k v) (k u) := by
  intro h' keep
  have hp' : ∀ v ∈ vs, IsFlat h' v (k v) := fun v hm => (hp v hm).keeps fun b o e c => keep b o (fun z => by subst z; exact ha o e c) e
  obtain ⟨fs, h1, h2, h3⟩ := flats_firsts hp' fun v hv => hcm.1 _ (List.mem_map.mpr ⟨v, hv, rfl⟩)
  obtain ⟨v0, hv0⟩ : ∃ v0, v0 ∈ vs := List.exists_mem_of_length_pos h0
  obtain ⟨x0, r0, hk0⟩ : ∃ x r, k v0 = x :: r := by
    cases q : k v0 with
    | nil => exact absurd q (hcm.1 _ (List.mem_map.mpr ⟨v0, hv0, rfl⟩))
    | cons x r => exact ⟨x, r, rfl⟩
  refine ⟨tuples' true, fun Q E hq => ?_, flat_cmp hp' hcm⟩
  refine PySem.W.kat_kind (T := .type (tyK x0)) h1 (by omega) (fun f hm => ?_) (by cases x0 <;> rfl) ?_
  · obtain ⟨v, hv, x, r, hk, rx⟩ := h3 f hm
    have c := hcm.2 _ (List.mem_map.mpr ⟨v0, hv0, rfl⟩) _ (List.mem_map.mpr ⟨v, hv, rfl⟩)
    rw [hk0, hk] at c
    unfold cmpOk at c
    rw [Bool.and_eq_true] at c
    cases x0 with
    | inl i0 =>
      cases x with
      | inl i => obtain ⟨t, rfl⟩ := (show ∃ t, f = Value.int i t from rx); exact PySem.W.Looks.now
      | inr y => cases c.1
    | inr y0 =>
      cases x with
      | inl i => cases c.1
      | inr y => obtain ⟨t, rfl⟩ := (show ∃ t, f = Value.str y t from rx); exact PySem.W.Looks.now
  · have e : (Value.type (tyK x0) != Value.type "tuple") = true := by cases x0 <;> first | decide +kernel | rfl | decide
    rw [e]
    exact hq
/-- sorted(l) of flat tuples -/
theorem sorted_flats {l : Addr} {vs : List Value} {k : Value → List Key} {Q : Value → Shared → Prop} (hl : s.heap.IsList l vs.toArray) (hz : vs.length ≤ sizeLine) (hp : ∀ v ∈ vs, IsFlat s.heap v (k v)) (hcm : CmpAll (vs.map k))
    (h : ∀ (h' : Heap) (d : Addr) (out : List Value), out.Perm vs → out.map k = sortR (vs.map k) → (∀ b o, s.heap.get? b = some o → h'.get? b = some o) → s.heap.objs.size ≤ d → (∃ n, h'.get? d = some (seqObj "list" out.toArray n)) → Q (.ref d) { s with heap := h' }) :
    wpAny (model prog w) A (call (.builtin "sorted") [.ref l]) Q E s := by
  refine SrtO.sorted_ord (ltv := fun v u => ltFs (k v) (k u)) ⟨fun x y => swo_F.asym _ _, fun x y z => swo_F.tr _ _ _⟩ hl hz (fun h2 h₁ a ha kk => ?_) fun out hs hb => ?_
  · refine flat_sortable (s := { s with heap := h₁ }) (by omega) (fun v hm => (hp v hm).keeps fun b o e _ => (kk b o e).2) hcm fun o e => ?_
    have e' : some o = some (seqObj "list" vs.toArray 0) := e.symm.trans ha
    cases e'
    intro c
    exact absurd (Value.type.inj c) (by decide)
  · refine h _ _ out hb.perm (sortR_of (hb.perm.map k) ?_) (fun b o e => sortedAll_old e) (Nat.le_succ _) (sortedAll_at s.heap vs out.toArray)
    refine List.pairwise_map.mpr (hs.imp fun {x y} q => ?_)
    have q' : ltFs (k y) (k x) = false := q
    unfold leFs
    rw [q']; rfl
end
end HF

/-! HF: sorted(set(xs)), xs a list of tuples of texts. -/
namespace HF
open PySem PySem.Spec PyProof.Rows L2
theorem vals_items {P : Program} {w : World} : ∀ {k : List Str} {us : List Value}, Vals ((k.map Sum.inr).map kV) us → ItemsAre (strKind P w) k us
  | [], _, .nil => .nil
  | x :: k, _, .cons r t => by
    obtain ⟨tk, rfl⟩ := (show ∃ t, _ = Value.str x t from r)
    exact .cons (by first | exact strKind_is P w x tk | (unfold strKind; simp) | rfl) (vals_items t)
theorem items_vals {P : Program} {w : World} : ∀ {k : List Str} {us : List Value}, ItemsAre (strKind P w) k us → Vals ((k.map Sum.inr).map kV) us
  | [], _, .nil => .nil
  | x :: k, u :: us, .cons r t => by
    obtain ⟨tk, rfl⟩ := Value.isStrOf_shape (show Value.isStrOf x u = true from r)
    exact .cons ⟨tk, rfl⟩ (items_vals t)
theorem IsS.flat {P : Program} {w : World} {h : Heap} {k : List Str} {b : Addr} (x : IsS P w h k b) : IsFlat h (.ref b) (k.map Sum.inr) := by
  obtain ⟨o, items, n, ho, hc, hd, hi⟩ := x
  exact ⟨b, o, items, n, rfl, ho, hc, hd, items_vals hi⟩
theorem IsFlat.isS {P : Program} {w : World} {h : Heap} {k : List Str} {b : Addr} (x : IsFlat h (.ref b) (k.map Sum.inr)) : IsS P w h k b := by
  obtain ⟨a, o, items, n, e, ho, hc, hd, hi⟩ := x
  cases e
  exact ⟨o, items, n, ho, hc, hd, vals_items hi⟩
theorem cmpOk_strs : ∀ xs ys : List Str, cmpOk (xs.map Sum.inr) (ys.map Sum.inr) = true
  | [], _ => by cases ‹List Str› <;> rfl
  | _ :: _, [] => rfl
  | x :: xs, y :: ys => by
    show (true && cmpOk (xs.map Sum.inr) (ys.map Sum.inr)) = true
    rw [cmpOk_strs xs ys]; rfl
theorem nodup_map_of {α β : Type} {f : α → β} {l : List α} (h : (l.map f).Nodup) : l.Nodup := (List.pairwise_map.mp h).imp fun q e => q (by rw [e])
section
variable {P : Program} {w : World} {A : Around} {E : Value → Shared → Prop} {s : Shared}
theorem sorted_setS {a : Addr} {L : List Kt} {es : Array (Int × Value)} {ep : Nat} {t : SetTable} {Q : Value → Shared → Prop} (R : SetS P w s.heap a L es ep t) (hh : A.handled = none) (hne : ∀ p ∈ L, p.2 ≠ [])
    (hQ : ∀ s' p (out : Array Value) (c : Nat) (L' : List Kt), (∀ b o, s.heap.get? b = some o → s'.heap.get? b = some o) → s'.gens = s.gens → s'.os = s.os → s.heap.objs.size ≤ p →
      s'.heap.get? p = some (seqObj "list" out c) → out.toList = L'.map (fun q => Value.ref q.1) → L'.Perm L → L'.map (fun q => q.2.map Sum.inr) = sortR (L.map fun q => q.2.map Sum.inr) → Q (.ref p) s') :
    wpAny (model P w) A (call (.builtin "sorted") [.ref a]) Q E s := by
  obtain ⟨o, ho, hex, hd⟩ := R.ob
  have hsz := R.size
  have big : L.length < 400 := by
    have := R.room
    rcases R.small with q | q | q | q <;> omega
  refine Calls.call_function_entry kind_sorted plain_sorted entry_sorted (args_sorted1 _) ?_
  unfold Builtin.«sorted»
  refine wpAny_bind (m := checkCount "sorted" 1 1 _) (wpAny_pure ?_)
  refine wpAny_bind (collect_set (A := A.in1) hh ⟨o, ho, hex.1, hd⟩ R.fits (by unfold scanBound; omega) R.tab.up R.led fun s1 vs k1 hz g1 o1 pm => ?_)
  have hes : es.toList.map (·.2) = L.map fun q => Value.ref q.1 := by
    rw [R.rows]
    unfold rowS
    rw [List.map_map] <;> rfl
  rw [hes] at pm
  have ord : ∀ vs : List Value, (∀ v ∈ vs, ∃ q ∈ L, v = Value.ref q.1) → ∃ L1 : List Kt, vs = L1.map (fun q => Value.ref q.1) ∧ ∀ q ∈ L1, q ∈ L := by
    intro vs
    induction vs with
    | nil => intro _; exact ⟨[], rfl, fun q hq => (by cases hq)⟩
    | cons v vs ih =>
      intro hv
      obtain ⟨q, hq, e⟩ := hv v List.mem_cons_self
      obtain ⟨L1, e1, hs⟩ := ih fun u hu => hv u (List.mem_cons_of_mem _ hu)
      refine ⟨q :: L1, by rw [List.map_cons, e, e1], fun r hr => ?_⟩
      rcases List.mem_cons.mp hr with z | z
      · rw [z]; exact hq
      · exact hs r z
  have one : ∀ q ∈ L, ∀ r ∈ L, q.1 = r.1 → q = r := fun q hq r hr e => by
    have a1 := R.tup q hq
    have a2 := R.tup r hr
    rw [e] at a1
    exact Prod.ext e (a1.inj a2)
  have perm_of : ∀ L1 : List Kt, (∀ q ∈ L1, q ∈ L) → (L1.map (fun q => Value.ref q.1)).Perm (L.map fun q => Value.ref q.1) → L1.Perm L := by
    intro L1 hs pm1
    have nL : L.Nodup := nodup_map_of R.nd
    have nref : (L.map fun q => Value.ref q.1).Nodup := by
      refine List.pairwise_map.mpr (List.Pairwise.imp_of_mem (fun {q r} hq hr hne e => ?_) nL)
      injection e with e
      exact hne (one q hq r hr e)
    have n1 : L1.Nodup := nodup_map_of (pm1.nodup_iff.mpr nref)
    refine (List.perm_ext_iff_of_nodup n1 nL).mpr fun q => ⟨hs q, fun hq => ?_⟩
    have hm : Value.ref q.1 ∈ L1.map (fun q => Value.ref q.1) := pm1.mem_iff.mpr (List.mem_map.mpr ⟨q, hq, rfl⟩)
    obtain ⟨r, hr, e⟩ := List.mem_map.mp hm
    injection e with e
    rw [← one r (hs r hr) q hq e]
    exact hr
  have hvl : vs.length < 400 := by rw [pm.length_eq, List.length_map]; exact big
  refine wpAny_bind (wpAny_newList ?_ (by rw [sizeLine_eq]; omega))
  have hoL : (s1.heap.push (seqObj "list" vs.toArray 0)).get? s1.heap.objs.size = some (seqObj "list" vs.toArray 0) := Heap.get?_push_size _ rfl
  have fl : ∀ q ∈ L, IsFlat (s1.heap.push (seqObj "list" vs.toArray 0)) (.ref q.1) (q.2.map Sum.inr) := fun q hq => (R.tup q hq).flat.keeps fun b u e _ => Heap.get?_push_of_some _ (k1 b u e)
  let k : Value → List Key := flatOf (s1.heap.push (seqObj "list" vs.toArray 0))
  have hk : ∀ q ∈ L, k (.ref q.1) = q.2.map Sum.inr := fun q hq => (fl q hq).flatOf
  have mem : ∀ v ∈ vs, ∃ q ∈ L, v = Value.ref q.1 := fun v hv => by
    obtain ⟨q, hq, e⟩ := List.mem_map.mp (pm.mem_iff.mp hv)
    exact ⟨q, hq, e.symm⟩
  have hp : ∀ v ∈ vs, IsFlat (s1.heap.push (seqObj "list" vs.toArray 0)) v (k v) := fun v hv => by
    obtain ⟨q, hq, rfl⟩ := mem v hv
    rw [hk q hq]
    exact fl q hq
  have hcm : CmpAll (vs.map k) := by
    refine ⟨fun x hx => ?_, fun x hx y hy => ?_⟩
    · obtain ⟨v, hv, rfl⟩ := List.mem_map.mp hx
      obtain ⟨q, hq, rfl⟩ := mem v hv
      rw [hk q hq]
      intro e
      exact hne q hq (List.map_eq_nil_iff.mp e)
    · obtain ⟨v, hv, rfl⟩ := List.mem_map.mp hx
      obtain ⟨q, hq, rfl⟩ := mem v hv
      obtain ⟨u, hu, rfl⟩ := List.mem_map.mp hy
      obtain ⟨r, hr, rfl⟩ := mem u hu
      rw [hk q hq, hk r hr]
      exact cmpOk_strs _ _
  refine wpAny_bind (wpAny_holding (wpAny_call_entry slot_list_sort ⟨_, hoL, rfl⟩ entry_list_sort (SrtO.list_sort_ord (s := { s1 with heap := s1.heap.push (seqObj "list" vs.toArray 0) }) (ltv := fun v u => ltFs (k v) (k u)) ⟨fun x y => swo_F.asym _ _, fun x y z => swo_F.tr _ _ _⟩ hoL (by rw [sizeLine_eq]; omega)
    (fun h2 => flat_sortable (s := { s1 with heap := s1.heap.push (seqObj "list" vs.toArray 0) }) (by omega) hp hcm fun o e => by
      have e' : some o = some (seqObj "list" vs.toArray 0) := e.symm.trans hoL
      cases e'
      intro c
      exact absurd (Value.type.inj c) (by decide)) fun out a1 a2 => ⟨_, rfl, ?_⟩) (args_list_sort _)))
  obtain ⟨c, hc⟩ := sortedHeap_at (vs := vs) (out := out.toArray) hoL
  obtain ⟨L', e', hs'⟩ := ord out fun v hv => mem v (a2.perm.mem_iff.mp hv)
  have pL : L'.Perm L := perm_of L' hs' (by rw [← e']; exact a2.perm.trans pm)
  refine wpAny_pure ⟨_, rfl, hQ _ s1.heap.objs.size out.toArray c L' (fun b u e => ?_) g1 o1 hz hc (by simpa using e') pL ?_⟩
  · have q := k1 b u e
    have hlt := Heap.lt_size q
    show (sortedHeap (s1.heap.push (seqObj "list" vs.toArray 0)) s1.heap.objs.size vs out.toArray).get? b = some u
    rw [sortedHeap_old (Nat.ne_of_lt hlt) (by rw [size_push']; exact Nat.lt_succ_of_lt hlt)]
    exact Heap.get?_push_of_some _ q
  · refine sortR_of (pL.map _) ?_
    have e3 : L'.map (fun q => q.2.map Sum.inr) = out.map k := by
      rw [e', List.map_map]
      exact List.map_congr_left fun q hq => (hk q (hs' q hq)).symm
    rw [e3]
    refine List.pairwise_map.mpr (a1.imp fun {x y} q => ?_)
    have q' : ltFs (k y) (k x) = false := q
    unfold leFs
    rw [q']; rfl
end
/-! ### over the layer -/
structure SetS0 (P : Program) (w : World) (h : Heap) (a : Addr) (L : List Kt) : Prop where
  ex : ∃ (es : Array (Int × Value)) (ep : Nat) (t : SetTable), (∃ o, h.get? a = some o ∧ o.ExactSet ∧ o.data = .set es ep t) ∧ es.toList = rowS P w L ∧ TabK t (L.map fun p => hT P w p.2) ∧ (L.map (·.2)).Nodup ∧
    (w.params.followText "set-order" = true ∨ t.led = true) ∧ L.length * 5 < t.mask * 3 ∧ (t.mask = 7 ∨ t.mask = 31 ∨ t.mask = 127 ∨ t.mask = 511)
def SetSO (P : Program) (w : World) (a : Addr) (L : List Kt) : HO := .ext fun h => SetS0 P w h a L
theorem SetS.t0 {P : Program} {w : World} {h : Heap} {a : Addr} {L : List Kt} {es : Array (Int × Value)} {ep : Nat} {t : SetTable} (R : SetS P w h a L es ep t) : SetS0 P w h a L := ⟨es, ep, t, R.ob, R.rows, R.tab, R.nd, R.led, R.room, R.small⟩
theorem SetS0.full {P : Program} {w : World} {h : Heap} {a : Addr} {L : List Kt} (R : SetS0 P w h a L) (ht : ∀ p ∈ L, IsS P w h p.2 p.1) : ∃ es ep t, SetS P w h a L es ep t := by
  obtain ⟨es, ep, t, h1, h2, h3, h4, h5, h6, h7⟩ := R.ex
  exact ⟨es, ep, t, h1, h2, h3, h4, ht, h5, h6, h7⟩
theorem setSO_new {P : Program} {w : World} {H : Hp} {h : Heap} {a : Addr} {L : List Kt} (R : SetS0 P w h a L) : ObjOk P w H h a (SetSO P w a L) := by
  have ⟨es, ep, t, ⟨o, ho, r⟩, q⟩ := R.ex
  refine ⟨R, ⟨o, ho⟩, fun h1 h2 p k => ?_⟩
  have ⟨es', ep', t', ⟨o', ho', r'⟩, q'⟩ := SetS0.ex p
  exact ⟨es', ep', t', ⟨o', k o' ho', r'⟩, q'⟩
theorem refs_vals : ∀ {ks : List Kt} {us : List Value}, Vals (ks.map fun p => V.ref p.1) us → us = ks.map fun p => Value.ref p.1
  | [], _, .nil => rfl
  | p :: ks, _, .cons r t => by
    cases r
    rw [refs_vals t] <;> rfl
theorem vals_refs : ∀ (ks : List Kt), Vals (ks.map fun p => V.ref p.1) (ks.map fun p => Value.ref p.1)
  | [] => .nil
  | p :: ks => .cons rfl (vals_refs ks)
section
variable {X : Cx}
theorem Inv.isS {pins : List (Addr × Obj)} {σ : L2.St} {H : Hp} {s : Shared} {b : Addr} {k : List Str} (I : Inv X pins σ H s) (h : SqT X.K H b (k.map V.str)) : IsS X.prog X.w s.heap k b := by
  obtain ⟨its, r, ⟨o, ho, hc, n, hd⟩, _⟩ := I.tuple h
  refine ⟨o, its.toArray, n, ho, hc, hd, vals_items ?_⟩
  have e : (k.map Sum.inr).map kV = k.map V.str := by rw [List.map_map]; rfl
  rw [e]
  simpa using r
/-- set(xs), xs a list of tuples of texts -/
def rSetOfS (K : PySem.W.Frag) (P : Program) (w : World) : List V → Hp → VK → Prop := fun xs H Q => ∃ (l : Addr) (ks : List Kt), xs = [V.ref l] ∧ SqL K H l (ks.map fun p => V.ref p.1) ∧ (∀ p ∈ ks, SqT K H p.1 (p.2.map V.str)) ∧ ks.length < 300 ∧
  ∀ a L, H a = none → (∀ p ∈ L, p ∈ ks) → (∀ p ∈ ks, p.2 ∈ L.map (·.2)) → Q (.ref a) (L2.upd H a (SetSO P w a L))
theorem cr_setOfS (hc : X.calm = true) (hu : X.A.units + 64 < cLine) : CallR X (.type "set") (rSetOfS X.K X.prog X.w) := by
  intro pins s σ H xs us Q I r h
  obtain ⟨l, ks, rfl, hl, hk, hf, q⟩ := h
  rw [Vals.ref1 r]
  obtain ⟨its, rv, pl, hz⟩ := I.list hl
  have hn : H s.heap.objs.size = none := I.hok.fresh (Nat.le_refl _)
  refine set_call (P := X.prog) (w := X.w) ks (I.ok.hd hc) pl.isList (by simpa using refs_vals rv) (fun p hp => Inv.isS I (hk p hp)) hf (by omega) fun h' tk L es ep t R g k => ?_
  refine ⟨.ref s.heap.objs.size, L2.upd H s.heap.objs.size (SetSO X.prog X.w s.heap.objs.size L), I.laid (t' := tk) k (Nat.le_refl _) (setSO_new R.t0), rfl, q _ L hn (fun p hp => ?_) fun p hp => ?_⟩
  · exact List.mem_of_mem_take (g.sub p hp)
  · exact g.all p (by rw [List.take_length]; exact hp)
/-- sorted of such a set -/
def rSortedOfS (K : PySem.W.Frag) (P : Program) (w : World) : List V → Hp → VK → Prop := fun vs H Q => ∃ (a : Addr) (L : List Kt), vs = [V.ref a] ∧ H a = some (SetSO P w a L) ∧ (∀ p ∈ L, SqT K H p.1 (p.2.map V.str)) ∧ (∀ p ∈ L, p.2 ≠ []) ∧
  ∀ (L' : List Kt) (p : Addr), L'.Perm L → L'.map (fun q => q.2.map Sum.inr) = sortR (L.map fun q => q.2.map Sum.inr) → (L.map (·.2)).Nodup → H p = none → Q (.ref p) (L2.upd H p (.lst (L'.map fun q => V.ref q.1)))
theorem cr_sortedOfS (hc : X.calm = true) : CallR X (.builtin "sorted") (rSortedOfS X.K X.prog X.w) := by
  intro pins s σ H vs us Q I r h
  obtain ⟨a, L, rfl, ha, hk, hne, q⟩ := h
  have R0 : SetS0 X.prog X.w s.heap a L := (I.hok a _ ha).1
  obtain ⟨es, ep, t, R⟩ := R0.full fun p hp => Inv.isS I (hk p hp)
  have big : L.length < 400 := by
    have := R.room
    rcases R.small with q | q | q | q <;> omega
  rw [Vals.ref1 r]
  refine sorted_setS R (I.ok.hd hc) hne fun s' p out c L' k g o hp hg hout pm pw => ?_
  have hlen : (L'.map fun q => V.ref q.1).length ≤ sizeLine := by rw [List.length_map, sizeLine_eq, pm.length_eq]; omega
  have hn : H p = none := I.hok.fresh hp
  have hv : Vals (L'.map fun q => V.ref q.1) out.toList := by rw [hout]; exact vals_refs L'
  have J : Inv X pins σ (L2.upd H p (.lst (L'.map fun q => V.ref q.1))) { s with heap := s'.heap, gens := s'.gens, drawn := s'.drawn, toks := s'.toks } :=
    I.call (ch := []) (Un.laid k hp hn) (I.hok.laid k hp ⟨hlen, out.toList, c, hv, hg⟩) (by rw [g]; exact I.bare) (fun _ z => nomatch z)
  have e : s' = { s with heap := s'.heap, gens := s'.gens, drawn := s'.drawn, toks := s'.toks } := by
    cases s'
    cases s
    cases o
    rfl
  rw [e]
  exact ⟨.ref p, _, J, rfl, q L' p pm pw R.nd hn⟩
end
end HF

/-! HF: sorted, in general; sorted(set(..)). -/
namespace HF
open PySem PySem.Spec L2
open PyProof.Rows hiding St

section
variable {prog : Program} {w : World} {A : Around} {E : Value → Shared → Prop} {s : Shared}
/-- what a list is made of, where the size is told too -/
theorem collect_sized {Q : List Value → Shared → Prop} (it : Addr) {T : String} {o : Obj} {items : Array Value} {n : Nat} (hT : T = "list" ∨ T = "tuple") (ho : s.heap.get? it = some o) (hc : o.cls = .type T) (hd : o.data = .seq items n) (hz : items.size ≤ sizeLine)
    (hQ : ∀ h', s.heap.objs.size ≤ h'.objs.size → (∀ b u, s.heap.get? b = some u → h'.get? b = some u) → Q items.toList { s with heap := h' }) : wpAny (model prog w) A (collect (.ref it)) Q E s := by
  unfold collect
  refine wpAny_bind (wpAny_runValue (codeAny_builtin F.entry_proto_collect ?_)); rw [Around.under_plainId F.plain_proto_collect _]
  show wpAny _ A.in1 (newList [] >>= fun l => again (.builtin "list.__iadd__" ⟨[l, .ref it], []⟩)) _ _ s; refine wpAny_bind (wpAny_newObj_type ?_)
  refine wpAny_pure ⟨plainId_quiet F.plain_list_iadd _, codeAny_builtin F.entry_list_iadd ?_⟩; rw [Around.under_plainId F.plain_list_iadd _]
  show wpAny _ A.in1 (Builtin.List.listExtendWith (.ref s.heap.objs.size) (.ref it) (.ref s.heap.objs.size)) _ _ _
  have g0 : (s.heap.push { cls := .type "list", data := .seq ([] : List Value).toArray }).get? s.heap.objs.size = some { cls := .type "list", data := .seq #[] 0 } := Heap.get?_push_size _ rfl
  have g1 := Heap.get?_update_self (Obj.mapSeq (· ++ items)) g0 rfl
  have fin : wpAny (model prog w) A (match Value.ref s.heap.objs.size with
      | Value.ref a => do
        match (← load a).data with
          | Data.seq xs _ => pure xs.toList
          | _ => unsupported "internal:collect"
      | _ => unsupported "internal:collect") Q E { s with heap := (s.heap.push { cls := .type "list", data := .seq ([] : List Value).toArray }).update s.heap.objs.size (Obj.mapSeq (· ++ items)) } := by
    show wpAny _ A (load s.heap.objs.size >>= _) _ _ _
    refine wpAny_bind (wpAny_load g1 (wpAny_pure ?_))
    have e : ((#[] : Array Value) ++ items).toList = items.toList := by simp
    show Q ((#[] : Array Value) ++ items).toList _
    rw [e]
    refine hQ _ ?_ fun b u hb => (Heap.get?_update_other _ _ (Nat.ne_of_gt (Heap.lt_size hb))).trans (Heap.get?_push_of_some _ hb)
    rw [Heap.size_update, Heap.size_push]
    exact Nat.le_succ _
  refine wpAny_mono (wpAny_extend_seq (hsz := hz) (A := A) (R := fun r s' => r = .ok (.ret (.ref s.heap.objs.size)) ∧ s' = { s with heap := (s.heap.push { cls := .type "list", data := .seq ([] : List Value).toArray }).update s.heap.objs.size (Obj.mapSeq (· ++ items)) })
    (s := { s with heap := s.heap.push { cls := .type "list", data := .seq ([] : List Value).toArray } }) _ it _ 0 hT g0 (Heap.get?_push_of_some _ ho) hc hd ⟨rfl, rfl⟩) (fun f s' h => ?_) (fun e s' h => absurd h.1 (by simp))
  cases f with
  | done f =>
    obtain ⟨e, rfl⟩ := h
    cases e
    exact fin
  | again c => exact ⟨h.1, codeAny_mono h.2 fun r s'' hr => by obtain ⟨rfl, rfl⟩ := hr; exact fin⟩
/-- sorted of a list or a tuple -/
theorem sorted_seq {l : Addr} {T : String} {o : Obj} {vs : List Value} {n : Nat} {ltv : Value → Value → Bool} {Q : Value → Shared → Prop} (O : SrtO.Swo ltv) (hT : T = "list" ∨ T = "tuple") (ho : s.heap.get? l = some o) (hc : o.cls = .type T) (hd : o.data = .seq vs.toArray n) (hz : vs.length ≤ sizeLine)
    (hS : 2 ≤ vs.length → ∀ (h1 : Heap) (a : Addr), h1.get? a = some (seqObj "list" vs.toArray 0) → (∀ b u, s.heap.get? b = some u → b ≠ a ∧ h1.get? b = some u) → SrtO.SortableO prog w A.in1.in1 { s with heap := h1 } a vs ltv)
    (h : ∀ (h' : Heap) (d : Addr) (out : List Value), SrtO.Srtd ltv out → out.Perm vs → (∀ b u, s.heap.get? b = some u → h'.get? b = some u) → s.heap.objs.size ≤ d → (∃ n, h'.get? d = some (seqObj "list" out.toArray n)) → Q (.ref d) { s with heap := h' }) :
    wpAny (model prog w) A (call (.builtin "sorted") [.ref l]) Q E s := by
  refine Calls.call_function_entry kind_sorted plain_sorted entry_sorted (args_sorted1 _) (by
  unfold Builtin.«sorted»
  refine wpAny_bind (m := checkCount "sorted" 1 1 _) (wpAny_pure (wpAny_bind (collect_sized l hT ho hc hd (by simpa using hz) fun h1 hsz kp => ?_)))
  rw [show vs.toArray.toList = vs by simp]
  refine wpAny_bind (wpAny_newList ?_ hz)
  have hoL : (h1.push (seqObj "list" vs.toArray 0)).get? h1.objs.size = some (seqObj "list" vs.toArray 0) := Heap.get?_push_size _ rfl
  have keep : ∀ b u, s.heap.get? b = some u → b ≠ h1.objs.size ∧ (h1.push (seqObj "list" vs.toArray 0)).get? b = some u := fun b u q => ⟨Nat.ne_of_lt (Heap.lt_size (kp b u q)), Heap.get?_push_of_some _ (kp b u q)⟩
  refine wpAny_bind (wpAny_holding (wpAny_call_entry slot_list_sort ⟨_, hoL, rfl⟩ entry_list_sort (SrtO.list_sort_ord (s := { s with heap := h1.push (seqObj "list" vs.toArray 0) }) O hoL hz (fun h2 => hS h2 _ _ hoL keep) fun out hs hb => ⟨_, rfl, ?_⟩) (args_list_sort _)))
  obtain ⟨c, hc'⟩ := sortedHeap_at (vs := vs) (out := out.toArray) hoL
  refine wpAny_pure ⟨_, rfl, h _ h1.objs.size out hs hb.perm (fun b u q => ?_) hsz ⟨c, hc'⟩⟩
  have hlt := Heap.lt_size (kp b u q)
  show (sortedHeap (h1.push (seqObj "list" vs.toArray 0)) h1.objs.size vs out.toArray).get? b = some u
  rw [sortedHeap_old (Nat.ne_of_lt hlt) (by rw [size_push']; exact Nat.lt_succ_of_lt hlt)]
  exact Heap.get?_push_of_some _ (kp b u q))
/-! ### of ints, of texts -/
def keyVal : Value → Key
  | .int i _ => .inl i
  | .str x _ => .inr x
  | _ => .inl 0
theorem keyVal_of {k : Key} {v : Value} (r : RelV (kV k) v) : keyVal v = k := by
  cases k with
  | inl i => obtain ⟨t, rfl⟩ := (show ∃ t, v = Value.int i t from r); rfl
  | inr x => obtain ⟨t, rfl⟩ := (show ∃ t, v = Value.str x t from r); rfl
theorem scal_sortable {a : Addr} {vs : List Value} (h2 : 2 ≤ vs.length) (hp : ∀ v ∈ vs, RelV (kV (keyVal v)) v) (hs : ∀ v ∈ vs, ∀ u ∈ vs, sameK (keyVal v) (keyVal u) = true) : SrtO.SortableO prog w A s a vs fun v u => ltF (keyVal v) (keyVal u) := by
  intro h' _
  obtain ⟨v0, hv0⟩ : ∃ v0, v0 ∈ vs := List.exists_mem_of_length_pos (by omega)
  refine ⟨oneType', fun Q E hq => ?_, fun p q hm hm' => ?_⟩
  · refine PySem.W.kas_kind (T := .type (tyK (keyVal v0))) h2 (fun v hv => ?_) (by cases keyVal v0 <;> first | decide +kernel | rfl | decide) (by cases keyVal v0 <;> rfl) hq
    have c := hs v0 hv0 v hv
    have r := hp v hv
    generalize keyVal v0 = k0 at c ⊢
    generalize keyVal v = k at c r
    cases k0 with
    | inl i0 =>
      cases k with
      | inl i => obtain ⟨t, rfl⟩ := (show ∃ t, v = Value.int i t from r); exact PySem.W.Looks.now
      | inr y => cases c
    | inr y0 =>
      cases k with
      | inl i => cases c
      | inr y => obtain ⟨t, rfl⟩ := (show ∃ t, v = Value.str y t from r); exact PySem.W.Looks.now
  · show wpAny (model prog w) A (keyLt' oneType' p.1 q.1) (fun r s' => s' = { s with heap := h' } ∧ r = ltF (keyVal p.1) (keyVal q.1)) (fun _ _ => False) { s with heap := h' }
    rw [keyLt'_oneType]
    exact key_one (hp _ hm) (hp _ hm') (hs _ hm _ hm') ⟨rfl, rfl⟩
theorem swo_ltF {α : Type} (k : α → Key) : SrtO.Swo fun v u : α => ltF (k v) (k u) := ⟨fun x y h => ltF_asym h, fun x y z h1 h2 => by
  cases q : ltF (k z) (k x) with
  | false => rfl
  | true =>
    by_cases e : k y = k x
    · rw [e] at h2; rw [h2] at q; cases q
    · have hxy : ltF (k x) (k y) = true := (ltF_total e).resolve_left (by rw [h1]; decide)
      have := ltF_trans q hxy
      rw [h2] at this; cases this⟩
end
end HF

/-! HF: sorted and sorted(set(..)) over plain data. -/
namespace HF
open PySem PySem.Spec L2
open PyProof.Rows hiding St
def leF (a b : Key) : Bool := !ltF b a
def sortK (ks : List Key) : List Key := ks.mergeSort leF
theorem leF_trans (a b c : Key) (h : leF a b = true) (h' : leF b c = true) : leF a c = true := by
  unfold leF at *
  rw [Bool.not_eq_true'] at *
  exact (swo_ltF (fun x : Key => x)).tr a b c h h'
theorem leF_total (a b : Key) : (leF a b || leF b a) = true := by
  unfold leF
  cases q : ltF b a with
  | false => rfl
  | true => rw [ltF_asym q]; rfl
theorem leF_anti {a b : Key} (h : leF a b = true) (h' : leF b a = true) : a = b := by
  unfold leF at *
  rw [Bool.not_eq_true'] at *
  by_cases e : a = b
  · exact e
  · rcases ltF_total e with q | q
    · rw [h'] at q; cases q
    · rw [h] at q; cases q
theorem sortK_perm (xs : List Key) : (sortK xs).Perm xs := List.mergeSort_perm ..
theorem sortK_of {xs ys : List Key} (p : ys.Perm xs) (h : ys.Pairwise fun a b => leF a b = true) : ys = sortK xs :=
  List.Perm.eq_of_pairwise (le := fun a b => leF a b = true) (fun a b _ _ => leF_anti) h (List.pairwise_mergeSort leF_trans leF_total xs) (p.trans (sortK_perm xs).symm)
theorem perm_map_inv {α β : Type} {f : α → β} {l m : List β} (p : l.Perm m) : ∀ {xs : List α}, m = xs.map f → ∃ ys : List α, ys.Perm xs ∧ l = ys.map f := by
  induction p with
  | nil =>
    intro xs e
    cases xs with
    | nil => exact ⟨[], .refl _, rfl⟩
    | cons x xs => cases e
  | @cons a l m p ih =>
    intro xs e
    cases xs with
    | nil => cases e
    | cons x xs =>
      rw [List.map_cons] at e
      injection e with e1 e2
      obtain ⟨ys, p1, e3⟩ := ih e2
      exact ⟨x :: ys, p1.cons x, by rw [List.map_cons, e1, e3]⟩
  | swap a b l =>
    intro xs e
    cases xs with
    | nil => cases e
    | cons x xs =>
      cases xs with
      | nil => cases e
      | cons y xs =>
        simp only [List.map_cons] at e
        injection e with e1 e2
        injection e2 with e2 e3
        exact ⟨y :: x :: xs, .swap _ _ _, by simp only [List.map_cons]; rw [e1, e2, e3]⟩
  | trans p1 p2 ih1 ih2 =>
    intro xs e
    obtain ⟨ys, q1, e1⟩ := ih2 e
    obtain ⟨zs, q2, e2⟩ := ih1 e1
    exact ⟨zs, q2.trans q1, e2⟩
abbrev Ks := Addr × List Key
def rSortG (K : PySem.W.Frag) : List V → Hp → VK → Prop := fun vs H Q => ∃ (a : Addr) (xs : List V), vs = [V.ref a] ∧ (SqL K H a xs ∨ SqT K H a xs) ∧
  ((∃ ks : List Key, xs = ks.map kV ∧ (∀ x ∈ ks, ∀ y ∈ ks, sameK x y = true) ∧ ∀ p, H p = none → Q (.ref p) (L2.upd H p (.lst ((sortK ks).map kV)))) ∨
  ∃ kts : List Ks, xs = kts.map (fun p => V.ref p.1) ∧ (∀ p ∈ kts, SqT K H p.1 (p.2.map kV)) ∧ CmpAll (kts.map (·.2)) ∧
    ∀ (L : List Ks) (p : Addr), L.Perm kts → L.map (·.2) = sortR (kts.map (·.2)) → H p = none → Q (.ref p) (L2.upd H p (.lst (L.map fun q => V.ref q.1))))
theorem refs_of {α : Type} : ∀ {ks : List (Addr × α)} {us : List Value}, Vals (ks.map fun p => V.ref p.1) us → us = ks.map fun p => Value.ref p.1
  | [], _, .nil => rfl
  | p :: ks, _, .cons r t => by
    cases r
    rw [refs_of t] <;> rfl
theorem refs_are {α : Type} : ∀ (ks : List (Addr × α)), Vals (ks.map fun p => V.ref p.1) (ks.map fun p => Value.ref p.1)
  | [] => .nil
  | p :: ks => .cons rfl (refs_are ks)
theorem vals_keys : ∀ {ks : List Key} {us : List Value}, Vals (ks.map kV) us → us.map keyVal = ks ∧ ∀ u ∈ us, RelV (kV (keyVal u)) u
  | [], _, .nil => ⟨rfl, fun _ z => nomatch z⟩
  | k :: ks, u :: us, .cons r t => by
    obtain ⟨h1, h2⟩ := vals_keys t
    have e := keyVal_of r
    refine ⟨by rw [List.map_cons, h1, e], fun v hv => ?_⟩
    rcases List.mem_cons.mp hv with rfl | hv
    · rw [e]; exact r
    · exact h2 v hv
theorem keys_vals : ∀ {us : List Value}, (∀ u ∈ us, RelV (kV (keyVal u)) u) → Vals ((us.map keyVal).map kV) us
  | [], _ => .nil
  | u :: us, h => .cons (h u List.mem_cons_self) (keys_vals fun v hv => h v (List.mem_cons_of_mem _ hv))
section
variable {X : Cx}
theorem Inv.seqAt {pins : List (Addr × Obj)} {σ : L2.St} {H : Hp} {s : Shared} {a : Addr} {xs : List V} (I : Inv X pins σ H s) (h : SqL X.K H a xs ∨ SqT X.K H a xs) : ∃ (T : String) (o : Obj) (vs : List Value) (n : Nat), (T = "list" ∨ T = "tuple") ∧ s.heap.get? a = some o ∧ o.cls = .type T ∧ o.data = .seq vs.toArray n ∧ Vals xs vs ∧ vs.length ≤ sizeLine := by
  rcases h with h | h
  · obtain ⟨its, rv, pl, hz⟩ := I.list h
    obtain ⟨o, ho, hc, n, hd⟩ := pl.isList
    exact ⟨"list", o, its, n, .inl rfl, ho, hc, by simpa using hd, rv, by rw [← rv.length]; exact hz⟩
  · obtain ⟨its, rv, ⟨o, ho, hc, n, hd⟩, hz⟩ := I.tuple h
    exact ⟨"tuple", o, its, n, .inr rfl, ho, hc, by simpa using hd, rv, by rw [← rv.length]; exact hz⟩
theorem cr_sortG : CallR X (.builtin "sorted") (rSortG X.K) := by
  intro pins s σ H vs us Q I r h
  obtain ⟨a, xs, rfl, hs, h⟩ := h
  obtain ⟨T, o, its, n, hT, ho, hc, hd, rv, hz⟩ := Inv.seqAt I hs
  rw [Vals.ref1 r]
  rcases h with ⟨ks, rfl, hk, q⟩ | ⟨kts, rfl, hk, hcm, q⟩
  · obtain ⟨e1, e2⟩ := vals_keys rv
    refine sorted_seq (swo_ltF keyVal) hT ho hc hd hz (fun h2 h1 a' _ _ => scal_sortable h2 e2 fun v hv u hu => hk _ (by rw [← e1]; exact List.mem_map_of_mem hv) _ (by rw [← e1]; exact List.mem_map_of_mem hu)) fun h' d out hs' hp keep hdz ⟨c, hg⟩ => ?_
    have hn : H d = none := I.hok.fresh hdz
    have e3 : out.map keyVal = sortK ks := sortK_of (by rw [← e1]; exact hp.map _) (List.pairwise_map.mpr (hs'.imp fun {x y} q => by
      have q' : ltF (keyVal y) (keyVal x) = false := q
      unfold leF
      rw [q']; rfl))
    have hv : Vals ((sortK ks).map kV) out := by rw [← e3]; exact keys_vals fun u hu => e2 u (hp.mem_iff.mp hu)
    have hlen : ((sortK ks).map kV).length ≤ sizeLine := by rw [hv.length, hp.length_eq]; exact hz
    exact ⟨.ref d, L2.upd H d (.lst ((sortK ks).map kV)), I.laid (t' := s.toks) keep hdz ⟨hlen, out, c, hv, hg⟩, rfl, q d hn⟩
  · obtain rfl := refs_of rv
    have fl : ∀ p ∈ kts, IsFlat s.heap (.ref p.1) p.2 := fun p hp => by
      obtain ⟨its, r, ⟨o, ho, hc, n, hd⟩, _⟩ := I.tuple (hk p hp)
      exact ⟨p.1, o, its.toArray, n, rfl, ho, hc, hd, by simpa using r⟩
    let k : Value → List Key := flatOf s.heap
    have ek : ∀ p ∈ kts, k (.ref p.1) = p.2 := fun p hp => (fl p hp).flatOf
    have em : (kts.map fun p => Value.ref p.1).map k = kts.map (·.2) := by
      rw [List.map_map]
      exact List.map_congr_left fun p hp => ek p hp
    have hp : ∀ v ∈ kts.map (fun p => Value.ref p.1), IsFlat s.heap v (k v) := fun v hv => by
      obtain ⟨p, hp, rfl⟩ := List.mem_map.mp hv
      rw [ek p hp]; exact fl p hp
    refine sorted_seq (ltv := fun v u => ltFs (k v) (k u)) ⟨fun x y => swo_F.asym _ _, fun x y z => swo_F.tr _ _ _⟩ hT ho hc hd hz (fun h2 h1 a' ha' kk => ?_) fun h' d out hs' pm keep hdz ⟨c, hg⟩ => ?_
    · refine flat_sortable (s := { s with heap := h1 }) (by omega) (fun v hm => (hp v hm).keeps fun b o e _ => (kk b o e).2) (by rw [em]; exact hcm) fun o e => ?_
      have e' : some o = some (seqObj "list" _ 0) := e.symm.trans ha'
      cases e'
      intro c
      exact absurd (Value.type.inj c) (by decide)
    · have hn : H d = none := I.hok.fresh hdz
      obtain ⟨L, pL, rfl⟩ := perm_map_inv pm rfl
      have e3 : L.map (·.2) = (L.map fun p => Value.ref p.1).map k := by
        rw [List.map_map]
        exact List.map_congr_left fun p hp => (ek p (pL.mem_iff.mp hp)).symm
      have e4 : L.map (·.2) = sortR (kts.map (·.2)) := sortR_of (pL.map _) (by
        rw [e3]
        refine List.pairwise_map.mpr (hs'.imp fun {x y} q => ?_)
        have q' : ltFs (k y) (k x) = false := q
        unfold leFs
        rw [q']; rfl)
      have hlen : (L.map fun q => V.ref q.1).length ≤ sizeLine := by
        rw [List.length_map, pL.length_eq]
        simpa using hz
      exact ⟨.ref d, L2.upd H d (.lst (L.map fun q => V.ref q.1)), I.laid (t' := s.toks) keep hdz ⟨hlen, _, c, refs_are L, hg⟩, rfl, q L d pL e4 hn⟩
/-! ### over plain data -/
def keyOfD : D → Option Key
  | .int i => some (.inl i)
  | .str x => some (.inr x)
  | _ => none
def kD : Key → D
  | .inl i => .int i
  | .inr x => .str x
def keysOf : List D → Option (List Key)
  | [] => some []
  | d :: r => match keyOfD d with
    | some k => (keysOf r).map (k :: ·)
    | none => none
def rowOf : D → Option (List Key)
  | .tup ds => keysOf ds
  | _ => none
def rowsOf : List D → Option (List (List Key))
  | [] => some []
  | d :: r => match rowOf d with
    | some k => (rowsOf r).map (k :: ·)
    | none => none
def rowD (r : List Key) : D := .tup (r.map kD)
def cmpAllB (kss : List (List Key)) : Bool := kss.all (fun x => !x.isEmpty) && kss.all fun x => kss.all fun y => cmpOk x y
theorem cmpAllB_iff {kss : List (List Key)} : cmpAllB kss = true ↔ CmpAll kss := by
  unfold cmpAllB CmpAll
  simp only [Bool.and_eq_true, List.all_eq_true, Bool.not_eq_true', List.isEmpty_eq_false_iff, ne_eq]
def oSort (x : D) : Option D := match itemsD x with
  | some xs => match keysOf xs with
    | some ks => if ks.all (fun a => ks.all (sameK a)) then some (.lst true ((sortK ks).map kD)) else none
    | none => match rowsOf xs with
      | some ks => if cmpAllB ks then some (.lst true ((sortR ks).map rowD)) else none
      | none => none
  | none => none
theorem RpL.keys {K : PySem.W.Frag} {H : Hp} {io : List Addr} : ∀ {ds : List D} {vs : List V} {os : List Addr} {ks : List Key}, RpL K H io ds vs os → keysOf ds = some ks → vs = ks.map kV ∧ ∀ x, Sum.inr x ∈ ks → PyData.strOk x = true
  | _, _, _, _, .nil, e => by cases e; exact ⟨rfl, fun _ z => nomatch z⟩
  | _, _, _, _, .cons (ds := ds) h r, e => by
    unfold keysOf at e
    cases h <;> first | cases e | skip
    · rename_i i
      have e' : (keysOf ds).map (Sum.inl i :: ·) = some _ := e
      cases hi : keysOf ds with
      | none => rw [hi] at e'; cases e'
      | some ys =>
        rw [hi] at e'
        cases e'
        obtain ⟨h1, h2⟩ := r.keys hi
        rw [h1]
        exact ⟨rfl, fun x hx => (List.mem_cons.mp hx).elim (fun q => by cases q) (h2 x)⟩
    · rename_i z hz
      have e' : (keysOf ds).map (Sum.inr z :: ·) = some _ := e
      cases hi : keysOf ds with
      | none => rw [hi] at e'; cases e'
      | some ys =>
        rw [hi] at e'
        cases e'
        obtain ⟨h1, h2⟩ := r.keys hi
        rw [h1]
        exact ⟨rfl, fun x hx => (List.mem_cons.mp hx).elim (fun q => by cases q; exact hz) (h2 x)⟩
theorem RpL.ofKeys {K : PySem.W.Frag} {H : Hp} {io : List Addr} : ∀ {ks : List Key}, (∀ x, Sum.inr x ∈ ks → PyData.strOk x = true) → RpL K H io (ks.map kD) (ks.map kV) []
  | [], _ => .nil
  | .inl i :: ks, h => .cons (os := []) (ps := []) (.int i) (RpL.ofKeys fun x hx => h x (List.mem_cons_of_mem _ hx))
  | .inr y :: ks, h => .cons (os := []) (ps := []) (.str (h y List.mem_cons_self)) (RpL.ofKeys fun x hx => h x (List.mem_cons_of_mem _ hx))
def RowOk (K : PySem.W.Frag) (H : Hp) (p : Ks) : Prop := TQ K H p.1 (p.2.map kV) ∧ ∀ x, Sum.inr x ∈ p.2 → PyData.strOk x = true
theorem RpL.rows {K : PySem.W.Frag} {H : Hp} {io : List Addr} : ∀ {ds : List D} {vs : List V} {os : List Addr} {kss : List (List Key)}, RpL K H io ds vs os → rowsOf ds = some kss → ∃ kts : List Ks, vs = kts.map (fun p => V.ref p.1) ∧ kts.map (·.2) = kss ∧ ∀ p ∈ kts, RowOk K H p
  | _, _, _, _, .nil, e => by cases e; exact ⟨[], rfl, rfl, fun _ z => nomatch z⟩
  | _, _, _, _, .cons (d := d) (ds := ds) h r, e => by
    unfold rowsOf at e
    cases h with
    | tup h rr =>
      rename_i a ws es
      have e' : (match keysOf es with | some k => (rowsOf ds).map (k :: ·) | none => none) = some _ := e
      cases hk : keysOf es with
      | none => rw [hk] at e'; cases e'
      | some k =>
        rw [hk] at e'
        dsimp only at e'
        cases hr : rowsOf ds with
        | none => rw [hr] at e'; cases e'
        | some kss =>
          rw [hr] at e'
          cases e'
          obtain ⟨kts, h1, h2, h3⟩ := r.rows hr
          obtain ⟨g1, g2⟩ := rr.keys hk
          refine ⟨(a, k) :: kts, by rw [h1]; rfl, by rw [List.map_cons, h2], fun p hp => ?_⟩
          rcases List.mem_cons.mp hp with q | hp
          · subst q
            exact ⟨by rw [← g1]; exact h, g2⟩
          · exact h3 p hp
    | _ => cases e
theorem RpL.ofRows {K : PySem.W.Frag} {H : Hp} {io : List Addr} : ∀ {kts : List Ks}, (∀ p ∈ kts, RowOk K H p) → RpL K H io ((kts.map (·.2)).map rowD) (kts.map fun p => V.ref p.1) []
  | [], _ => .nil
  | p :: kts, h => .cons (os := []) (ps := []) (.tup (h p List.mem_cons_self).1 (RpL.ofKeys (h p List.mem_cons_self).2)) (RpL.ofRows fun q hq => h q (List.mem_cons_of_mem _ hq))
theorem seq_of {K : PySem.W.Frag} {H : Hp} {io : List Addr} {d : D} {x : V} {os : List Addr} {xs : List D} (h : Rp K H io d x os) (e : itemsD d = some xs) : ∃ a vs ps, x = .ref a ∧ (SqL K H a vs ∨ SqT K H a vs) ∧ RpL K H io xs vs ps := by
  cases h with
  | lstS h r => cases e; exact ⟨_, _, _, rfl, .inl h.sq, r⟩
  | lstO h n r => cases e; exact ⟨_, _, _, rfl, .inl (.inl (.inl h)), r⟩
  | tup h r => cases e; exact ⟨_, _, _, rfl, .inr h.sqT, r⟩
  | _ => cases e
theorem o_sort : OpN X.K false (n1 oSort) (rSortG X.K) := OpN.one fun io H x dx d os Q bl rx m e q => by
  unfold oSort at e
  cases hi : itemsD dx with
  | none => rw [hi] at e; cases e
  | some xs =>
  rw [hi] at e
  obtain ⟨a, vs, ps, rfl, hsq, rl⟩ := seq_of rx hi
  dsimp only at e
  cases hk : keysOf xs with
  | some ks =>
    rw [hk] at e
    dsimp only at e
    split at e
    · rename_i hc
      cases e
      obtain ⟨rfl, hok⟩ := rl.keys hk
      rw [List.all_eq_true] at hc
      refine ⟨a, _, rfl, hsq, .inl ⟨ks, rfl, fun x hx y hy => List.all_eq_true.mp (hc x hx) y hy, ?_⟩⟩
      exact give_lst bl rfl (RpL.ofKeys fun x hx => hok x ((sortK_perm ks).mem_iff.mp hx)) q
    · cases e
  | none =>
    rw [hk] at e
    dsimp only at e
    cases hr : rowsOf xs with
    | none => rw [hr] at e; cases e
    | some kss =>
      rw [hr] at e
      dsimp only at e
      split at e
      · rename_i hc
        cases e
        obtain ⟨kts, rfl, rfl, ho⟩ := rl.rows hr
        refine ⟨a, _, rfl, hsq, .inr ⟨kts, rfl, fun p hp => (ho p hp).1.sqT, cmpAllB_iff.mp hc, fun L p pL eL hp => ?_⟩⟩
        rw [← eL] at q
        exact give_lst bl rfl (RpL.ofRows fun q hq => ho q (pL.mem_iff.mp hq)) q p hp
      · cases e
/-! ### sorted(set(..)) -/
def nub {α : Type} [DecidableEq α] : List α → List α
  | [] => []
  | x :: xs => if x ∈ nub xs then nub xs else x :: nub xs
theorem mem_nub {α : Type} [DecidableEq α] {a : α} : ∀ {xs : List α}, a ∈ nub xs ↔ a ∈ xs
  | [] => Iff.rfl
  | x :: xs => by
    unfold nub
    split
    · rename_i h
      rw [mem_nub, List.mem_cons]
      exact ⟨.inr, fun z => z.elim (fun e => e ▸ mem_nub.mp h) id⟩
    · rw [List.mem_cons, List.mem_cons, mem_nub]
theorem nub_nodup {α : Type} [DecidableEq α] : ∀ xs : List α, (nub xs).Nodup
  | [] => List.nodup_nil
  | x :: xs => by
    unfold nub
    split
    · exact nub_nodup xs
    · rename_i h
      exact List.nodup_cons.mpr ⟨h, nub_nodup xs⟩
def txtK : Key → Option Str
  | .inr x => some x
  | .inl _ => none
def txtsK : List Key → Option (List Str)
  | [] => some []
  | k :: r => match txtK k with
    | some x => (txtsK r).map (x :: ·)
    | none => none
def rowsT : List (List Key) → Bool := fun kss => kss.all fun r => !r.isEmpty && (txtsK r).isSome
def oSortSet (x : D) : Option D := match x with
  | .lst _ xs => match rowsOf xs with
    | some kss => if rowsT kss && decide (kss.length < 300) then some (.lst true ((sortR (nub kss)).map rowD)) else none
    | none => none
  | _ => none
theorem txtsK_some : ∀ {r : List Key} {ys : List Str}, txtsK r = some ys → r = ys.map Sum.inr
  | [], _, e => by cases e; rfl
  | k :: r, ys, e => by
    unfold txtsK at e
    cases k with
    | inl i => cases e
    | inr x =>
      have e' : (txtsK r).map (x :: ·) = some ys := e
      cases hr : txtsK r with
      | none => rw [hr] at e'; cases e'
      | some zs =>
        rw [hr] at e'
        cases e'
        rw [txtsK_some hr]; rfl
def rSortSet (K : PySem.W.Frag) (P : Program) (w : World) : List V → Hp → VK → Prop := fun xs H Q => rSetOfS K P w xs H fun v H' => rSortedOfS K P w [v] H' Q
theorem kts_of : ∀ {kts : List Ks}, rowsT (kts.map (·.2)) = true → ∃ ls : List Kt, kts = ls.map (fun p => (p.1, p.2.map Sum.inr)) ∧ ∀ p ∈ ls, p.2 ≠ []
  | [], _ => ⟨[], rfl, fun _ z => nomatch z⟩
  | (a, r) :: kts, h => by
    unfold rowsT at h
    rw [List.map_cons, List.all_cons, Bool.and_eq_true, Bool.and_eq_true] at h
    obtain ⟨ls, e, hn⟩ := kts_of (kts := kts) h.2
    obtain ⟨ys, hy⟩ := Option.isSome_iff_exists.mp h.1.2
    have er := txtsK_some hy
    replace er : r = ys.map Sum.inr := er
    subst er
    refine ⟨(a, ys) :: ls, by rw [e, List.map_cons], fun p hp => ?_⟩
    rcases List.mem_cons.mp hp with rfl | hp
    · intro z
      have z' : ys = [] := z
      subst z'
      simp at h
    · exact hn p hp
theorem sortR_congr {xs ys : List (List Key)} (p : xs.Perm ys) : sortR xs = sortR ys := sortR_of ((sortR_perm xs).trans p) (sortR_sorted xs)
theorem inr_inj {a b : List Str} (h : a.map (Sum.inr : Str → Key) = b.map Sum.inr) : a = b := by
  have : ∀ {a b : List Str}, a.map (Sum.inr : Str → Key) = b.map Sum.inr → a = b := by
    intro a
    induction a with
    | nil => intro b h; cases b with
      | nil => rfl
      | cons _ _ => cases h
    | cons x a ih => intro b h; cases b with
      | nil => cases h
      | cons y b =>
        rw [List.map_cons, List.map_cons] at h
        injection h with h1 h2
        injection h1 with h1
        rw [h1, ih h2]
  exact this h
theorem o_sortSet : OpN X.K false (n1 oSortSet) (rSortSet X.K X.prog X.w) := OpN.one fun io H x dx d os Q bl rx m e q => by
  unfold oSortSet at e
  cases dx <;> first | cases e | skip
  rename_i o xs
  dsimp only at e
  cases hr : rowsOf xs with
  | none => rw [hr] at e; cases e
  | some kss =>
    rw [hr] at e
    dsimp only at e
    split at e
    · rename_i hc
      cases e
      rw [Bool.and_eq_true, decide_eq_true_iff] at hc
      obtain ⟨a, vs, ps, rfl, hl, rl, _⟩ := rx.lst_inv
      obtain ⟨kts, rfl, rfl, ho⟩ := rl.rows hr
      obtain ⟨ls, rfl, hne⟩ := kts_of hc.1
      rw [List.map_map] at hl
      have ks : ∀ k : List Str, (k.map Sum.inr).map kV = k.map V.str := fun k => by rw [List.map_map]; rfl
      have ho' : ∀ p ∈ ls, RowOk X.K H (p.1, p.2.map Sum.inr) := fun p hp => ho _ (List.mem_map.mpr ⟨p, hp, rfl⟩)
      have tq : ∀ p ∈ ls, SqT X.K H p.1 (p.2.map V.str) := fun p hp => by
        rw [← ks]
        exact (ho' p hp).1.sqT
      refine ⟨a, ls, rfl, .inl hl, tq, by simpa using hc.2, fun a1 L h1 hsub hall => ?_⟩
      have ext1 : Ext H (L2.upd H a1 (SetSO X.prog X.w a1 L)) := ext_upd h1
      refine ⟨a1, L, rfl, upd_same, fun p hp => ?_, fun p hp => hne p (hsub p hp), fun L' p pL eL nd hp => ?_⟩
      · rw [← ks]
        exact ((ho' p (hsub p hp)).1.of fun o e => ext1 _ _ e).sqT
      · have bl1 : BL io (L2.upd H a1 (SetSO X.prog X.w a1 L)) := fun b hb => let ⟨vs, e⟩ := bl b hb; ⟨vs, ext1 b _ e⟩
        have perm : (L.map fun q => q.2.map (Sum.inr : Str → Key)).Perm (nub (List.map (fun x => x.2) (ls.map fun p => (p.1, p.2.map (Sum.inr : Str → Key))))) := by
          refine (List.perm_ext_iff_of_nodup ?_ (nub_nodup _)).mpr fun r => ?_
          · have e : L.map (fun q => q.2.map (Sum.inr : Str → Key)) = (L.map (·.2)).map fun k => k.map Sum.inr := by rw [List.map_map]; rfl
            rw [e]
            exact List.pairwise_map.mpr (nd.imp fun hne e => hne (inr_inj e))
          · rw [mem_nub, List.map_map]
            constructor
            · intro h
              obtain ⟨q, hq, rfl⟩ := List.mem_map.mp h
              exact List.mem_map.mpr ⟨q, hsub q hq, rfl⟩
            · intro h
              obtain ⟨q, hq, rfl⟩ := List.mem_map.mp h
              obtain ⟨q', hq', e⟩ := List.mem_map.mp (hall q hq)
              exact List.mem_map.mpr ⟨q', hq', by show q'.2.map Sum.inr = q.2.map Sum.inr; rw [show q'.2 = q.2 from e]⟩
        have key : ((L'.map fun q => (q.1, q.2.map (Sum.inr : Str → Key))).map (·.2)).map rowD = (sortR (nub (List.map (fun x => x.2) (ls.map fun p => (p.1, p.2.map (Sum.inr : Str → Key)))))).map rowD := by
          rw [List.map_map (l := L')]
          show (L'.map fun q => q.2.map (Sum.inr : Str → Key)).map rowD = _
          rw [eL, sortR_congr perm]
        have rl' : RpL X.K (L2.upd H a1 (SetSO X.prog X.w a1 L)) io ((sortR (nub (List.map (fun x => x.2) (ls.map fun p => (p.1, p.2.map (Sum.inr : Str → Key)))))).map rowD) (L'.map fun q => V.ref q.1) [] := by
          rw [← key]
          have := RpL.ofRows (K := X.K) (H := L2.upd H a1 (SetSO X.prog X.w a1 L)) (io := io) (kts := L'.map fun q => (q.1, q.2.map (Sum.inr : Str → Key))) fun r hr => by
            obtain ⟨q, hq, rfl⟩ := List.mem_map.mp hr
            have z := ho' q (hsub q (pL.mem_iff.mp hq))
            exact ⟨z.1.of fun o e => ext1 _ _ e, z.2⟩
          rw [List.map_map (g := fun p : Ks => V.ref p.1)] at this
          exact this
        refine give_lst bl1 rfl rl' (fun v H' qs ext rp nq fr => q v H' qs (fun b o e => ext b o (ext1 b o e)) rp nq fun b hb => ?_) p hp
        cases eb : H b with
        | none => rfl
        | some o =>
          have := fr b hb
          rw [ext1 b o eb] at this
          cases this
    · cases e
variable {a b c e : Expr} {pos p1 p2 p3 p4 p5 : Pos} {f g h : Ev}
theorem bSort {es : List Expr} {fs : List Ev} (z : X.mg "sorted" = none) (ha : PA X (e :: es) (tAM X.K false fs)) (hv : bootBuiltins "sorted" = some (.builtin "sorted") := by decide +kernel) (hg : Gl X "sorted" := by rfl) (hs : starEach (e :: es) X.env = (false, eval e X.env) :: starEach es X.env := by rfl) (hp : (backTo pos (starEach es X.env)).any (·.1) = false := by rfl) : PE X (.Call (.Name "sorted" p1) (e :: es) [] pos) (tV X.K (eN (n1 oSort) fs)) :=
  de_n o_sort ha fun t h => pe_callB cr_sortG hg z hv h (by decide) (by decide) hs hp
theorem bSortSet {fs : List Ev} {k : Nat} (hc : X.calm = true) (hr : Room k X.A) (z : X.mg "sorted" = none) (z2 : X.mg "set" = none) (ha : PA X [e] (tAM X.K false fs)) (hv : bootBuiltins "sorted" = some (.builtin "sorted") := by decide +kernel) (hv2 : bootBuiltins "set" = some (.type "set") := by decide +kernel) (hg : Gl X "sorted" := by rfl) (hg2 : Gl X "set" := by rfl)
    (hs : starEach [e] X.env = (false, eval e X.env) :: starEach [] X.env := by rfl) (hp : (backTo p3 (starEach [] X.env)).any (·.1) = false := by rfl) (hs2 : starEach [.Call (.Name "set" p2) [e] [] p3] X.env = (false, eval (.Call (.Name "set" p2) [e] [] p3) X.env) :: starEach [] X.env := by rfl) (hp2 : (backTo pos (starEach [] X.env)).any (·.1) = false := by rfl) :
    PE X (.Call (.Name "sorted" p1) [.Call (.Name "set" p2) [e] [] p3] [] pos) (tV X.K (eN (n1 oSortSet) fs)) :=
  de_n o_sortSet ha fun t h => PE_wk (pe_callB (cr_sortedOfS hc) hg z hv (pa_cons (pe_callTy (cr_setOfS hc (room64' hr)) hg2 z2 hv2 h (by decide) (by decide) hs hp) pa_nil hs2) (by decide) (by decide) hs2 hp2) fun σ H Q q => q
end
end HF

/-! HF: more rules in short, for printed terms. -/
namespace HF
open PySem PySem.Spec L2
open PyProof.Rows hiding St
theorem type_list_reverse : typeOf (.builtin "list.reverse") = pure (.type "method_descriptor") := by show builtinType _ = _; rw [builtinType_eq_fast]; kernel_rfl
section
variable {X : Cx} {a b c e : Expr} {pos p1 p2 p3 p4 p5 : Pos} {f g h : Ev}
theorem callS {k : Nat} {x : Str} {st : Stmt} {fn : Fn} {ps : List Str} {es : List Expr} {fs : List Ev} (C : Cal X.prog X.w X.K X.mg X.base k x st fn ps) (hg : X.A.guards = some []) (hr : Room k X.A) (ha : PA X (e :: es) (tAM X.K false fs))
    (hb : ∀ (kV doc pm : Value) (an : Option Addr) (cdv ct : Value) (us : List Value), us.length = ps.length → bindArgs (PySem.W.fnOf x x (defArgs st) (defBody st) (defScope st) .none kV doc pm an cdv ct) ⟨us, []⟩ = pure (ps.zip us))
    (hn : fs.length = ps.length := by rfl) (hgl : Gl X x := by rfl) (hdb : (x == ("__debug__" : Str)) = false := by decide) (he : starEach (e :: es) X.env = (false, eval e X.env) :: starEach es X.env := by rfl) (hpl : (backTo pos (starEach es X.env)).any (·.1) = false := by rfl) : PE X (.Call (.Name x p1) (e :: es) [] pos) (tV X.K (eCallS fn fs)) := by
  obtain ⟨f, kV, doc, pm, an, cdv, ct, F, hm, kp⟩ := C.ex
  exact de_callS F hg hr hgl hm kp (fun s us _ hl => .of_eq (hb kV doc pm an cdv ct us hl)) hn ha hdb he hpl
theorem stWhile {body : List Stmt} {fc : Ev} {sv : Sv} (n : Nat) (hp : PassesOwn (model X.prog X.w) X.A X.env X.xe) (hc : PT X c (tT X.K fc)) (hb : PSs X body (tD X.K sv)) : PS X (.While c body [] pos) (tD X.K (sWhile n fc sv)) := ds_while n hp hc hb
theorem stAppendAt (i j : Nat) {x : Str} {es : List Expr} {fs : List Ev} {npos apos cpos spos kp : Pos} {kk : Nat} (ha : PA X (e :: es) (tAV X.K fs)) (hN : X.N[i]? = some x := by rfl) (hv : Vis X.env.scope x := by first | exact Or.inl rfl | exact Or.inr (Or.inl rfl) | exact Or.inr (Or.inr rfl)) (hd : (x == ("__debug__" : Str)) = false := by decide) (hcd : (x == ("__classdict__" : Str)) = false := by decide)
    (hs : PlainIx (.Constant (.int (j : Int)) kk kp) := by intro _ _; rfl)
    (hbase : attributeBase (.Subscript (.Name x npos) (.Constant (.int (j : Int)) kk kp) spos) "append" X.env (eval (.Subscript (.Name x npos) (.Constant (.int (j : Int)) kk kp) spos) X.env) = eval (.Subscript (.Name x npos) (.Constant (.int (j : Int)) kk kp) spos) X.env := by rfl)
    (hfew : ((backTo cpos (starEach (e :: es) X.env)).all (fun x => !x.1) && (backToKw cpos (keywordEach [] X.env)).all (fun x => x.1.isSome) && decide ((e :: es).length + ([] : List Keyword).length + (if ([] : List Keyword).isEmpty then 0 else 1) < 30)) = true := by rfl)
    (hline : (apos.endLine == cpos.line) = true := by rfl) (hst : starEach (e :: es) X.env = (false, eval e X.env) :: starEach es X.env := by rfl) (hplain : (backTo cpos (starEach es X.env)).any (·.1) = false := by rfl)
    (hsw : swapsWith (.Call (.Attribute (.Subscript (.Name x npos) (.Constant (.int (j : Int)) kk kp) spos) "append" apos) (e :: es) [] cpos) none pos.line X.env = pure false := by rfl) :
    PS X (.Expr (.Call (.Attribute (.Subscript (.Name x npos) (.Constant (.int (j : Int)) kk kp) spos) "append" apos) (e :: es) [] cpos) pos) (tD X.K (sMutAt i j mAppend fs)) :=
  ds_mutAt opM_append (pe_mA PySem.F.plainAttrs_list PySem.F.slot_list_append PySem.F.type_list_append mt_append hN hv hd hcd hs ha hbase hfew hline hst hplain) hsw
theorem stReverseAt (i j : Nat) {x : Str} {npos apos cpos spos kp : Pos} {kk : Nat} (hN : X.N[i]? = some x := by rfl) (hv : Vis X.env.scope x := by first | exact Or.inl rfl | exact Or.inr (Or.inl rfl) | exact Or.inr (Or.inr rfl)) (hd : (x == ("__debug__" : Str)) = false := by decide) (hcd : (x == ("__classdict__" : Str)) = false := by decide)
    (hs : PlainIx (.Constant (.int (j : Int)) kk kp) := by intro _ _; rfl)
    (hbase : attributeBase (.Subscript (.Name x npos) (.Constant (.int (j : Int)) kk kp) spos) "reverse" X.env (eval (.Subscript (.Name x npos) (.Constant (.int (j : Int)) kk kp) spos) X.env) = eval (.Subscript (.Name x npos) (.Constant (.int (j : Int)) kk kp) spos) X.env := by rfl)
    (hline : (apos.endLine == cpos.line) = true := by rfl)
    (hsw : swapsWith (.Call (.Attribute (.Subscript (.Name x npos) (.Constant (.int (j : Int)) kk kp) spos) "reverse" apos) [] [] cpos) none pos.line X.env = pure false := by rfl) :
    PS X (.Expr (.Call (.Attribute (.Subscript (.Name x npos) (.Constant (.int (j : Int)) kk kp) spos) "reverse" apos) [] [] cpos) pos) (tD X.K (sMutAt i j mReverse [])) :=
  ds_mutAt opM_reverse (pe_mA0 PySem.F.plainAttrs_list PySem.F.slot_list_reverse type_list_reverse mt_reverse hN hv hd hcd hs hbase hline) hsw
theorem stReverse (i : Nat) {x : Str} {npos apos cpos : Pos} (hN : X.N[i]? = some x := by rfl) (hv : Vis X.env.scope x := by first | exact Or.inl rfl | exact Or.inr (Or.inl rfl) | exact Or.inr (Or.inr rfl)) (hd : (x == ("__debug__" : Str)) = false := by decide) (hcd : (x == ("__classdict__" : Str)) = false := by decide)
    (hbase : attributeBase (.Name x npos) "reverse" X.env (eval (.Name x npos) X.env) = eval (.Name x npos) X.env := by rfl) (hline : (apos.endLine == cpos.line) = true := by rfl)
    (hsw : swapsWith (.Call (.Attribute (.Name x npos) "reverse" apos) [] [] cpos) none pos.line X.env = pure false := by rfl) :
    PS X (.Expr (.Call (.Attribute (.Name x npos) "reverse" apos) [] [] cpos) pos) (tD X.K (sMut i mReverse [])) :=
  ds_mutG opM_reverse (pe_mN0 PySem.F.plainAttrs_list PySem.F.slot_list_reverse type_list_reverse mt_reverse hN hv hd hcd hbase hline) hsw
end
end HF

/-! HF: a, b, c = .. -/
namespace HF
open PySem PySem.Spec L2
open PyProof.Rows hiding St
def putSs : List (Nat × Bool) → List D → Env → Option Env
  | [], [], r => some r
  | (i, o) :: ts, d :: ds, r => (putS o i d r).bind (putSs ts ds)
  | _, _, _ => none
def setAll : List (Nat × Bool) → List V → L2.St → L2.St
  | (i, _) :: ts, v :: vs, σ => setAll ts vs (σ.set i (some v))
  | _, _, σ => σ
theorem SR.putSs {K : PySem.W.Frag} {io : List Addr} {b : Bx} {H : Hp} : ∀ {ts : List (Nat × Bool)} {ds : List D} {vs : List V} {os : List Addr} {r r' : Env} {oss : List (List Addr)} {σ : L2.St}, SR K io b r oss σ H → RpL K H io ds vs os → os.Nodup → (∀ a ∈ os, a ∉ oss.flatten) → HF.putSs ts ds r = some r' →
    ∃ oss', SR K io b r' oss' (setAll ts vs σ) H ∧ ∀ a ∈ oss'.flatten, a ∈ os ∨ a ∈ oss.flatten
  | [], [], _, _, r, _, oss, σ, S, .nil, _, _, e => by
    cases e
    exact ⟨oss, S, fun a ha => .inr ha⟩
  | [], d :: ds, _, _, r, _, oss, σ, S, _, _, _, e => by cases e
  | (i, o) :: ts, [], _, _, r, _, oss, σ, S, _, _, _, e => by cases e
  | (i, o) :: ts, d :: ds, _, _, r, r', oss, σ, S, .cons (os := o1) (ps := o2) x rl, n, ap, e => by
    have e' : (HF.putS o i d r).bind (HF.putSs ts ds) = some r' := e
    cases h1 : HF.putS o i d r with
    | none => rw [h1] at e'; cases e'
    | some r1 =>
      rw [h1] at e'
      obtain ⟨n1, n2, n3⟩ := List.nodup_append.mp n
      obtain ⟨p1, S2, m2⟩ := S.putS x n1 (fun a ha => ap a (List.mem_append_left _ ha)) h1
      obtain ⟨p2, S3, m3⟩ := SR.putSs S2 rl n2 (fun a ha hm => (m2 a hm).elim (fun z => n3 a z a ha rfl) (ap a (List.mem_append_right _ ha))) e'
      refine ⟨p2, S3, fun a ha => ?_⟩
      rcases m3 a ha with z | z
      · exact .inl (List.mem_append_right _ z)
      · exact (m2 a z).imp (fun y => List.mem_append_left _ y) id
def sParN (ts : List (Nat × Bool)) (fs : List Ev) : Sv := fun r => bnd (evs fs r) fun ds => match putSs ts ds r with
  | some r' => ret (.nx, r')
  | none => fail
def sUnpN (ts : List (Nat × Bool)) (f : Ev) : Sv := fun r => bnd (f r) fun d => match d with
  | .tup ds => match putSs ts ds r with
    | some r' => ret (.nx, r')
    | none => fail
  | _ => fail
section
variable {X : Cx}
theorem len3 {ts : List (Nat × Bool)} : ∀ {ds : List D} {r r' : Env}, putSs ts ds r = some r' → ds.length = ts.length := by
  induction ts with
  | nil => intro ds r r' e; cases ds with
    | nil => rfl
    | cons _ _ => cases e
  | cons t ts ih => intro ds r r' e; cases ds with
    | nil => obtain ⟨i, o⟩ := t; cases e
    | cons d ds =>
      obtain ⟨i, o⟩ := t
      have e' : (putS o i d r).bind (putSs ts ds) = some r' := e
      cases h1 : putS o i d r with
      | none => rw [h1] at e'; cases e'
      | some r1 => rw [h1] at e'; simpa using ih e'
theorem ds_par3 {i j l : Nat} {oi oj ol : Bool} {x y z : Str} {a b c : Expr} {fs : List Ev} {px py pz pt pos : Pos} {kt k2 pt2} (hc : X.calm = true) (hN : X.N.Nodup) (hi : X.N[i]? = some x) (hj : X.N[j]? = some y) (hl : X.N[l]? = some z) (hij : i ≠ j) (hil : i ≠ l) (hjl : j ≠ l)
    (hx : X.env.scope.names.lookup x = some .local) (hy : X.env.scope.names.lookup y = some .local) (hz : X.env.scope.names.lookup z = some .local) (ha : PA X [a, b, c] (tAV X.K fs))
    (hw : swappedStores [.Tuple [.Name x px, .Name y py, .Name z pz] kt pt] (.Tuple [a, b, c] k2 pt2) X.env = pure (some [x, y, z]))
    (hs : swapsWithSole [.Tuple [.Name x px, .Name y py, .Name z pz] kt pt] (.Tuple [a, b, c] k2 pt2) pos.line X.env = pure false) :
    PS X (.Assign [.Tuple [.Name x px, .Name y py, .Name z pz] kt pt] (.Tuple [a, b, c] k2 pt2) pos) (tD X.K (sParN [(i, oi), (j, oj), (l, ol)] fs)) :=
  PS_wk (ps_par3 hc hN hi hj hl hij hil hjl hx hy hz ha hw hs) fun D σ H ⟨io0, H0, io, b, r, oss, A, fl, r', b', e, q⟩ => by
    obtain ⟨ds, b1, e1, e2⟩ := bnd_some e
    refine ⟨io, b, r, oss, A.sr, ds, b1, e1, fun vs H1 io1 os k1 S1 rl n f => ?_⟩
    cases hp : putSs [(i, oi), (j, oj), (l, ol)] ds r with
    | none => rw [hp] at e2; cases e2
    | some r2 =>
      rw [hp] at e2
      cases e2
      have hl3 := len3 hp
      obtain ⟨p2, S3, m3⟩ := S1.putSs rl n (A.sr.apart f) hp
      have hv : vs.length = 3 := by rw [← rl.length, hl3]; rfl
      match vs, hv, S3 with
      | [u, v, w], _, S3 =>
        refine ⟨u, v, w, rfl, q _ H1 io1 p2 S3 (A.kp.trans k1 A.bl) (k1.kf A.sr.bl) fun a ha => ?_⟩
        exact (m3 a ha).elim (fun z => fresh_back A.kp A.sr (f a z)) (A.fr a)
theorem ds_unp3 {i j l : Nat} {oi oj ol : Bool} {x y z : Str} {e : Expr} {f : Ev} {px py pz pt pos : Pos} {kt : Nat} (hc : X.calm = true) (hN : X.N.Nodup) (he : PE X e (tV X.K f)) (hi : X.N[i]? = some x) (hj : X.N[j]? = some y) (hl : X.N[l]? = some z) (hx : Loc X.env.scope x) (hy : Loc X.env.scope y) (hz : Loc X.env.scope z)
    (hf : X.fn x = true ∨ X.env.scope.names.lookup x = some .local) (hf2 : X.fn y = true ∨ X.env.scope.names.lookup y = some .local) (hf3 : X.fn z = true ∨ X.env.scope.names.lookup z = some .local)
    (hs : swapsWithSole [.Tuple [.Name x px, .Name y py, .Name z pz] kt pt] e pos.line X.env = pure false) (hw : swappedStores [.Tuple [.Name x px, .Name y py, .Name z pz] kt pt] e X.env = pure none) (h1 : (assignEach [.Tuple [.Name x px, .Name y py, .Name z pz] kt pt] X.env).map (·.2) = [assign (.Tuple [.Name x px, .Name y py, .Name z pz] kt pt) X.env]) :
    PS X (.Assign [.Tuple [.Name x px, .Name y py, .Name z pz] kt pt] e pos) (tD X.K (sUnpN [(i, oi), (j, oj), (l, ol)] f)) :=
  PS_wk (ps_asg he (pg_tup hc (pgs_cons (pg_name hN hi hx hf) (pgs_cons (pg_name hN hj hy hf2) (pgs_cons (pg_name hN hl hz hf3) pgs_nil)))) hs hw h1) fun D σ H ⟨io0, H0, io, b, r, oss, A, fl, r', b', e, q⟩ => by
    obtain ⟨d0, b1, e1, e2⟩ := bnd_some e
    refine ⟨io, b, r, oss, A.sr, d0, b1, e1, fun v0 H1 io1 os k1 S1 rx n fr => ?_⟩
    match d0, e2, rx with
    | .tup ds, e2, rx =>
      dsimp only at e2
      cases hp : putSs [(i, oi), (j, oj), (l, ol)] ds r with
      | none => rw [hp] at e2; cases e2
      | some r2 =>
        rw [hp] at e2
        cases e2
        have hl3 := len3 hp
        obtain ⟨a, vs, rfl, hq, rl⟩ := rx.tup_inv
        obtain ⟨p2, S3, m3⟩ := S1.putSs rl n (A.sr.apart fr) hp
        have hv : vs.length = 3 := by rw [← rl.length, hl3]; rfl
        match vs, hv, S3, hq with
        | [u, v, w], _, S3, hq =>
          refine ⟨a, _, rfl, hq, rfl, u, _, rfl, v, _, rfl, w, _, rfl, rfl, q _ H1 io1 p2 S3 (A.kp.trans k1 A.bl) (k1.kf A.sr.bl) fun c hc => ?_⟩
          exact (m3 c hc).elim (fun z => fresh_back A.kp A.sr (fr c z)) (A.fr c)
variable {a b c e : Expr} {pos p1 p2 p3 p4 p5 : Pos} {f g h : Ev}
theorem stPar3 (i : Nat) (oi : Bool) (j : Nat) (oj : Bool) (l : Nat) (ol : Bool) {x y z : Str} {fs : List Ev} {px py pz pt pt2 : Pos} {kt k2 : Nat} (hc : X.calm = true) (hN : X.N.Nodup) (ha : PA X [a, b, c] (tAV X.K fs)) (hi : X.N[i]? = some x := by rfl) (hj : X.N[j]? = some y := by rfl) (hl : X.N[l]? = some z := by rfl) (hij : i ≠ j := by decide) (hil : i ≠ l := by decide) (hjl : j ≠ l := by decide)
    (hx : X.env.scope.names.lookup x = some .local := by rfl) (hy : X.env.scope.names.lookup y = some .local := by rfl) (hz : X.env.scope.names.lookup z = some .local := by rfl)
    (hw : swappedStores [.Tuple [.Name x px, .Name y py, .Name z pz] kt pt] (.Tuple [a, b, c] k2 pt2) X.env = pure (some [x, y, z]) := by rfl) (hs : swapsWithSole [.Tuple [.Name x px, .Name y py, .Name z pz] kt pt] (.Tuple [a, b, c] k2 pt2) pos.line X.env = pure false := by rfl) :
    PS X (.Assign [.Tuple [.Name x px, .Name y py, .Name z pz] kt pt] (.Tuple [a, b, c] k2 pt2) pos) (tD X.K (sParN [(i, oi), (j, oj), (l, ol)] fs)) := ds_par3 hc hN hi hj hl hij hil hjl hx hy hz ha hw hs
theorem stUnp3 (i : Nat) (oi : Bool) (j : Nat) (oj : Bool) (l : Nat) (ol : Bool) {x y z : Str} {px py pz pt : Pos} {kt : Nat} (hc : X.calm = true) (hN : X.N.Nodup) (he : PE X e (tV X.K f)) (hi : X.N[i]? = some x := by rfl) (hj : X.N[j]? = some y := by rfl) (hl : X.N[l]? = some z := by rfl)
    (hx : Loc X.env.scope x := by first | exact Or.inl rfl | exact Or.inr rfl) (hy : Loc X.env.scope y := by first | exact Or.inl rfl | exact Or.inr rfl) (hz : Loc X.env.scope z := by first | exact Or.inl rfl | exact Or.inr rfl)
    (hf : X.fn x = true ∨ X.env.scope.names.lookup x = some .local := by first | exact .inl rfl | exact .inr rfl) (hf2 : X.fn y = true ∨ X.env.scope.names.lookup y = some .local := by first | exact .inl rfl | exact .inr rfl) (hf3 : X.fn z = true ∨ X.env.scope.names.lookup z = some .local := by first | exact .inl rfl | exact .inr rfl)
    (hs : swapsWithSole [.Tuple [.Name x px, .Name y py, .Name z pz] kt pt] e pos.line X.env = pure false := by rfl) (hw : swappedStores [.Tuple [.Name x px, .Name y py, .Name z pz] kt pt] e X.env = pure none := by rfl) (h1 : (assignEach [.Tuple [.Name x px, .Name y py, .Name z pz] kt pt] X.env).map (·.2) = [assign (.Tuple [.Name x px, .Name y py, .Name z pz] kt pt) X.env] := by rfl) :
    PS X (.Assign [.Tuple [.Name x px, .Name y py, .Name z pz] kt pt] e pos) (tD X.K (sUnpN [(i, oi), (j, oj), (l, ol)] f)) := ds_unp3 hc hN he hi hj hl hx hy hz hf hf2 hf3 hs hw h1
end
end HF

/-! HF: a dict's item stored, lists popped, dicts as lists, walks from the end. -/
namespace HF
open PySem PySem.Spec L2
open PyProof.Rows hiding St
theorem Rp.dctT {K : PySem.W.Frag} {H : Hp} {io : List Addr} {kds : List (DK × D)} {v : V} {os : List Addr} (h : Rp K H io (.dct true kds) v os) : ∃ a u kvs ps, v = .ref a ∧ os = a :: ps ∧ H a = some u ∧ IsDct u kvs ∧ RpK K H io kds kvs ps := by
  cases h with
  | dctO h e r => exact ⟨_, _, _, _, rfl, rfl, h, e, r⟩
/-- name[k] = v: a name's own dict, nothing in it a name's own -/
def sPut (i : Nat) (fk fv : Ev) : Sv := fun r => bnd (fv r) fun v => bnd (fk r) fun k => match r[i]?, keyOf k with
  | some (.ow (.dct true kvs)), some q => if stillK kvs && decide (kvs.length < sizeLine) then ret (.nx, r.set i (.ow (.dct true (putD kvs q v)))) else fail
  | _, _ => fail
section
variable {X : Cx}
theorem ds_put {i : Nat} {x : Str} {ei ev : Expr} {fk fv : Ev} {npos spos pos : Pos} (hu : X.A.units + 1 < cLine) (hN : X.N[i]? = some x) (hv : Vis X.env.scope x) (hd : (x == ("__debug__" : Str)) = false) (hcd : (x == ("__classdict__" : Str)) = false) (he : PE X ev (tS X.K fv)) (hk : PE X ei (tM X.K false fk))
    (hs : swapsWith ev (some (.Subscript (.Name x npos) ei spos)) pos.line X.env = pure false) : PS X (.Assign [.Subscript (.Name x npos) ei spos] ev pos) (tD X.K (sPut i fk fv)) :=
  PS_wk (ps_dput hu (pe_var hN hv hd hcd) hk he hs) fun D σ H ⟨io0, H0, io, b, r, oss, A, fl, r', b', e, q⟩ => by
    obtain ⟨dv, b1, e1, e2⟩ := bnd_some e
    obtain ⟨dk, b2, e3, e4⟩ := bnd_some e2
    cases hr : r[i]? with
    | none => rw [hr] at e4; cases e4
    | some sl =>
      rw [hr] at e4
      rcases A.sr.sl.get hr with rfl | ⟨d0, v, rfl, hv', hx⟩ | ⟨d0, v, os, rfl, hv', ho', hx⟩
      · cases e4
      · cases e4
      · match d0, e4, hx, hr with
        | .dct true kvs, e4, hx, hr =>
        cases hq : keyOf dk with
        | none => rw [hq] at e4; cases e4
        | some key =>
        rw [hq] at e4
        dsimp only at e4
        split at e4
        · rename_i hc
          rw [Bool.and_eq_true, decide_eq_true_iff] at hc
          cases e4
          refine ⟨io, b, r, oss, A.sr, dv, b1, e1, fun y H1 io1 k1 S1 ry => ⟨v, hv', io1, b1, r, oss, S1, dk, _, e3, fun z H2 io2 os2 k2 S2 rz _ => ?_⟩⟩
          obtain ⟨kk, rfl, rfl, okk⟩ := rz.keyK hq
          have k12 := k1.trans k2 A.sr.bl
          have hx2 := hx.keep k12 A.sr.bl
          obtain ⟨mo, no⟩ := mem_flat ho'
          have nx := no A.sr.od
          obtain ⟨a, u, kvV, ps, rfl, rfl, hA, hI, rk⟩ := hx2.dctT
          · obtain rfl := rk.still_nil hc.1
            obtain ⟨ks, rfl, rfl⟩ := hI
            have hm : a ∈ oss.flatten := mo a List.mem_cons_self
            obtain ⟨nio, u', eu, mu⟩ := S2.sl.ownd S2.bl a hm
            have m : Mut (H2 a) := by rw [hA]; trivial
            have rl := rk.len
            rw [List.length_map] at rl
            have y2 := (ry.keep k2 S1.bl)
            have put := RpK.put okk y2 rk
            refine ⟨a, L2.upd H2 a (.dK (putK ks kk y)), rfl, .inl ⟨ks, kk, hA, rfl, by rw [← rl]; exact hc.2, rfl⟩, ?_⟩
            have put' := put.upd (o := .dK (putK ks kk y)) m fun z => nomatch z
            have rx' : Rp X.K (L2.upd H2 a (.dK (putK ks kk y))) io2 (.dct true (putD kvs (keyDK kk) dv)) (.ref a) [a] := .dctO upd_same ⟨_, rfl, rfl⟩ put'
            have SE := S2.sl.setU m A.sr.od hr hv' ho' List.mem_cons_self rx'
            refine q σ _ io2 (oss.set i [a]) ⟨S2.len, fun n c zs g1 g2 => upd_oth (S2.bx n c zs g1 g2) fun z => nio (z ▸ List.mem_of_getElem? g1), S2.nd, SE, ?_⟩ ?_ ((k12.kf A.sr.bl).trans (Kf.upd m)) ?_
            · exact nodup_setU (ps := []) (by simp : [a].Nodup) (fun c hc => .inl hc) A.sr.od ho' (fun a ha => by cases ha)
            · have kk' := A.kp.trans k12 A.bl
              refine ⟨fun c o e n => ?_, kk'.pre, kk'.new⟩
              rw [upd_ne (fun z => by subst z; rw [A.fr c hm] at e; cases e)]
              exact kk'.keep c o e n
            · refine fun c hc => (mem_set_flat hc).elim (fun z => ?_) (A.fr c)
              rw [List.mem_singleton.mp z]; exact A.fr a hm
        · cases e4
/-- name = list.pop(0), nothing in the list a name's own -/
def sPop0 (i j : Nat) : Sv := fun r => match r[j]? with
  | some (.ow (.lst true (d :: ds))) => if stillL (d :: ds) then ret (.nx, (r.set j (.ow (.lst true ds))).set i (.sh d)) else fail
  | _ => fail
theorem ds_pop0 {i j : Nat} {x y : Str} {npos apos cpos kp pos pos' : Pos} {kk : Nat} (hN : X.N.Nodup) (hi : X.N[i]? = some x) (hx : Loc X.env.scope x) (hf : X.fn x = true ∨ X.env.scope.names.lookup x = some .local)
    (hj : X.N[j]? = some y) (hv : Vis X.env.scope y) (hd : (y == ("__debug__" : Str)) = false) (hcd : (y == ("__classdict__" : Str)) = false)
    (hE : ∀ to t, PE X (.Name y npos) to → PA X [.Constant (.int 0) kk kp] t → PE X (.Call (.Attribute (.Name y npos) "pop" apos) [.Constant (.int 0) kk kp] [] cpos) (tBM X.K "list" rPopAt to t))
    (hs : swapsWith (.Call (.Attribute (.Name y npos) "pop" apos) [.Constant (.int 0) kk kp] [] cpos) (some (.Name x pos')) pos.line X.env = pure false) (hst : starEach [.Constant (.int 0) kk kp] X.env = (false, eval (.Constant (.int 0) kk kp) X.env) :: starEach [] X.env) :
    PS X (.Assign [.Name x pos'] (.Call (.Attribute (.Name y npos) "pop" apos) [.Constant (.int 0) kk kp] [] cpos) pos) (tD X.K (sPop0 i j)) :=
  PS_wk (ps_set hN hi hx (hE _ _ (pe_var hj hv hd hcd) (pa_cons pe_int pa_nil hst)) hs hf) fun D σ H ⟨io0, H0, io, b, r, oss, A, fl, r', b', e, q⟩ => by
    replace e : (match r[j]? with | some (.ow (.lst true (d :: ds))) => if stillL (d :: ds) then (ret (Fl.nx, (r.set j (.ow (.lst true ds))).set i (.sh d)) : M (Fl × Env)) else fail | _ => fail) b = some ((fl, r'), b') := e
    cases hr : r[j]? with
    | none => rw [hr] at e; cases e
    | some sl =>
      rw [hr] at e
      rcases A.sr.sl.get hr with rfl | ⟨d0, v, rfl, hv', hx'⟩ | ⟨d0, v, os, rfl, hv', ho', hx'⟩
      · cases e
      · cases e
      · match d0, e, hx', hr with
        | .lst true (d :: ds), e, hx', hr =>
        dsimp only at e
        split at e
        · rename_i hc
          cases e
          obtain ⟨a, vs, qs, rfl, rfl, hA, na, rl⟩ := hx'.lstT
          obtain rfl := rl.still_nil hc
          obtain ⟨mo, no⟩ := mem_flat ho'
          have hm : a ∈ oss.flatten := mo a List.mem_cons_self
          obtain ⟨nio, u', eu, mu⟩ := A.sr.sl.ownd A.sr.bl a hm
          have m : Mut (H a) := by rw [hA]; trivial
          obtain ⟨v0, ws, rfl, x0, rl⟩ := rl.one
          have x0' := x0.upd (o := .lst ws) m fun z => nomatch z
          have rl' := rl.upd (o := .lst ws) m fun z => nomatch z
          refine ⟨_, hv', .inl ⟨rfl, _, .inl (.inl hA)⟩, a, v0 :: ws, 0, 0, v0, rfl, rfl, hA, by decide, by decide, ?_, rfl, ?_⟩
          · show seqIndex? 0 (ws.length + 1) = some 0
            have := (ixN_seq (n := ws.length + 1) (i := 0) (j := 0) (by unfold ixN; rw [if_pos (by decide), if_pos (by omega)]; rfl)).1
            exact this
          · have rx' : Rp X.K (L2.upd H a (.lst ws)) io (.lst true ds) (.ref a) [a] := .lstO upd_same na rl'
            have SE := A.sr.sl.setU m A.sr.od hr hv' ho' List.mem_cons_self rx'
            have S2 : SR X.K io _ (r.set j (.ow (.lst true ds))) (oss.set j [a]) σ (L2.upd H a (.lst ws)) := ⟨A.sr.len, fun n c zs g1 g2 => upd_oth (A.sr.bx n c zs g1 g2) fun z => nio (z ▸ List.mem_of_getElem? g1), A.sr.nd, SE, nodup_setU (ps := []) (by simp : [a].Nodup) (fun c hc => .inl hc) A.sr.od ho' (fun a ha => by cases ha)⟩
            obtain ⟨oss3, S3, ho3⟩ := S2.setF (i := i) x0'
            refine q _ _ io oss3 S3 ?_ (Kf.upd m) fun c hc => ?_
            · refine ⟨fun c o e n => ?_, A.kp.pre, A.kp.new⟩
              rw [upd_ne (fun z => by subst z; rw [A.fr c hm] at e; cases e)]
              exact A.kp.keep c o e n
            · exact (mem_set_flat (ho3 c hc)).elim (fun z => by rw [List.mem_singleton.mp z]; exact A.fr a hm) (A.fr c)
        · cases e
end
/-! ### dicts as lists of their keys -/
def oListA (x : D) : Option D := match x with
  | .dct true kvs => some (.lst true (kvs.map fun p => keyD p.1))
  | x => oList x
section
variable {X : Cx}
theorem CallR.or {f : Value} {r r' : List V → Hp → VK → Prop} (h : CallR X f r) (h' : CallR X f r') : CallR X f (fun xs H Q => r xs H Q ∨ r' xs H Q) := fun pins s σ H xs us Q I rv q => q.elim (h pins s σ H xs us Q I rv) (h' pins s σ H xs us Q I rv)
theorem RpK.klist {K : PySem.W.Frag} {H : Hp} {io : List Addr} : ∀ {ds : List (DK × D)} {ks : List (Key × V)} {os : List Addr}, RpK K H io ds (ks.map fun p => (keyDK p.1, p.2)) os → RpL K H io (ds.map fun p => keyD p.1) (ks.map fun kv => kV kv.1) []
  | [], [], _, _ => .nil
  | [], _ :: _, _, h => nomatch h
  | _ :: _, [], _, h => nomatch h
  | (k, d) :: ds, (kk, v) :: ks, _, h => by
    generalize e : (((kk, v) :: ks).map fun p : Key × V => (keyDK p.1, p.2)) = vs at h
    cases h with
    | cons hk hx hr =>
      injection e with e1 e2
      injection e1 with e1 e3
      subst e1 e3
      have ih : RpL K H io (ds.map fun p => keyD p.1) (ks.map fun kv => kV kv.1) [] := RpK.klist (by rw [e2]; exact hr)
      refine .cons (os := []) (ps := []) ?_ ih
      cases kk with
      | inl i => exact .int i
      | inr z => exact .str hk
theorem o_listA : OpN X.K true (n1 oListA) (fun xs H Q => (∃ p ys, xs = [.ref p] ∧ (SqL X.K H p ys ∨ SqT X.K H p ys) ∧ ∀ l, H l = none → Q (.ref l) (L2.upd H l (.lst ys))) ∨ rListD xs H Q) := OpN.one fun io H x dx d os Q bl rx m e q => by
  cases dx with
  | dct o kvs =>
    cases o with
    | false => cases e
    | true =>
      cases e
      cases rx with
      | dctO hA hI rk =>
        obtain ⟨ks, rfl, rfl⟩ := hI
        exact .inr ⟨_, ks, rfl, hA, fun p hp => give_lst bl rfl rk.klist q p hp⟩
  | lst o xs =>
    obtain ⟨a, vs, rfl, hl, rl⟩ := rx.lst_still (m rfl)
    cases e
    exact .inl ⟨a, vs, rfl, .inl (.inl hl), give_lst bl rfl rl q⟩
  | tup xs =>
    obtain ⟨a, vs, rfl, hl, rl⟩ := rx.tup_still (m rfl)
    cases e
    exact .inl ⟨a, vs, rfl, .inr hl, give_lst bl rfl rl q⟩
  | _ => cases e
/-- sorted(d), the keys texts -/
def txtKeys : List (DK × D) → Option (List Str)
  | [] => some []
  | (.s x, _) :: r => (txtKeys r).map (x :: ·)
  | _ => none
def oSortA (x : D) : Option D := match x with
  | .dct _ kvs => match txtKeys kvs with
    | some ks => if ks.length < 64 then some (.lst true ((sortT ks).map D.str)) else none
    | none => none
  | x => oSort x
theorem txtKeys_ks {K : PySem.W.Frag} {H : Hp} {io : List Addr} : ∀ {ds : List (DK × D)} {ks : List (Key × V)} {os : List Addr} {ys : List Str}, RpK K H io ds (ks.map fun p => (keyDK p.1, p.2)) os → txtKeys ds = some ys → ks.map (·.1) = ys.map Sum.inr ∧ ∀ y ∈ ys, PyData.strOk y = true
  | [], [], _, _, _, e => by cases e; exact ⟨rfl, fun _ z => nomatch z⟩
  | [], _ :: _, _, _, h, _ => nomatch h
  | _ :: _, [], _, _, h, _ => nomatch h
  | (k, d) :: ds, (kk, v) :: ks, _, ys, h, e => by
    generalize e0 : (((kk, v) :: ks).map fun p : Key × V => (keyDK p.1, p.2)) = vs at h
    cases h with
    | cons hk hx hr =>
      injection e0 with e1 e2
      injection e1 with e1 e3
      subst e1 e3
      cases kk with
      | inl i => cases e
      | inr z =>
        have e' : (txtKeys ds).map (z :: ·) = some ys := e
        cases hr' : txtKeys ds with
        | none => rw [hr'] at e'; cases e'
        | some zs =>
          rw [hr'] at e'
          cases e'
          obtain ⟨h1, h2⟩ := txtKeys_ks (ds := ds) (ks := ks) (by rw [e2]; exact hr) hr'
          exact ⟨by rw [List.map_cons, h1]; rfl, fun y hy => (List.mem_cons.mp hy).elim (fun q => q ▸ hk) (h2 y)⟩
theorem o_sortA (hc : X.calm = true) : OpN X.K false (n1 oSortA) (fun xs H Q => rSortG X.K xs H Q ∨ (∃ (a : Addr) (kvs : List (Key × V)) (ks : List Str), xs = [.ref a] ∧ Rd H a (.dK kvs) ∧ kvs.map (·.1) = ks.map Sum.inr ∧ ks.length < 64 ∧
    ∀ ys p, ys.Perm ks → sortedS ys = true → H p = none → Q (.ref p) (L2.upd H p (.lst (ys.map V.str))))) := OpN.one fun io H x dx d os Q bl rx m e q => by
  have gen : oSort dx = some d → rSortG X.K [x] H Q := fun e' => by
    have := o_sort (X := X) io H [x] [dx] d (os ++ []) Q bl (.cons rx .nil) (fun z => nomatch z) e' q
    exact this
  cases dx with
  | dct o kvs =>
    have e' : (match txtKeys kvs with | some ks => if ks.length < 64 then some (D.lst true ((sortT ks).map D.str)) else none | none => none) = some d := e
    cases hk : txtKeys kvs with
    | none => rw [hk] at e'; cases e'
    | some ks =>
      rw [hk] at e'
      dsimp only at e'
      split at e'
      · rename_i hl
        cases e'
        refine .inr ?_
        have fin : ∀ (a : Addr) (kv : List (Key × V)) (os' : List Addr), x = .ref a → Rd H a (.dK kv) → RpK X.K H io kvs (kv.map fun p => (keyDK p.1, p.2)) os' → _ := fun a kv os' ex hR rk => (⟨a, kv, ks, by rw [ex], hR, (txtKeys_ks rk hk).1, hl, fun ys p pm hs hp => by
          obtain rfl := sortT_of pm hs
          exact give_lst bl rfl (RpL.ofStrs fun b hb => (txtKeys_ks rk hk).2 b (pm.mem_iff.mp hb)) q p hp⟩ : ∃ (a : Addr) (kvs : List (Key × V)) (ks : List Str), [x] = [.ref a] ∧ Rd H a (.dK kvs) ∧ kvs.map (·.1) = ks.map Sum.inr ∧ ks.length < 64 ∧ ∀ ys p, ys.Perm ks → sortedS ys = true → H p = none → Q (.ref p) (L2.upd H p (.lst (ys.map V.str))))
        cases rx with
        | dctO hA hI rk => obtain ⟨kv, rfl, rfl⟩ := hI; exact fin _ _ _ rfl (.inl hA) rk
        | dctS hA hI rk => obtain ⟨kv, rfl, rfl⟩ := hI; exact fin _ _ _ rfl (.inr ⟨_, hA⟩) rk
      · cases e'
  | non => exact .inl (gen e)
  | bl _ => exact .inl (gen e)
  | int _ => exact .inl (gen e)
  | str _ => exact .inl (gen e)
  | lst _ _ => exact .inl (gen e)
  | tup _ => exact .inl (gen e)
  | box _ => exact .inl (gen e)
  | scr _ => exact .inl (gen e)
/-! ### from the end -/
theorem Feed.revL {K : PySem.W.Frag} {io : List Addr} {H : Hp} {a : Addr} {vs : List V} {ds : List D} (h : LS H a vs) (r : RpL K H io ds vs []) : Feed K (Itv K a vs.length) io H ds.reverse := by
  have w : Walk (Itv K a vs.length) vs.length _ _ := walk_rev (K := K) (a := a) (xs := vs)
  unfold Feed
  rw [List.length_reverse, r.length]
  refine w.mono (fun H' ⟨io', k⟩ => ?_) fun i H' x H'' hi ⟨_, _⟩ y => ?_
  · obtain ⟨o, e⟩ := h
    exact .inl (.inr ⟨o, k.st a _ e fun z => z⟩)
  · obtain ⟨rfl, e⟩ := y
    obtain ⟨d, e', rx⟩ := r.get0 e
    refine ⟨fun _ _ z => z, d, ?_, fun io' k _ => rx.keepS k rfl⟩
    rw [List.getElem?_reverse (by rw [r.length]; exact hi), r.length]; exact e'
end
end HF

/-! HF: dicts and walks from the end, in short. -/
namespace HF
open PySem PySem.Spec L2
open PyProof.Rows hiding St
open RT
section
variable {X : Cx} {tg : Expr} {a b c e : Expr} {pos p1 p2 p3 p4 p5 : Pos} {f g h : Ev}
theorem walk_revT {K : PySem.W.Frag} {a : Addr} {xs : List V} : Walk (ItvT K a xs.length) xs.length (fun H => SqT K H a xs) (fun i H x H' => H' = H ∧ xs[xs.length - 1 - i]? = some x) :=
  ⟨fun i _ hi q => ⟨hi, xs, xs[xs.length - 1 - i]'(by omega), q, by rw [List.getElem?_eq_getElem (by omega)]⟩, fun _ _ => Nat.le_refl _, fun _ _ _ _ _ q y => ⟨y.1, y.2 xs q⟩⟩
theorem Feed.revT {K : PySem.W.Frag} {io : List Addr} {H : Hp} {a : Addr} {vs : List V} {ds : List D} (h : SqT K H a vs) (r : RpL K H io ds vs []) : Feed K (ItvT K a vs.length) io H ds.reverse := by
  have w : Walk (ItvT K a vs.length) vs.length _ _ := walk_revT (K := K) (a := a) (xs := vs)
  unfold Feed
  rw [List.length_reverse, r.length]
  refine w.mono (fun H' ⟨io', k⟩ => k.sqT h) fun i H' x H'' hi ⟨_, _⟩ y => ?_
  obtain ⟨rfl, e⟩ := y
  obtain ⟨d, e', rx⟩ := r.get0 e
  refine ⟨fun _ _ z => z, d, ?_, fun io' k _ => rx.keepS k rfl⟩
  rw [List.getElem?_reverse (by rw [r.length]; exact hi), r.length]; exact e'
def itRev (x : D) : Option (List D) := match x with
  | .lst _ xs => some xs.reverse
  | .tup xs => some xs.reverse
  | _ => none
theorem wRev (z : X.mg "reversed" = none) (he : PE X e (tS X.K f)) (hg : Gl X "reversed" := by rfl) (hs : starEach [e] X.env = (false, eval e X.env) :: starEach [] X.env := by rfl) : PI X tg (.Call (.Name "reversed" p1) [e] [] pos) (tI X.K (itD itRev f)) :=
  PI_wk (pi_revA hg z he hs) fun σ H R ⟨io, b, r, oss, S, ds, b', e, q⟩ => by
    obtain ⟨d, b1, e1, e2⟩ := bnd_some e
    obtain ⟨e3, rfl⟩ := lift_some e2
    refine ⟨io, b, r, oss, S, d, b', e1, fun v H' io' k S' x => ?_⟩
    cases d with
    | lst o xs =>
      cases e3
      obtain ⟨rfl, a, vs, rfl, hl, rl⟩ := x.lstF
      exact ⟨a, vs, rfl, .inl ⟨hl.sq, q _ H' io' k S' (.revL hl rl)⟩⟩
    | tup xs =>
      cases e3
      obtain ⟨a, vs, rfl, hl, rl⟩ := x.tup_inv
      exact ⟨a, vs, rfl, .inr ⟨hl, q _ H' io' k S' (.revT hl rl)⟩⟩
    | _ => cases e3
def oIsNot (x y : D) : Option D := match y with
  | .non => oNotN x
  | _ => none
theorem o_isnot : Op2 X.K false false oIsNot (fun x y H Q => y = .non ∧ Q (.bl (!decide (x = .non))) H) := by
  intro io H x y dx dy d os ps Q bl rx ry _ _ e q
  cases dy <;> first | cases e | skip
  cases ry
  refine ⟨rfl, ?_⟩
  cases rx <;> cases e <;> exact give_bl rfl q
theorem xIsNot (ha : PE X a (tM X.K false f)) (hb : PE X b (tM X.K false g)) : PE X (.Compare a [.IsNot] [b] pos) (tV X.K (e2 oIsNot f g)) := de_cmp o_isnot op_notN ha hb (nomark _)
theorem tIsNot (ha : PE X a (tM X.K false f)) (hb : PE X b (tM X.K false g)) : PT X (.Compare a [.IsNot] [b] pos) (tT X.K (e2 oIsNot f g)) := dt_cmp o_isnot op_notN ha hb (nomark _)
theorem bListA {es : List Expr} {fs : List Ev} (hc : X.calm = true) (z : X.mg "list" = none) (ha : PA X (e :: es) (tAM X.K true fs)) (hv : bootBuiltins "list" = some (.type "list") := by decide +kernel) (hg : Gl X "list" := by rfl) (hs : starEach (e :: es) X.env = (false, eval e X.env) :: starEach es X.env := by rfl) (hp : (backTo pos (starEach es X.env)).any (·.1) = false := by rfl) : PE X (.Call (.Name "list" p1) (e :: es) [] pos) (tV X.K (eN (n1 oListA) fs)) :=
  de_callT o_listA (call_list_of.or (call_list_dK hc)) hg z hv ha (by decide) (by decide) hs hp
theorem bSortA {es : List Expr} {fs : List Ev} (hc : X.calm = true) (z : X.mg "sorted" = none) (ha : PA X (e :: es) (tAM X.K false fs)) (hv : bootBuiltins "sorted" = some (.builtin "sorted") := by decide +kernel) (hg : Gl X "sorted" := by rfl) (hs : starEach (e :: es) X.env = (false, eval e X.env) :: starEach es X.env := by rfl) (hp : (backTo pos (starEach es X.env)).any (·.1) = false := by rfl) : PE X (.Call (.Name "sorted" p1) (e :: es) [] pos) (tV X.K (eN (n1 oSortA) fs)) :=
  de_n (o_sortA hc) ha fun t h => pe_callB (cr_sortG.or (call_sortedD hc)) hg z hv h (by decide) (by decide) hs hp
theorem stPut (i : Nat) {x : Str} {ei ev : Expr} {fk fv : Ev} {npos spos : Pos} {k : Nat} (hr : Room k X.A) (he : PE X ev (tS X.K fv)) (hk : PE X ei (tM X.K false fk)) (hN : X.N[i]? = some x := by rfl) (hv : Vis X.env.scope x := by first | exact Or.inl rfl | exact Or.inr (Or.inl rfl) | exact Or.inr (Or.inr rfl)) (hd : (x == ("__debug__" : Str)) = false := by decide) (hcd : (x == ("__classdict__" : Str)) = false := by decide)
    (hs : swapsWith ev (some (.Subscript (.Name x npos) ei spos)) pos.line X.env = pure false := by rfl) : PS X (.Assign [.Subscript (.Name x npos) ei spos] ev pos) (tD X.K (sPut i fk fv)) := ds_put (by have := hr.un; omega) hN hv hd hcd he hk hs
theorem stPop0 (i j : Nat) {x y : Str} {npos apos cpos kp pos' : Pos} {kk : Nat} (hN : X.N.Nodup) (hi : X.N[i]? = some x := by rfl) (hx : Loc X.env.scope x := by first | exact Or.inl rfl | exact Or.inr rfl) (hf : X.fn x = true ∨ X.env.scope.names.lookup x = some .local := by first | exact .inl rfl | exact .inr rfl)
    (hj : X.N[j]? = some y := by rfl) (hv : Vis X.env.scope y := by first | exact Or.inl rfl | exact Or.inr (Or.inl rfl) | exact Or.inr (Or.inr rfl)) (hd : (y == ("__debug__" : Str)) = false := by decide) (hcd : (y == ("__classdict__" : Str)) = false := by decide)
    (hbase : attributeBase (.Name y npos) "pop" X.env (eval (.Name y npos) X.env) = eval (.Name y npos) X.env := by rfl)
    (hfew : ((backTo cpos (starEach [.Constant (.int 0) kk kp] X.env)).all (fun x => !x.1) && (backToKw cpos (keywordEach [] X.env)).all (fun x => x.1.isSome) && decide ([Expr.Constant (.int 0) kk kp].length + ([] : List Keyword).length + (if ([] : List Keyword).isEmpty then 0 else 1) < 30)) = true := by rfl)
    (hline : (apos.endLine == cpos.line) = true := by rfl) (hst : starEach [.Constant (.int 0) kk kp] X.env = (false, eval (.Constant (.int 0) kk kp) X.env) :: starEach [] X.env := by rfl) (hplain : (backTo cpos (starEach [] X.env)).any (·.1) = false := by rfl)
    (hs : swapsWith (.Call (.Attribute (.Name y npos) "pop" apos) [.Constant (.int 0) kk kp] [] cpos) (some (.Name x pos')) pos.line X.env = pure false := by rfl) :
    PS X (.Assign [.Name x pos'] (.Call (.Attribute (.Name y npos) "pop" apos) [.Constant (.int 0) kk kp] [] cpos) pos) (tD X.K (sPop0 i j)) :=
  ds_pop0 hN hi hx hf hj hv hd hcd (fun to t h1 h2 => pe_bm PySem.F.plainAttrs_list PySem.F.slot_list_pop PySem.F.type_list_pop mt_popAt h1 h2 hbase hfew hline hst hplain) hs hst
end
end HF

/-! HF: name = {k: v for ..}. -/
namespace HF
open PySem PySem.Spec L2
open PyProof.Rows hiding St
section
variable {X : Cx}
theorem ps_setDc {i : Nat} {y : Str} {py : Pos} {kx vx tg iter : Expr} {ifs : List Expr} {scope : Scope} {own : List (Str × Nat)} {pos spos : Pos} {wi : TI} {g : TG} {tt : TT} {tk tv : TE} (hc : X.calm = true) (hN : X.N.Nodup) (hy : X.N[i]? = some y) (hyl : X.env.scope.names.lookup y = some .local)
    (hsw : swapsWith (.DictComp kx vx [⟨tg, iter, ifs, 0⟩] scope pos) (some (.Name y py)) spos.line X.env = pure true) (hi : PI X tg iter wi) (ok : BlkOk X.N X.env.scope scope own)
    (hg : ∀ (s : Shared) (H : Hp) (C : Addr) (cl : List (Str × Addr)) (fp : List Addr), PG (X.blk s H scope (compEnvC scope cl C X.env) fp) tg g) (ht : ∀ (s : Shared) (H : Hp) (C : Addr) (cl : List (Str × Addr)) (fp : List Addr), PTs (X.blk s H scope (compEnvC scope cl C X.env) fp) ifs tt)
    (hk : ∀ (s : Shared) (H : Hp) (C : Addr) (cl : List (Str × Addr)) (fp : List Addr), PE (X.blk s H scope (compEnvC scope cl C X.env) fp) kx tk)
    (he : ∀ (s : Shared) (H : Hp) (C : Addr) (cl : List (Str × Addr)) (fp : List Addr), PE (X.blk s H scope (compEnvC scope cl C X.env) fp) vx tv) (hs : ∀ x, foldedSetIterable iter X.env x = pure x) :
    PS X (.Assign [.Name y py] (.DictComp kx vx [⟨tg, iter, ifs, 0⟩] scope pos) spos) (tAsg (tDc wi g tt tk tv (own.map (·.2))) (gName i)) := by
  refine ⟨fun pins s σ H D I q => ?_⟩
  have q' : tDc wi g tt tk tv (own.map (·.2)) σ H (fun x H1 => gName i x σ H1 D.nx) := q
  rw [exec_Assign_Name_used _ _ _ _ hsw]
  refine wpAny_bind (wpAny_standAt (wpAny_bind ?_))
  show wpAny _ X.A (do let _ ← comprehension (.DictComp kx vx [⟨tg, iter, ifs, 0⟩] scope pos) scope X.env (firstIterPos [⟨tg, iter, ifs, 0⟩] pos) newDict false (eval iter X.env) (some (assign (.Name y py) X.env))) _ _ s
  refine wpAny_bind (thn (dc_core (Qf := fun _ s1 => SP X pins D .next s1) hc hN I hi ok hg ht hk he hs q' fun L C s1 m H1 I1 z hn f => ?_) fun _ _ hz => wpAny_pure (wpAny_pure hz))
  obtain ⟨f0, f1, f2, f3, f4, f5⟩ := f
  refine wpAny_assign_Name (store_ok2 (v := V.ref L) I1 hN hy (.inl hyl) rfl (fun s2 I2 ⟨a, sb, ha⟩ => ?_) (.inr hyl))
  have far : C ≠ a := ha.elim (fun z => by rw [z]; exact f1) fun z e => f4 y a z e.symm
  exact ⟨m, hn.sameBut sb far, fun h3 sb3 => ⟨_, H1, I2.turned (t' := s2.toks) (fun b o hb e => (sb3.2 b hb).trans e) f0 f1 f3 f4 f5, z⟩⟩
theorem sw_trueD {kx vx : Expr} {gs : List Comprehension} {scope : Scope} {pos py : Pos} {y : Str} {l : Nat} {env : PySem.Env} (hk : env.scope.kind = .function) (hy : env.scope.names.lookup y = some .local) (hl : (py.line == pos.line) = true)
    (ha : (scope.names.any fun (n, k) => n == y && (k == .local || k == .cell)) = false) : swapsWith (.DictComp kx vx gs scope pos) (some (.Name y py)) l env = pure true := by
  have ky : env.kindOf y = some .local := hy
  have kb : env.blockKind = .function := by
    unfold Env.blockKind
    rw [hk]; rfl
  unfold swapsWith
  simp only [kb, ky, ha, Expr.pos, hl]
  rfl
theorem stSetDc (i : Nat) {y : Str} {py : Pos} {kx vx tg iter : Expr} {ifs : List Expr} {scope : Scope} {lpos pos : Pos} (own : List (Str × Nat)) (t : Tg) {it : Ws} {co : Option Ev} {fk f : Ev} (hc : X.calm = true) (hN : X.N.Nodup) (hsw : swapsWith (.DictComp kx vx [⟨tg, iter, ifs, 0⟩] scope lpos) (some (.Name y py)) pos.line X.env = pure true) (hi : PI X tg iter (tI X.K it)) (ok : BlkOk X.N X.env.scope scope own)
    (hg : ∀ (s : Shared) (H : Hp) (C : Addr) (cl : List (Str × Addr)) (fp : List Addr), PG (X.blk s H scope (compEnvC scope cl C X.env) fp) tg (tG X.K t)) (ht : ∀ (s : Shared) (H : Hp) (C : Addr) (cl : List (Str × Addr)) (fp : List Addr), PTs (X.blk s H scope (compEnvC scope cl C X.env) fp) ifs (tC? X.K co))
    (hk : ∀ (s : Shared) (H : Hp) (C : Addr) (cl : List (Str × Addr)) (fp : List Addr), PE (X.blk s H scope (compEnvC scope cl C X.env) fp) kx (tS X.K fk))
    (he : ∀ (s : Shared) (H : Hp) (C : Addr) (cl : List (Str × Addr)) (fp : List Addr), PE (X.blk s H scope (compEnvC scope cl C X.env) fp) vx (tS X.K f)) (hy : X.N[i]? = some y := by rfl) (hyl : X.env.scope.names.lookup y = some .local := by rfl) (hs : ∀ i ∈ t.slots, i ∈ own.map (·.2) := by decide) (hf : ∀ x, foldedSetIterable iter X.env x = pure x := by intro _; rfl) :
    PS X (.Assign [.Name y py] (.DictComp kx vx [⟨tg, iter, ifs, 0⟩] scope lpos) pos) (tD X.K (sSetO i (eDc (own.map (·.2)) t it co fk f))) :=
  PS_wk (ps_setDc hc hN hy hyl hsw hi ok hg ht hk he hf) fun D σ H ⟨io0, H0, io, b, r, oss, A, fl, r', b', e, q⟩ => by
    obtain ⟨d, b1, e1, e2⟩ := bnd_some e
    cases e2
    refine dc_reads (Q := fun x H1 => D.nx (σ.set i (some x)) H1) hs ⟨io, b, r, oss, A.sr, d, _, e1, fun v H1 io1 os k1 S1 rx n f => ?_⟩
    obtain ⟨oss2, S2, ho⟩ := S1.setO (i := i) rx n (A.sr.apart f)
    exact q _ H1 io1 oss2 S2 (A.kp.trans k1 A.bl) (k1.kf A.sr.bl) fun a ha => (ho a ha).elim (fun z => fresh_back A.kp A.sr (f a z)) (A.fr a)
end
end HF

namespace K46
open PySem PySem.Spec L2 HF
open PyProof.Rows hiding St
def top (i : Nat) : Stmt := PySem.Challenge.pw_heapfriends_k46_who_must_go.main.body.getD i (.Pass ⟨0, 0, 0, 0⟩)
/-! ### friends_of -/
abbrev s_friends_of : Stmt := top 1
abbrev N_friends_of : List Str := ["ties", "book", "one", "friend"]
theorem sc_friends_of : FnScope N_friends_of ["ties", "book"] (defScope s_friends_of) := ⟨rfl, rfl, rfl, by decide +kernel, rfl, by decide +kernel, by decide +kernel⟩
def b_friends_of : Sv :=
    (sRet (eN (n1 oSort) [(eLc [2, 3] (.two 2 3) (itD itSeq (eV 0)) (some (e2 oEq (eB 2) (eB 1))) (eV 3))]))
def g_friends_of : Fn := runFn 2 b_friends_of
/-! ### places_in -/
abbrev s_places_in : Stmt := top 2
abbrev N_places_in : List Str := ["heap", "place", "book"]
theorem sc_places_in : FnScope N_places_in ["heap"] (defScope s_places_in) := ⟨rfl, rfl, rfl, by decide +kernel, rfl, by decide +kernel, by decide +kernel⟩
def b_places_in : Sv :=
    (sRet (eDc [1, 2] (.two 1 2) (itN (l1 itEnumD) [(eV 0)]) none (eV 2) (eV 1)))
def g_places_in : Fn := runFn 2 b_places_in
/-! ### ways_down -/
abbrev s_ways_down : Stmt := top 4
abbrev N_ways_down : List Str := ["heap", "ties", "books", "place_by", "found", "book", "waiting", "friend"]
theorem sc_ways_down : FnScope N_ways_down ["heap", "ties", "books"] (defScope s_ways_down) := ⟨rfl, rfl, rfl, by decide +kernel, rfl, by decide +kernel, by decide +kernel⟩
def b_ways_down : Sv :=
    (sSeq (sSet 3 (eSh (eCall g_places_in [(eV 0)])))
    (sSeq (sSetO 4 (eDc [5] (.one 5) (itD itSeq (eV 2)) none (eV 5) (eSh (eLst [(eV 5)]))))
    (sSeq (sSetO 6 (eN (n1 oListA) [(eI 4)]))
    (sSeq (sWhile 10000 (e2 oGt (eN (n1 oLen) [(eB 6)]) (eC (.int 0)))
    (sSeq (sPop0 5 6)
    (sFor (.one 7) (itD itSeq (eSh (eCall g_friends_of [(eV 1), (eV 5)])))
    (sIf (eAnd (e2 oGt (eIx (eI 3) (eB 7)) (eIx (eI 3) (eB 5))) (e2 oNotIn (eB 7) (eB 4)))
    (sSeq (sPut 4 (eB 7) (eSh (e2 oAdd (eInn (eIx (eI 4) (eB 5))) (eInn (eLst [(eV 7)])))))
    (sMut 6 mAppend [(eV 7)]))
    sNx))))
    (sRetV 4)))))
def g_ways_down : Fn := runFn 5 b_ways_down
/-! ### must_go -/
abbrev s_must_go : Stmt := top 5
abbrev N_must_go : List Str := ["heap", "ties", "books"]
theorem sc_must_go : FnScope N_must_go ["heap", "ties", "books"] (defScope s_must_go) := ⟨rfl, rfl, rfl, by decide +kernel, rfl, by decide +kernel, by decide +kernel⟩
def b_must_go : Sv :=
    (sRet (eN (n1 oSortA) [(eCall g_ways_down [(eV 0), (eV 1), (eV 2)])]))
def g_must_go : Fn := runFn 0 b_must_go
/-! ### lift -/
abbrev s_lift : Stmt := top 6
abbrev N_lift : List Str := ["heap", "ties", "books", "some", "book"]
theorem sc_lift : FnScope N_lift ["heap", "ties", "books"] (defScope s_lift) := ⟨rfl, rfl, rfl, by decide +kernel, rfl, by decide +kernel, by decide +kernel⟩
def b_lift : Sv :=
    (sSeq (sSet 3 (eSh (eCall g_ways_down [(eV 0), (eV 1), (eV 2)])))
    (sRet (eLc [4] (.one 4) (itD itRev (eV 0)) (some (e2 oIn (eB 4) (eB 3))) (eV 4))))
def g_lift : Fn := runFn 2 b_lift
/-! ### _law_box -/
abbrev s_box : Stmt := top 8
abbrev N_box : List Str := ["_law_script", "_law_k", "_law_cell"]
theorem sc_box : FnScope N_box ["_law_script", "_law_k"] (defScope s_box) := ⟨rfl, rfl, rfl, by decide +kernel, rfl, by decide +kernel, by decide +kernel⟩
def b_box : Sv :=
    (sSeq (sSet 2 (eC (.int 0)))
    (sSeq (sIf (e2 oLt (eB 1) (eN (n1 oLen) [(eB 0)]))
    (sSet 2 (eSh (eIx (eI 0) (eB 1))))
    sNx)
    (sRet (eBox [(e2 oMul (eInn (eN (n1 oAbs) [(eB 2)])) (eN (n1 oInt) [(e2 oGe (eN (n1 oAbs) [(eB 2)]) (e2 oPow (eC (.int 10)) (eC (.int 18))))])), (e2 oAdd (eInn (e2 oAdd (eInn (e2 oMod (eB 2) (eC (.int 2147483629)))) (eInn (e2 oMul (eC (.int 6151)) (eB 1))))) (eC (.int 29))), (eC (.int 0))]))))
def g_box : Fn := runFn 1 b_box
/-! ### _law_take -/
abbrev s_take : Stmt := top 9
abbrev N_take : List Str := ["_law_box_here", "_law_bound", "_law_found", "_law_once"]
theorem sc_take : FnScope N_take ["_law_box_here", "_law_bound"] (defScope s_take) := ⟨rfl, rfl, rfl, by decide +kernel, rfl, by decide +kernel, by decide +kernel⟩
def b_take : Sv :=
    (sSeq (sIf (e2 oGt (eIx (eI 0) (eC (.int 0))) (eC (.int 0)))
    (sSeq (sSet 2 (eSh (e2 oMod (eIx (eI 0) (eC (.int 0))) (eB 1))))
    (sSeq (sBSet 0 (eC (.int 0)) (e2 oFdiv (eIx (eI 0) (eC (.int 0))) (eB 1)))
    (sRetV 2)))
    sNx)
    (sSeq (sBSet 0 (eC (.int 2)) (e2 oAdd (eInn (eIx (eI 0) (eC (.int 2)))) (eC (.int 1))))
    (sSeq (sSet 3 (eSh (e2 oMod (e2 oPow (e2 oAdd (eInn (eIx (eI 0) (eC (.int 1)))) (eInn (e2 oMul (eC (.int 39373)) (eIx (eI 0) (eC (.int 2)))))) (eC (.int 5))) (eC (.int 2147483647)))))
    (sRet (e2 oMod (e2 oFdiv (e2 oMod (e2 oAdd (eInn (e2 oMul (eI 3) (e2 oAdd (eInn (e2 oMod (eB 3) (eC (.int 40009)))) (eC (.int 7))))) (eInn (e2 oMul (eInn (eIx (eI 0) (eC (.int 2)))) (eC (.int 7919))))) (eC (.int 2147483629))) (eC (.int 64))) (eB 1))))))
def g_take : Fn := runFn 2 b_take
/-! ### _law_pick -/
abbrev s_pick : Stmt := top 10
abbrev N_pick : List Str := ["_law_box_here", "_law_some"]
theorem sc_pick : FnScope N_pick ["_law_box_here", "_law_some"] (defScope s_pick) := ⟨rfl, rfl, rfl, by decide +kernel, rfl, by decide +kernel, by decide +kernel⟩
def b_pick : Sv :=
    (sRet (eIx (eI 1) (eCall g_take [(eV 0), (eSh (eN (n1 oLen) [(eB 1)]))])))
def g_pick : Fn := runFn 0 b_pick
/-! ### _law_same -/
abbrev s_same : Stmt := top 11
abbrev N_same : List Str := ["_law_found", "_law_due", "_law_mine", "_law_its"]
theorem sc_same : FnScope N_same ["_law_found", "_law_due"] (defScope s_same) := ⟨rfl, rfl, rfl, by decide +kernel, rfl, by decide +kernel, by decide +kernel⟩
def b_same (fn : Fn) : Sv :=
    (sSeq (sIf (e1 (oIsi [.tlist, .ttuple]) (eB 1))
    (sSeq (sIf (eOr (e2 oNe (e1 (oIsi [.tlist]) (eB 0)) (e1 (oIsi [.tlist]) (eB 1))) (e2 oNe (e1 (oIsi [.ttuple]) (eB 0)) (e1 (oIsi [.ttuple]) (eB 1))))
    (sRet (eC (.bl false)))
    sNx)
    (sRet (eAnd (e2 oEq (eN (n1 oLen) [(eB 0)]) (eN (n1 oLen) [(eB 1)])) (eN (n1 oAll) [(eLc [2, 3] (.two 2 3) (itN (l2 itZip) [(eV 0), (eV 1)]) none (eCall fn [(eV 2), (eV 3)]))]))))
    sNx)
    (sSeq (sIf (eOr (e2 oIs (eB 1) (eC .non)) (e1 (oIsi [.tbool, .tstr]) (eB 1)))
    (sRet (eAnd (e2 oEq (eB 0) (eB 1)) (eAnd (e2 oEq (e1 (oIsi [.tbool]) (eB 0)) (e1 (oIsi [.tbool]) (eB 1))) (e2 oEq (e2 oIs (eB 0) (eC .non)) (e2 oIs (eB 1) (eC .non))))))
    sNx)
    (sRet (eAnd (e1 (oIsi [.tint]) (eB 0)) (eAnd (e1 oNot (e1 (oIsi [.tbool]) (eB 0))) (e2 oEq (eB 0) (eB 1)))))))
def g_same : Nat → Fn
  | 0 => fun _ => fail
  | m + 1 => runFn 2 (b_same (g_same m))
/-! ### _law_listed -/
abbrev s_listed : Stmt := top 12
abbrev N_listed : List Str := ["_law_matter", "_law_part"]
theorem sc_listed : FnScope N_listed ["_law_matter"] (defScope s_listed) := ⟨rfl, rfl, rfl, by decide +kernel, rfl, by decide +kernel, by decide +kernel⟩
def b_listed (fn : Fn) : Sv :=
    (sRet (eIte (e1 (oIsi [.tlist, .ttuple]) (eB 0)) (eLc [1] (.one 1) (itD itSeq (eV 0)) none (eCall fn [(eV 1)])) (eV 0)))
def g_listed : Nat → Fn
  | 0 => fun _ => fail
  | m + 1 => runFn 1 (b_listed (g_listed m))
/-! ### _law_strewn -/
abbrev s_strewn : Stmt := top 13
abbrev N_strewn : List Str := ["_law_box_here", "_law_some", "_law_found", "_law_part"]
theorem sc_strewn : FnScope N_strewn ["_law_box_here", "_law_some"] (defScope s_strewn) := ⟨rfl, rfl, rfl, by decide +kernel, rfl, by decide +kernel, by decide +kernel⟩
def b_strewn : Sv :=
    (sSeq (sSetO 2 (eLst []))
    (sSeq (sFor (.one 3) (itD itSeq (eV 1))
    (sMut 2 mInsertS [(eCall g_take [(eV 0), (eSh (e2 oAdd (eInn (eN (n1 oLen) [(eB 2)])) (eC (.int 1))))]), (eV 3)]))
    (sRetV 2)))
def g_strewn : Fn := runFn 2 b_strewn
/-! ### _law_names -/
abbrev s_names : Stmt := top 14
abbrev N_names : List Str := ["_law_box_here", "_law_size", "_law_letters", "_law_found", "_law_k", "_law_name", "_law_j", "_law_maybe", "_law_sign"]
theorem sc_names : FnScope N_names ["_law_box_here", "_law_size"] (defScope s_names) := ⟨rfl, rfl, rfl, by decide +kernel, rfl, by decide +kernel, by decide +kernel⟩
def b_names : Sv :=
    (sSeq (sUnp 2 false 3 true (eTup [(eC (.str ("abcdefghijklmnopqrstuvwxyz" : Str))), (eLst [])]))
    (sSeq (sFor (.one 4) (itN (l1 itRange) [(eB 1)])
    (sSeq (sSet 5 (eSh (e2 oJoin (eC (.str ("" : Str))) (eLc [6] (.one 6) (itN (l1 itRange) [(eIx (eInn (eLst [(eC (.int 1)), (eC (.int 6)), (eC (.int 2))])) (eCall g_take [(eV 0), (eC (.int 3))]))]) none (eIx (eI 2) (eCall g_take [(eV 0), (eC (.int 26))]))))))
    (sSeq (sIf (eAnd (e2 oNe (eB 3) (eLst [])) (e2 oEq (eCall g_take [(eV 0), (eC (.int 4))]) (eC (.int 0))))
    (sSet 5 (eSh (e2 oAdd (eInn (eSl (eInn (eIx (eI 3) (eC (.int 0)))) none (some (eC (.int 5))))) (eInn (eIx (eI 2) (eCall g_take [(eV 0), (eC (.int 26))]))))))
    sNx)
    (sMut 3 mAppend [(eIx (eInn (eLc [7] (.one 7) (itD itSeq (eSh (e2 oAdd (eInn (eLst [(eV 5)])) (eInn (eLc [8] (.one 8) (itD itSeq (eV 2)) none (e2 oAdd (eInn (eSl (eI 5) none (some (eC (.int 5))))) (eI 8))))))) (some (e2 oNotIn (eB 7) (eB 3))) (eV 7))) (eC (.int 0)))]))))
    (sRet (eN (n1 oSort) [(eB 3)]))))
def g_names : Fn := runFn 7 b_names
/-! ### _law_heap -/
abbrev s_heap : Stmt := top 15
abbrev N_heap : List Str := ["_law_box_here", "_law_least", "_law_most"]
theorem sc_heap : FnScope N_heap ["_law_box_here", "_law_least", "_law_most"] (defScope s_heap) := ⟨rfl, rfl, rfl, by decide +kernel, rfl, by decide +kernel, by decide +kernel⟩
def b_heap : Sv :=
    (sRet (eN (n1 oTuple) [(eInn (eCall g_strewn [(eV 0), (eSh (eCall g_names [(eV 0), (eSh (e2 oAdd (eI 1) (eInn (eCall g_take [(eV 0), (eSh (e2 oAdd (eInn (e2 oSub (eB 2) (eB 1))) (eC (.int 1))))]))))]))]))]))
def g_heap : Fn := runFn 0 b_heap
/-! ### _law_ties -/
abbrev s_ties : Stmt := top 16
abbrev N_ties : List Str := ["_law_box_here", "_law_stack", "_law_kind", "_law_found", "_law_own", "_law_odds", "_law_mine", "_law_its", "_law_order"]
theorem sc_ties : FnScope N_ties ["_law_box_here", "_law_stack"] (defScope s_ties) := ⟨rfl, rfl, rfl, by decide +kernel, rfl, by decide +kernel, by decide +kernel⟩
def b_ties : Sv :=
    (sSeq (sParN [(2, false), (3, false), (4, false)] [(eSh (eCall g_take [(eV 0), (eC (.int 7))])), (eSh (eLst [])), (eSh (eN (n1 oSort) [(eB 1)]))])
    (sSeq (sSet 5 (eSh (eIx (eInn (eLst [(eC (.int 0)), (eC (.int 6)), (eC (.int 3)), (eC (.int 2)), (eC (.int 4)), (eC (.int 6)), (eC (.int 4))])) (eB 2))))
    (sSeq (sFor (.one 6) (itD itSeq (eV 4))
    (sFor (.one 7) (itD itSeq (eV 4))
    (sIf (eAnd (e2 oNe (eB 6) (eB 7)) (e2 oGt (eB 5) (eC (.int 0))))
    (sSet 3 (eSh (e2 oAdd (eI 3) (eInn (e2 oMul (eInn (eLst [(eTup [(eV 6), (eV 7)])])) (eN (n1 oInt) [(e2 oNe (e2 oEq (eCall g_take [(eV 0), (eV 5)]) (eC (.int 0))) (e2 oEq (eB 2) (eC (.int 4))))]))))))
    sNx)))
    (sSeq (sIf (e2 oEq (eB 2) (eC (.int 5)))
    (sSeq (sSet 8 (eSh (eCall g_strewn [(eV 0), (eV 4)])))
    (sSet 3 (eSh (e2 oAdd (eI 3) (eInn (eLc [6, 7] (.two 6 7) (itN (l2 itZip) [(eV 8), (eSh (e2 oAdd (eInn (eSl (eI 8) (some (eC (.int 1))) none)) (eInn (eSl (eI 8) none (some (eC (.int 1)))))))]) (some (e2 oNe (eB 6) (eB 7))) (eTup [(eV 6), (eV 7)])))))))
    sNx)
    (sSeq (sIf (e2 oEq (eB 2) (eC (.int 6)))
    (sSet 3 (eSh (e2 oAdd (eI 3) (eInn (eLc [6, 7] (.two 6 7) (itD itSeq (eV 3)) none (eTup [(eV 7), (eV 6)]))))))
    sNx)
    (sRet (eN (n1 oTuple) [(eInn (eN (n1 oSortSet) [(eB 3)]))])))))))
def g_ties : Fn := runFn 7 b_ties
/-! ### _law_above -/
abbrev s_above : Stmt := top 17
abbrev N_above : List Str := ["_law_stack", "_law_mine", "_law_its"]
theorem sc_above : FnScope N_above ["_law_stack", "_law_mine", "_law_its"] (defScope s_above) := ⟨rfl, rfl, rfl, by decide +kernel, rfl, by decide +kernel, by decide +kernel⟩
def b_above : Sv :=
    (sRet (e2 oLt (e2 oIndex (eB 0) (eB 1)) (e2 oIndex (eB 0) (eB 2))))
def g_above : Fn := runFn 0 b_above
/-! ### _law_friends -/
abbrev s_friends : Stmt := top 18
abbrev N_friends : List Str := ["_law_pairs", "_law_mine", "_law_whose", "_law_its"]
theorem sc_friends : FnScope N_friends ["_law_pairs", "_law_mine"] (defScope s_friends) := ⟨rfl, rfl, rfl, by decide +kernel, rfl, by decide +kernel, by decide +kernel⟩
def b_friends : Sv :=
    (sRet (eLc [2, 3] (.two 2 3) (itD itSeq (eV 0)) (some (e2 oEq (eB 2) (eB 1))) (eV 3)))
def g_friends : Fn := runFn 2 b_friends
/-! ### _law_let -/
abbrev s_let : Stmt := top 19
abbrev N_let : List Str := ["_law_stack", "_law_pairs", "_law_mine", "_law_its"]
theorem sc_let : FnScope N_let ["_law_stack", "_law_pairs", "_law_mine"] (defScope s_let) := ⟨rfl, rfl, rfl, by decide +kernel, rfl, by decide +kernel, by decide +kernel⟩
def b_let : Sv :=
    (sRet (eN (n1 oAll) [(eLc [3] (.one 3) (itD itSeq (eSh (eCall g_friends [(eV 1), (eV 2)]))) none (eCall g_above [(eV 0), (eV 3), (eV 2)]))]))
def g_let : Fn := runFn 1 b_let
/-! ### _law_moved -/
abbrev s_moved : Stmt := top 20
abbrev N_moved : List Str := ["_law_stack", "_law_mine", "_law_its"]
theorem sc_moved : FnScope N_moved ["_law_stack", "_law_mine"] (defScope s_moved) := ⟨rfl, rfl, rfl, by decide +kernel, rfl, by decide +kernel, by decide +kernel⟩
def b_moved : Sv :=
    (sRet (e2 oAdd (eInn (eTup [(eV 1)])) (eInn (eN (n1 oTuple) [(eInn (eLc [2] (.one 2) (itD itSeq (eV 0)) (some (e2 oNe (eB 2) (eB 1))) (eV 2)))]))))
def g_moved : Fn := runFn 1 b_moved
/-! ### _law_left -/
abbrev s_left : Stmt := top 21
abbrev N_left : List Str := ["_law_stack", "_law_steps", "_law_mine"]
theorem sc_left : FnScope N_left ["_law_stack", "_law_steps"] (defScope s_left) := ⟨rfl, rfl, rfl, by decide +kernel, rfl, by decide +kernel, by decide +kernel⟩
def b_left : Sv :=
    (sSeq (sFor (.one 2) (itD itSeq (eV 1))
    (sSet 0 (eSh (eCall g_moved [(eV 0), (eV 2)]))))
    (sRetV 0))
def g_left : Fn := runFn 1 b_left
/-! ### _law_refused_at -/
abbrev s_refused_at : Stmt := top 22
abbrev N_refused_at : List Str := ["_law_stack", "_law_pairs", "_law_steps", "_law_place", "_law_mine"]
theorem sc_refused_at : FnScope N_refused_at ["_law_stack", "_law_pairs", "_law_steps"] (defScope s_refused_at) := ⟨rfl, rfl, rfl, by decide +kernel, rfl, by decide +kernel, by decide +kernel⟩
def b_refused_at : Sv :=
    (sSeq (sFor (.two 3 4) (itN (l1 itEnumD) [(eV 2)])
    (sSeq (sIf (e1 oNot (eCall g_let [(eV 0), (eV 1), (eV 4)]))
    (sRetV 3)
    sNx)
    (sSet 0 (eSh (eCall g_moved [(eV 0), (eV 4)])))))
    (sRet (eC .non)))
def g_refused_at : Fn := runFn 2 b_refused_at
/-! ### _law_beneath -/
abbrev s_beneath : Stmt := top 23
abbrev N_beneath : List Str := ["_law_stack", "_law_pairs", "_law_some", "_law_found", "_law_at", "_law_mine", "_law_low", "_law_its"]
theorem sc_beneath : FnScope N_beneath ["_law_stack", "_law_pairs", "_law_some"] (defScope s_beneath) := ⟨rfl, rfl, rfl, by decide +kernel, rfl, by decide +kernel, by decide +kernel⟩
def b_beneath : Sv :=
    (sSeq (sUnp 3 false 4 false (eTup [(eSh (eN (n1 oList) [(eI 2)])), (eC (.int 0))]))
    (sSeq (sWhile 10000 (e2 oLt (eB 4) (eN (n1 oLen) [(eB 3)]))
    (sSeq (sSet 5 (eSh (eIx (eI 3) (eB 4))))
    (sSeq (sSetO 6 (eLc [7] (.one 7) (itD itSeq (eSh (eCall g_friends [(eV 1), (eV 5)]))) (some (eCall g_above [(eV 0), (eV 5), (eV 7)])) (eV 7)))
    (sPre [6] (sSeq (sSet 3 (eSh (e2 oAdd (eI 3) (eInn (eLc [7] (.one 7) (itD itSeq (eV 6)) (some (e2 oNotIn (eB 7) (eB 3))) (eV 7))))))
    (sSet 4 (eSh (e2 oAdd (eI 4) (eC (.int 1))))))))))
    (sRetV 3)))
def g_beneath : Fn := runFn 5 b_beneath
/-! ### _law_right -/
abbrev s_right : Stmt := top 24
abbrev N_right : List Str := ["_law_box_here", "_law_stack", "_law_pairs", "_law_some", "_law_found", "_law_before", "_law_due", "_law_mine", "_law_turn", "_law_told"]
theorem sc_right : FnScope N_right ["_law_box_here"] (defScope s_right) := ⟨rfl, rfl, rfl, by decide +kernel, rfl, by decide +kernel, by decide +kernel⟩
def b_right : Sv :=
    (sSeq (sSet 1 (eSh (eCall g_heap [(eV 0), (eC (.int 1)), (eC (.int 12))])))
    (sSeq (sSet 2 (eSh (eCall g_ties [(eV 0), (eV 1)])))
    (sSeq (sFor (.one 3) (itD itSeq (eSh (eTup [(eLst []), (eLst [(eCall g_pick [(eV 0), (eSh (eN (n1 oList) [(eI 1)]))])]), (eSl (eInn (eCall g_strewn [(eV 0), (eV 1)])) none (some (eCall g_take [(eV 0), (eC (.int 4))]))), (eN (n1 oList) [(eI 1)])])))
    (sSeq (sUnp 4 false 5 false (eTup [(eSh (eCall g_beneath [(eV 1), (eV 2), (eV 3)])), (eSh (eN (n1 oShow) [(eLst [(eV 1), (eV 2), (eV 3)])]))]))
    (sSeq (sSet 6 (eSh (eLst [(eN (n1 oSort) [(eB 4)]), (eLc [7] (.one 7) (itD itSeq (eSh (e1 oRev (eI 1)))) (some (e2 oIn (eB 7) (eB 4))) (eV 7))])))
    (sSeq (sFor (.one 8) (itN (l1 itRange) [(eC (.int 2))])
    (sSeq (sSetO 9 (eLst [(eCall g_must_go [(eV 1), (eV 2), (eV 3)]), (eCall g_lift [(eV 1), (eV 2), (eSh (e1 oRev (eI 3)))])]))
    (sSeq (sIf (e1 oNot (eCallS (g_same 6) [(eB 9), (eB 6)]))
    (sRet (eC (.bl false)))
    sNx)
    (sSeq (sMutAt 9 0 mAppend [(eC (.str ("more" : Str)))])
    (sMutAt 9 1 mAppend [(eC (.str ("more" : Str)))])))))
    (sSeq (sSetO 9 (eLst [(eCallK [2, 1, 0] g_must_go [] [(eSh (eN (n1 oTuple) [(eI 3)])), (eSh (eCall (g_listed 6) [(eV 2)])), (eSh (eN (n1 oList) [(eI 1)]))] [])]))
    (sSeq (sMut 9 mAppend [(eCallK [2, 1, 0] g_lift [] [(eSh (eN (n1 oTuple) [(eI 3)])), (eSh (eCall (g_listed 6) [(eV 2)])), (eSh (eN (n1 oList) [(eI 1)]))] [])])
    (sSeq (sIf (eOr (e1 oNot (eCallS (g_same 6) [(eB 9), (eB 6)])) (e2 oNe (eN (n1 oShow) [(eLst [(eV 1), (eV 2), (eV 3)])]) (eB 5)))
    (sRet (eC (.bl false)))
    sNx)
    (sSeq (sIf (e2 oIsNot (eCall g_refused_at [(eV 1), (eV 2), (eSh (eIx (eI 6) (eC (.int 1))))]) (eC .non))
    (sRet (eC (.bl false)))
    sNx)
    (sIf (eAnd (e2 oEq (eN (n1 oLen) [(eB 3)]) (eC (.int 1))) (e2 oNe (eIx (eInn (eCall g_left [(eV 1), (eSh (eIx (eI 6) (eC (.int 1))))])) (eC (.int 0))) (eIx (eI 3) (eC (.int 0)))))
    (sRet (eC (.bl false)))
    sNx)))))))))
    (sRet (eC (.bl true))))))
def g_right : Fn := runFn 9 b_right
/-! ### law -/
abbrev s_law : Stmt := top 25
abbrev N_law : List Str := ["_law_script", "_law_boxes", "_law_k", "_law_box_here"]
theorem sc_law : FnScope N_law ["_law_script"] (defScope s_law) := ⟨rfl, rfl, rfl, by decide +kernel, rfl, by decide +kernel, by decide +kernel⟩
def b_law : Sv :=
    (sSeq (sSetO 1 (eLc [2] (.one 2) (itN (l1 itRange) [(e2 oAdd (eC (.int 1)) (eInn (eN (n2 oMin2) [(eC (.int 3)), (eN (n1 oLen) [(eB 0)])])))]) none (eCall g_box [(eV 0), (eV 2)])))
    (sPre [1] (sRet (eN (n1 oAll) [(eLc [3] (.one 3) (itD itSeq (eSh (e2 oMul (eI 1) (eC (.int 3))))) none (eCall g_right [(eV 3)]))]))))
def g_law : Fn := runFn 3 b_law
/-- built-in names that the module does not hide -/
structure Zs (mg : Str → Option Value) : Prop where
  sorted_ : mg "sorted" = none
  enumerate_ : mg "enumerate" = none
  list_ : mg "list" = none
  len_ : mg "len" = none
  reversed_ : mg "reversed" = none
  abs_ : mg "abs" = none
  int_ : mg "int" = none
  isinstance_ : mg "isinstance" = none
  tuple_ : mg "tuple" = none
  zip_ : mg "zip" = none
  all_ : mg "all" = none
  bool_ : mg "bool" = none
  str_ : mg "str" = none
  range_ : mg "range" = none
  set_ : mg "set" = none
  repr_ : mg "repr" = none
  min_ : mg "min" = none
section
variable {P : Program} {w : World} {K : PySem.W.Frag} {mg : Str → Option Value} {base : Heap}
theorem ok_friends_of (zs : Zs mg) (S : Std K mg "friends_of" s_friends_of)  : Cal P w K mg base 1 "friends_of" s_friends_of g_friends_of ["ties", "book"] := by
  refine Cal.of (k := 0) 2 S sc_friends_of rfl fun f cdv A outer s H E hg hr => ?_
  have nd : N_friends_of.Nodup := sc_friends_of.nd
  exact (ds_one (ds_ret (bSort zs.sorted_ (aM (de_look (xLc [("one", 2), ("friend", 3)] (.two 2 3) rfl nd (di_seq (nS 0)) (blkOk_by (N := N_friends_of) (sc := defScope s_friends_of) (own := [("one", 2), ("friend", 3)]) (by decide +kernel)) (fun _ _ _ _ _ => (g2 2 3 rfl nd)) (fun _ _ _ _ _ => dts_one (tEq hr (nB 2) (nB 1))) (fun _ _ _ _ _ => (nV 3)))) da_nilM))))
theorem ok_places_in (zs : Zs mg) (S : Std K mg "places_in" s_places_in)  : Cal P w K mg base 1 "places_in" s_places_in g_places_in ["heap"] := by
  refine Cal.of (k := 0) 2 S sc_places_in rfl fun f cdv A outer s H E hg hr => ?_
  have nd : N_places_in.Nodup := sc_places_in.nd
  exact (ds_one (ds_ret (xDc [("place", 1), ("book", 2)] (.two 1 2) rfl nd (wEnum zs.enumerate_ (aS (nS 0) da_nilS)) (blkOk_by (N := N_places_in) (sc := defScope s_places_in) (own := [("place", 1), ("book", 2)]) (by decide +kernel)) (fun _ _ _ _ _ => (g2 1 2 rfl nd)) (fun _ _ _ _ _ => dts_nil) (fun _ _ _ _ _ => (nS 2)) (fun _ _ _ _ _ => (nS 1)))))
theorem ok_ways_down (zs : Zs mg) (S : Std K mg "ways_down" s_ways_down) (c_friends_of : Cal P w K mg base 1 "friends_of" s_friends_of g_friends_of ["ties", "book"]) (c_places_in : Cal P w K mg base 1 "places_in" s_places_in g_places_in ["heap"]) : Cal P w K mg base 2 "ways_down" s_ways_down g_ways_down ["heap", "ties", "books"] := by
  refine Cal.of (k := 1) 5 S sc_ways_down rfl fun f cdv A outer s H E hg hr => ?_
  have nd : N_ways_down.Nodup := sc_ways_down.nd
  exact (ds_cons (stSet 3 nd (de_sh (callF c_places_in hg (hr.mono (by omega)) (aS (nS 0) da_nilS) (fun _ _ _ _ _ _ us hl => match us, hl with | [_], _ => rfl))))
    (ds_cons (stSetDc 4 [("book", 5)] (.one 5) rfl nd (sw_trueD rfl rfl rfl (by decide +kernel)) (di_seq (nS 2)) (blkOk_by (N := N_ways_down) (sc := defScope s_ways_down) (own := [("book", 5)]) (by decide +kernel)) (fun _ _ _ _ _ => (g1 5 nd)) (fun _ _ _ _ _ => dts_nil) (fun _ _ _ _ _ => (nS 5)) (fun _ _ _ _ _ => (de_sh (xLst (aV (nV 5) da_nil)))))
    (ds_cons (stSetO 6 nd (bListA rfl zs.list_ (aM (nI 4) da_nilM)))
    (ds_cons (stWhile 10000 PassesOwn.never (tGt (de_look (bLen zs.len_ (aM (nB 6) da_nilM))) (de_s1 de_int))
    (ds_cons (stPop0 5 6 nd)
    (ds_one (stFor PassesOwn.never rfl (di_seq (de_sh (callF c_friends_of hg (hr.mono (by omega)) (aS (nS 1) (aS (nS 5) da_nilS)) (fun _ _ _ _ _ _ us hl => match us, hl with | [_, _], _ => rfl)))) (g1 7 nd)
    (ds_one (ds_if (PW.pt (tAnd (tGt (de_look (xIx (nI 3) (nB 7))) (de_look (xIx (nI 3) (nB 5)))) (dw_and1 (tNin hr (nB 7) (nB 4)))))
    (ds_cons (stPut 4 hr (de_sh (xAdd (de_inn (xIx (nI 4) (nB 5))) (de_inn (xLst (aV (nV 7) da_nil))))) (nB 7))
    (ds_one (stAppend 6 (aV (nV 7) da_nil))))
    ds_nil))))))
    (ds_one (stRetV 4))))))
theorem ok_must_go (zs : Zs mg) (S : Std K mg "must_go" s_must_go) (c_ways_down : Cal P w K mg base 2 "ways_down" s_ways_down g_ways_down ["heap", "ties", "books"]) : Cal P w K mg base 3 "must_go" s_must_go g_must_go ["heap", "ties", "books"] := by
  refine Cal.of (k := 2) 0 S sc_must_go rfl fun f cdv A outer s H E hg hr => ?_
  have nd : N_must_go.Nodup := sc_must_go.nd
  exact (ds_one (ds_ret (bSortA rfl zs.sorted_ (aM (de_look (callF c_ways_down hg (hr.mono (by omega)) (aS (nS 0) (aS (nS 1) (aS (nS 2) da_nilS))) (fun _ _ _ _ _ _ us hl => match us, hl with | [_, _, _], _ => rfl))) da_nilM))))
theorem ok_lift (zs : Zs mg) (S : Std K mg "lift" s_lift) (c_ways_down : Cal P w K mg base 2 "ways_down" s_ways_down g_ways_down ["heap", "ties", "books"]) : Cal P w K mg base 3 "lift" s_lift g_lift ["heap", "ties", "books"] := by
  refine Cal.of (k := 2) 2 S sc_lift rfl fun f cdv A outer s H E hg hr => ?_
  have nd : N_lift.Nodup := sc_lift.nd
  exact (ds_cons (stSet 3 nd (de_sh (callF c_ways_down hg (hr.mono (by omega)) (aS (nS 0) (aS (nS 1) (aS (nS 2) da_nilS))) (fun _ _ _ _ _ _ us hl => match us, hl with | [_, _, _], _ => rfl))))
    (ds_one (ds_ret (xLc [("book", 4)] (.one 4) rfl nd (wRev zs.reversed_ (nS 0)) (blkOk_by (N := N_lift) (sc := defScope s_lift) (own := [("book", 4)]) (by decide +kernel)) (fun _ _ _ _ _ => (g1 4 nd)) (fun _ _ _ _ _ => dts_one (tIn hr (nB 4) (nB 3))) (fun _ _ _ _ _ => (nV 4))))))
theorem ok_box (zs : Zs mg) (S : Std K mg "_law_box" s_box)  : Cal P w K mg base 1 "_law_box" s_box g_box ["_law_script", "_law_k"] := by
  refine Cal.of (k := 0) 1 S sc_box rfl fun f cdv A outer s H E hg hr => ?_
  have nd : N_box.Nodup := sc_box.nd
  exact (ds_cons (stSet 2 nd de_int)
    (ds_cons (ds_if (tLt (nB 1) (de_look (bLen zs.len_ (aM (nB 0) da_nilM))))
    (ds_one (stSet 2 nd (de_sh (xIx (nI 0) (nB 1)))))
    ds_nil)
    (ds_one (ds_ret (xBox (aV (xMul (de_inn (bAbs zs.abs_ (aM (nB 2) da_nilM))) (de_look (bInt zs.int_ (aM (de_look (xGe (de_look (bAbs zs.abs_ (aM (nB 2) da_nilM))) (de_look (xPow (de_s1 de_int) (de_s1 de_int))))) da_nilM)))) (aV (xAdd (de_inn (xAdd (de_inn (xMod (nB 2) (de_s1 de_int))) (de_inn (xMul (de_s1 de_int) (nB 1))))) (de_s1 de_int)) (aV (de_sv de_int) da_nil))))))))
theorem ok_take (zs : Zs mg) (S : Std K mg "_law_take" s_take)  : Cal P w K mg base 1 "_law_take" s_take g_take ["_law_box_here", "_law_bound"] := by
  refine Cal.of (k := 0) 2 S sc_take rfl fun f cdv A outer s H E hg hr => ?_
  have nd : N_take.Nodup := sc_take.nd
  exact (ds_cons (ds_if (tGt (de_look (xIx (nI 0) (de_s1 de_int))) (de_s1 de_int))
    (ds_cons (stSet 2 nd (de_sh (xMod (de_look (xIx (nI 0) (de_s1 de_int))) (nB 1))))
    (ds_cons (stBset 0 (de_s1 de_int) (de_look (xFdiv (de_look (xIx (nI 0) (de_s1 de_int))) (nB 1))))
    (ds_one (stRetV 2))))
    ds_nil)
    (ds_cons (stBset 0 (de_s1 de_int) (de_look (xAdd (de_inn (xIx (nI 0) (de_s1 de_int))) (de_s1 de_int))))
    (ds_cons (stSet 3 nd (de_sh (xMod (de_look (xPow (de_look (xAdd (de_inn (xIx (nI 0) (de_s1 de_int))) (de_inn (xMul (de_s1 de_int) (de_look (xIx (nI 0) (de_s1 de_int))))))) (de_s1 de_int))) (de_s1 de_int))))
    (ds_one (ds_ret (xMod (de_look (xFdiv (de_look (xMod (de_look (xAdd (de_inn (xMul (nI 3) (de_look (xAdd (de_inn (xMod (nB 3) (de_s1 de_int))) (de_s1 de_int))))) (de_inn (xMul (de_inn (xIx (nI 0) (de_s1 de_int))) (de_s1 de_int))))) (de_s1 de_int))) (de_s1 de_int))) (nB 1)))))))
theorem ok_pick (zs : Zs mg) (S : Std K mg "_law_pick" s_pick) (c_take : Cal P w K mg base 1 "_law_take" s_take g_take ["_law_box_here", "_law_bound"]) : Cal P w K mg base 2 "_law_pick" s_pick g_pick ["_law_box_here", "_law_some"] := by
  refine Cal.of (k := 1) 0 S sc_pick rfl fun f cdv A outer s H E hg hr => ?_
  have nd : N_pick.Nodup := sc_pick.nd
  exact (ds_one (ds_ret (xIx (nI 1) (de_look (callF c_take hg (hr.mono (by omega)) (aS (nS 0) (aS (de_sh (bLen zs.len_ (aM (nB 1) da_nilM))) da_nilS)) (fun _ _ _ _ _ _ us hl => match us, hl with | [_, _], _ => rfl))))))
theorem ok_same (zs : Zs mg) (S : Std K mg "_law_same" s_same)  : ∀ m, Cal P w K mg base (0 + m) "_law_same" s_same (g_same m) ["_law_found", "_law_due"]
  | 0 => .zero S
  | m + 1 => by
    have ih := ok_same zs S  m
    refine Cal.of (k := 0 + m) 2 S sc_same rfl fun f cdv A outer s H E hg hr => ?_
    have nd : N_same.Nodup := sc_same.nd
    exact (ds_cons (ds_if (tVal (bIsi2 .tlist .ttuple zs.isinstance_ zs.list_ zs.tuple_ (nB 1)))
    (ds_cons (ds_if (PW.pt (tOr (tNe hr (de_look (bIsi .tlist zs.isinstance_ zs.list_ (nB 0))) (de_look (bIsi .tlist zs.isinstance_ zs.list_ (nB 1)))) (dw_or1 (tNe hr (de_look (bIsi .ttuple zs.isinstance_ zs.tuple_ (nB 0))) (de_look (bIsi .ttuple zs.isinstance_ zs.tuple_ (nB 1)))))))
    (ds_one (ds_ret (de_sv de_bl)))
    ds_nil)
    (ds_one (ds_ret (de_and (xEq hr (de_look (bLen zs.len_ (aM (nB 0) da_nilM))) (de_look (bLen zs.len_ (aM (nB 1) da_nilM)))) (de_one (bAll rfl zs.all_ (aM (de_look (xLc [("_law_mine", 2), ("_law_its", 3)] (.two 2 3) rfl nd (wZip zs.zip_ (aS (nS 0) (aS (nS 1) da_nilS))) (blkOk_by (N := N_same) (sc := defScope s_same) (own := [("_law_mine", 2), ("_law_its", 3)]) (by decide +kernel)) (fun _ _ _ _ _ => (g2 2 3 rfl nd)) (fun _ _ _ _ _ => dts_nil) (fun _ _ _ _ _ => (callF ih hg hr (aS (nS 2) (aS (nS 3) da_nilS)) (fun _ _ _ _ _ _ us hl => match us, hl with | [_, _], _ => rfl))))) da_nilM)))))))
    ds_nil)
    (ds_cons (ds_if (PW.pt (tOr (tIs (nB 1) (de_s1 de_non)) (dw_or1 (tVal (bIsi2 .tbool .tstr zs.isinstance_ zs.bool_ zs.str_ (nB 1))))))
    (ds_one (ds_ret (de_and (xEq hr (nB 0) (nB 1)) (de_and (xEq hr (de_look (bIsi .tbool zs.isinstance_ zs.bool_ (nB 0))) (de_look (bIsi .tbool zs.isinstance_ zs.bool_ (nB 1)))) (de_one (xEq hr (de_look (xIs (nB 0) (de_s1 de_non))) (de_look (xIs (nB 1) (de_s1 de_non)))))))))
    ds_nil)
    (ds_one (ds_ret (de_and (bIsi .tint zs.isinstance_ zs.int_ (nB 0)) (de_and (de_not (bIsi .tbool zs.isinstance_ zs.bool_ (nB 0))) (de_one (xEq hr (nB 0) (nB 1)))))))))
theorem ok_listed (zs : Zs mg) (S : Std K mg "_law_listed" s_listed)  : ∀ m, Cal P w K mg base (0 + m) "_law_listed" s_listed (g_listed m) ["_law_matter"]
  | 0 => .zero S
  | m + 1 => by
    have ih := ok_listed zs S  m
    refine Cal.of (k := 0 + m) 1 S sc_listed rfl fun f cdv A outer s H E hg hr => ?_
    have nd : N_listed.Nodup := sc_listed.nd
    exact (ds_one (ds_ret (de_ite (tVal (bIsi2 .tlist .ttuple zs.isinstance_ zs.list_ zs.tuple_ (nB 0))) (xLc [("_law_part", 1)] (.one 1) rfl nd (di_seq (nS 0)) (blkOk_by (N := N_listed) (sc := defScope s_listed) (own := [("_law_part", 1)]) (by decide +kernel)) (fun _ _ _ _ _ => (g1 1 nd)) (fun _ _ _ _ _ => dts_nil) (fun _ _ _ _ _ => (callF ih hg hr (aS (nS 1) da_nilS) (fun _ _ _ _ _ _ us hl => match us, hl with | [_], _ => rfl)))) (nV 0))))
theorem ok_strewn (zs : Zs mg) (S : Std K mg "_law_strewn" s_strewn) (c_take : Cal P w K mg base 1 "_law_take" s_take g_take ["_law_box_here", "_law_bound"]) : Cal P w K mg base 2 "_law_strewn" s_strewn g_strewn ["_law_box_here", "_law_some"] := by
  refine Cal.of (k := 1) 2 S sc_strewn rfl fun f cdv A outer s H E hg hr => ?_
  have nd : N_strewn.Nodup := sc_strewn.nd
  exact (ds_cons (stSetO 2 nd (xLst da_nil))
    (ds_cons (stFor PassesOwn.never rfl (di_seq (nS 1)) (g1 3 nd)
    (ds_one (stInsert 2 (aV (callF c_take hg (hr.mono (by omega)) (aS (nS 0) (aS (de_sh (xAdd (de_inn (bLen zs.len_ (aM (nB 2) da_nilM))) (de_s1 de_int))) da_nilS)) (fun _ _ _ _ _ _ us hl => match us, hl with | [_, _], _ => rfl)) (aV (nV 3) da_nil)))))
    (ds_one (stRetV 2))))
theorem ok_names (zs : Zs mg) (S : Std K mg "_law_names" s_names) (c_take : Cal P w K mg base 1 "_law_take" s_take g_take ["_law_box_here", "_law_bound"]) : Cal P w K mg base 2 "_law_names" s_names g_names ["_law_box_here", "_law_size"] := by
  refine Cal.of (k := 1) 7 S sc_names rfl fun f cdv A outer s H E hg hr => ?_
  have nd : N_names.Nodup := sc_names.nd
  exact (ds_cons (stUnp 2 false 3 true rfl nd (xTup (aV (de_sv (de_str (by decide +kernel))) (aV (xLst da_nil) da_nil))))
    (ds_cons (stFor PassesOwn.never rfl (wRange zs.range_ (aM (nB 1) da_nilM)) (g1 4 nd)
    (ds_cons (stSet 5 nd (de_sh (mJoin (de_s1 (de_str (by decide +kernel))) (de_look (xLc [("_law_j", 6)] (.one 6) rfl nd (wRange zs.range_ (aM (de_look (xIx (de_inn (xLst (aV (de_sv de_int) (aV (de_sv de_int) (aV (de_sv de_int) da_nil))))) (de_look (callF c_take hg (hr.mono (by omega)) (aS (nS 0) (aS de_int da_nilS)) (fun _ _ _ _ _ _ us hl => match us, hl with | [_, _], _ => rfl))))) da_nilM)) (blkOk_by (N := N_names) (sc := defScope s_names) (own := [("_law_j", 6)]) (by decide +kernel)) (fun _ _ _ _ _ => (g1 6 nd)) (fun _ _ _ _ _ => dts_nil) (fun _ _ _ _ _ => (xIx (nI 2) (de_look (callF c_take hg (hr.mono (by omega)) (aS (nS 0) (aS de_int da_nilS)) (fun _ _ _ _ _ _ us hl => match us, hl with | [_, _], _ => rfl))))))))))
    (ds_cons (ds_if (PW.pt (tAnd (tNe hr (nB 3) (de_look (xLst da_nil))) (dw_and1 (tEq hr (de_look (callF c_take hg (hr.mono (by omega)) (aS (nS 0) (aS de_int da_nilS)) (fun _ _ _ _ _ _ us hl => match us, hl with | [_, _], _ => rfl))) (de_s1 de_int)))))
    (ds_one (stSet 5 nd (de_sh (xAdd (de_inn (de_sl (de_inn (xIx (nI 3) (de_s1 de_int))) dp_none (dp_some (de_s1 de_int)))) (de_inn (xIx (nI 2) (de_look (callF c_take hg (hr.mono (by omega)) (aS (nS 0) (aS de_int da_nilS)) (fun _ _ _ _ _ _ us hl => match us, hl with | [_, _], _ => rfl)))))))))
    ds_nil)
    (ds_one (stAppend 3 (aV (xIx (de_inn (xLc [("_law_maybe", 7)] (.one 7) rfl nd (di_seq (de_sh (xAdd (de_inn (xLst (aV (nV 5) da_nil))) (de_inn (xLc [("_law_sign", 8)] (.one 8) rfl nd (di_seq (nS 2)) (blkOk_by (N := N_names) (sc := defScope s_names) (own := [("_law_sign", 8)]) (by decide +kernel)) (fun _ _ _ _ _ => (g1 8 nd)) (fun _ _ _ _ _ => dts_nil) (fun _ _ _ _ _ => (xAdd (de_inn (de_sl (nI 5) dp_none (dp_some (de_s1 de_int)))) (nI 8)))))))) (blkOk_by (N := N_names) (sc := defScope s_names) (own := [("_law_maybe", 7)]) (by decide +kernel)) (fun _ _ _ _ _ => (g1 7 nd)) (fun _ _ _ _ _ => dts_one (tNin hr (nB 7) (nB 3))) (fun _ _ _ _ _ => (nV 7)))) (de_s1 de_int)) da_nil))))))
    (ds_one (ds_ret (bSort zs.sorted_ (aM (nB 3) da_nilM))))))
theorem ok_heap (zs : Zs mg) (S : Std K mg "_law_heap" s_heap) (c_take : Cal P w K mg base 1 "_law_take" s_take g_take ["_law_box_here", "_law_bound"]) (c_strewn : Cal P w K mg base 2 "_law_strewn" s_strewn g_strewn ["_law_box_here", "_law_some"]) (c_names : Cal P w K mg base 2 "_law_names" s_names g_names ["_law_box_here", "_law_size"]) : Cal P w K mg base 3 "_law_heap" s_heap g_heap ["_law_box_here", "_law_least", "_law_most"] := by
  refine Cal.of (k := 2) 0 S sc_heap rfl fun f cdv A outer s H E hg hr => ?_
  have nd : N_heap.Nodup := sc_heap.nd
  exact (ds_one (ds_ret (bTuple zs.tuple_ (aM (de_inn (callF c_strewn hg (hr.mono (by omega)) (aS (nS 0) (aS (de_sh (callF c_names hg (hr.mono (by omega)) (aS (nS 0) (aS (de_sh (xAdd (nI 1) (de_inn (callF c_take hg (hr.mono (by omega)) (aS (nS 0) (aS (de_sh (xAdd (de_inn (xSub (nB 2) (nB 1))) (de_s1 de_int))) da_nilS)) (fun _ _ _ _ _ _ us hl => match us, hl with | [_, _], _ => rfl))))) da_nilS)) (fun _ _ _ _ _ _ us hl => match us, hl with | [_, _], _ => rfl))) da_nilS)) (fun _ _ _ _ _ _ us hl => match us, hl with | [_, _], _ => rfl))) da_nilM))))
theorem ok_ties (zs : Zs mg) (S : Std K mg "_law_ties" s_ties) (c_take : Cal P w K mg base 1 "_law_take" s_take g_take ["_law_box_here", "_law_bound"]) (c_strewn : Cal P w K mg base 2 "_law_strewn" s_strewn g_strewn ["_law_box_here", "_law_some"]) : Cal P w K mg base 3 "_law_ties" s_ties g_ties ["_law_box_here", "_law_stack"] := by
  refine Cal.of (k := 2) 7 S sc_ties rfl fun f cdv A outer s H E hg hr => ?_
  have nd : N_ties.Nodup := sc_ties.nd
  exact (ds_cons (stPar3 2 false 3 false 4 false rfl nd (aV (de_sv (de_sh (callF c_take hg (hr.mono (by omega)) (aS (nS 0) (aS de_int da_nilS)) (fun _ _ _ _ _ _ us hl => match us, hl with | [_, _], _ => rfl)))) (aV (de_sv (de_sh (xLst da_nil))) (aV (de_sv (de_sh (bSort zs.sorted_ (aM (nB 1) da_nilM)))) da_nil))))
    (ds_cons (stSet 5 nd (de_sh (xIx (de_inn (xLst (aV (de_sv de_int) (aV (de_sv de_int) (aV (de_sv de_int) (aV (de_sv de_int) (aV (de_sv de_int) (aV (de_sv de_int) (aV (de_sv de_int) da_nil))))))))) (nB 2))))
    (ds_cons (stFor PassesOwn.never rfl (di_seq (nS 4)) (g1 6 nd)
    (ds_one (stFor PassesOwn.never rfl (di_seq (nS 4)) (g1 7 nd)
    (ds_one (ds_if (PW.pt (tAnd (tNe hr (nB 6) (nB 7)) (dw_and1 (tGt (nB 5) (de_s1 de_int)))))
    (ds_one (stSet 3 nd (de_sh (xAdd (nI 3) (de_inn (xMul (de_inn (xLst (aV (xTup (aV (nV 6) (aV (nV 7) da_nil))) da_nil))) (de_look (bInt zs.int_ (aM (de_look (xNe hr (de_look (xEq hr (de_look (callF c_take hg (hr.mono (by omega)) (aS (nS 0) (aS (nS 5) da_nilS)) (fun _ _ _ _ _ _ us hl => match us, hl with | [_, _], _ => rfl))) (de_s1 de_int))) (de_look (xEq hr (nB 2) (de_s1 de_int))))) da_nilM)))))))))
    ds_nil)))))
    (ds_cons (ds_if (tEq hr (nB 2) (de_s1 de_int))
    (ds_cons (stSet 8 nd (de_sh (callF c_strewn hg (hr.mono (by omega)) (aS (nS 0) (aS (nS 4) da_nilS)) (fun _ _ _ _ _ _ us hl => match us, hl with | [_, _], _ => rfl))))
    (ds_one (stSet 3 nd (de_sh (xAdd (nI 3) (de_inn (xLc [("_law_mine", 6), ("_law_its", 7)] (.two 6 7) rfl nd (wZip zs.zip_ (aS (nS 8) (aS (de_sh (xAdd (de_inn (de_sl (nI 8) (dp_some (de_s1 de_int)) dp_none)) (de_inn (de_sl (nI 8) dp_none (dp_some (de_s1 de_int)))))) da_nilS))) (blkOk_by (N := N_ties) (sc := defScope s_ties) (own := [("_law_mine", 6), ("_law_its", 7)]) (by decide +kernel)) (fun _ _ _ _ _ => (g2 6 7 rfl nd)) (fun _ _ _ _ _ => dts_one (tNe hr (nB 6) (nB 7))) (fun _ _ _ _ _ => (xTup (aV (nV 6) (aV (nV 7) da_nil)))))))))))
    ds_nil)
    (ds_cons (ds_if (tEq hr (nB 2) (de_s1 de_int))
    (ds_one (stSet 3 nd (de_sh (xAdd (nI 3) (de_inn (xLc [("_law_mine", 6), ("_law_its", 7)] (.two 6 7) rfl nd (di_seq (nS 3)) (blkOk_by (N := N_ties) (sc := defScope s_ties) (own := [("_law_mine", 6), ("_law_its", 7)]) (by decide +kernel)) (fun _ _ _ _ _ => (g2 6 7 rfl nd)) (fun _ _ _ _ _ => dts_nil) (fun _ _ _ _ _ => (xTup (aV (nV 7) (aV (nV 6) da_nil))))))))))
    ds_nil)
    (ds_one (ds_ret (bTuple zs.tuple_ (aM (de_inn (bSortSet rfl hr zs.sorted_ zs.set_ (aM (nB 3) da_nilM))) da_nilM)))))))))
theorem ok_above (zs : Zs mg) (S : Std K mg "_law_above" s_above)  : Cal P w K mg base 1 "_law_above" s_above g_above ["_law_stack", "_law_mine", "_law_its"] := by
  refine Cal.of (k := 0) 0 S sc_above rfl fun f cdv A outer s H E hg hr => ?_
  have nd : N_above.Nodup := sc_above.nd
  exact (ds_one (ds_ret (xLt (de_look (mIndex hr (nB 0) (nB 1))) (de_look (mIndex hr (nB 0) (nB 2))))))
theorem ok_friends (zs : Zs mg) (S : Std K mg "_law_friends" s_friends)  : Cal P w K mg base 1 "_law_friends" s_friends g_friends ["_law_pairs", "_law_mine"] := by
  refine Cal.of (k := 0) 2 S sc_friends rfl fun f cdv A outer s H E hg hr => ?_
  have nd : N_friends.Nodup := sc_friends.nd
  exact (ds_one (ds_ret (xLc [("_law_whose", 2), ("_law_its", 3)] (.two 2 3) rfl nd (di_seq (nS 0)) (blkOk_by (N := N_friends) (sc := defScope s_friends) (own := [("_law_whose", 2), ("_law_its", 3)]) (by decide +kernel)) (fun _ _ _ _ _ => (g2 2 3 rfl nd)) (fun _ _ _ _ _ => dts_one (tEq hr (nB 2) (nB 1))) (fun _ _ _ _ _ => (nV 3)))))
theorem ok_let (zs : Zs mg) (S : Std K mg "_law_let" s_let) (c_above : Cal P w K mg base 1 "_law_above" s_above g_above ["_law_stack", "_law_mine", "_law_its"]) (c_friends : Cal P w K mg base 1 "_law_friends" s_friends g_friends ["_law_pairs", "_law_mine"]) : Cal P w K mg base 2 "_law_let" s_let g_let ["_law_stack", "_law_pairs", "_law_mine"] := by
  refine Cal.of (k := 1) 1 S sc_let rfl fun f cdv A outer s H E hg hr => ?_
  have nd : N_let.Nodup := sc_let.nd
  exact (ds_one (ds_ret (bAll rfl zs.all_ (aM (de_look (xLc [("_law_its", 3)] (.one 3) rfl nd (di_seq (de_sh (callF c_friends hg (hr.mono (by omega)) (aS (nS 1) (aS (nS 2) da_nilS)) (fun _ _ _ _ _ _ us hl => match us, hl with | [_, _], _ => rfl)))) (blkOk_by (N := N_let) (sc := defScope s_let) (own := [("_law_its", 3)]) (by decide +kernel)) (fun _ _ _ _ _ => (g1 3 nd)) (fun _ _ _ _ _ => dts_nil) (fun _ _ _ _ _ => (callF c_above hg (hr.mono (by omega)) (aS (nS 0) (aS (nS 3) (aS (nS 2) da_nilS))) (fun _ _ _ _ _ _ us hl => match us, hl with | [_, _, _], _ => rfl))))) da_nilM))))
theorem ok_moved (zs : Zs mg) (S : Std K mg "_law_moved" s_moved)  : Cal P w K mg base 1 "_law_moved" s_moved g_moved ["_law_stack", "_law_mine"] := by
  refine Cal.of (k := 0) 1 S sc_moved rfl fun f cdv A outer s H E hg hr => ?_
  have nd : N_moved.Nodup := sc_moved.nd
  exact (ds_one (ds_ret (xAdd (de_inn (xTup (aV (nV 1) da_nil))) (de_inn (bTuple zs.tuple_ (aM (de_inn (xLc [("_law_its", 2)] (.one 2) rfl nd (di_seq (nS 0)) (blkOk_by (N := N_moved) (sc := defScope s_moved) (own := [("_law_its", 2)]) (by decide +kernel)) (fun _ _ _ _ _ => (g1 2 nd)) (fun _ _ _ _ _ => dts_one (tNe hr (nB 2) (nB 1))) (fun _ _ _ _ _ => (nV 2)))) da_nilM))))))
theorem ok_left (zs : Zs mg) (S : Std K mg "_law_left" s_left) (c_moved : Cal P w K mg base 1 "_law_moved" s_moved g_moved ["_law_stack", "_law_mine"]) : Cal P w K mg base 2 "_law_left" s_left g_left ["_law_stack", "_law_steps"] := by
  refine Cal.of (k := 1) 1 S sc_left rfl fun f cdv A outer s H E hg hr => ?_
  have nd : N_left.Nodup := sc_left.nd
  exact (ds_cons (stFor PassesOwn.never rfl (di_seq (nS 1)) (g1 2 nd)
    (ds_one (stSet 0 nd (de_sh (callF c_moved hg (hr.mono (by omega)) (aS (nS 0) (aS (nS 2) da_nilS)) (fun _ _ _ _ _ _ us hl => match us, hl with | [_, _], _ => rfl))))))
    (ds_one (stRetV 0)))
theorem ok_refused_at (zs : Zs mg) (S : Std K mg "_law_refused_at" s_refused_at) (c_let : Cal P w K mg base 2 "_law_let" s_let g_let ["_law_stack", "_law_pairs", "_law_mine"]) (c_moved : Cal P w K mg base 1 "_law_moved" s_moved g_moved ["_law_stack", "_law_mine"]) : Cal P w K mg base 3 "_law_refused_at" s_refused_at g_refused_at ["_law_stack", "_law_pairs", "_law_steps"] := by
  refine Cal.of (k := 2) 2 S sc_refused_at rfl fun f cdv A outer s H E hg hr => ?_
  have nd : N_refused_at.Nodup := sc_refused_at.nd
  exact (ds_cons (stFor PassesOwn.never rfl (wEnum zs.enumerate_ (aS (nS 2) da_nilS)) (g2 3 4 rfl nd)
    (ds_cons (ds_if (dt_not (tVal (callF c_let hg (hr.mono (by omega)) (aS (nS 0) (aS (nS 1) (aS (nS 4) da_nilS))) (fun _ _ _ _ _ _ us hl => match us, hl with | [_, _, _], _ => rfl))))
    (ds_one (stRetV 3))
    ds_nil)
    (ds_one (stSet 0 nd (de_sh (callF c_moved hg (hr.mono (by omega)) (aS (nS 0) (aS (nS 4) da_nilS)) (fun _ _ _ _ _ _ us hl => match us, hl with | [_, _], _ => rfl)))))))
    (ds_one (ds_ret (de_sv de_non))))
theorem ok_beneath (zs : Zs mg) (S : Std K mg "_law_beneath" s_beneath) (c_above : Cal P w K mg base 1 "_law_above" s_above g_above ["_law_stack", "_law_mine", "_law_its"]) (c_friends : Cal P w K mg base 1 "_law_friends" s_friends g_friends ["_law_pairs", "_law_mine"]) : Cal P w K mg base 2 "_law_beneath" s_beneath g_beneath ["_law_stack", "_law_pairs", "_law_some"] := by
  refine Cal.of (k := 1) 5 S sc_beneath rfl fun f cdv A outer s H E hg hr => ?_
  have nd : N_beneath.Nodup := sc_beneath.nd
  exact (ds_cons (stUnp 3 false 4 false rfl nd (xTup (aV (de_sv (de_sh (bList zs.list_ (aM (nI 2) da_nilM)))) (aV (de_sv de_int) da_nil))))
    (ds_cons (stWhile 10000 PassesOwn.never (tLt (nB 4) (de_look (bLen zs.len_ (aM (nB 3) da_nilM))))
    (ds_cons (stSet 5 nd (de_sh (xIx (nI 3) (nB 4))))
    (ds_cons (stSetLc 6 [("_law_its", 7)] (.one 7) rfl nd (sw_true rfl rfl rfl (by decide +kernel)) (di_seq (de_sh (callF c_friends hg (hr.mono (by omega)) (aS (nS 1) (aS (nS 5) da_nilS)) (fun _ _ _ _ _ _ us hl => match us, hl with | [_, _], _ => rfl)))) (blkOk_by (N := N_beneath) (sc := defScope s_beneath) (own := [("_law_its", 7)]) (by decide +kernel)) (fun _ _ _ _ _ => (g1 7 nd)) (fun _ _ _ _ _ => dts_one (tVal (callF c_above hg (hr.mono (by omega)) (aS (nS 0) (aS (nS 5) (aS (nS 7) da_nilS))) (fun _ _ _ _ _ _ us hl => match us, hl with | [_, _, _], _ => rfl)))) (fun _ _ _ _ _ => (nV 7)))
    (ds_preS (is := [6]) (ds_cons (stSet 3 nd (de_sh (xAdd (nI 3) (de_inn (xLc [("_law_its", 7)] (.one 7) rfl nd (di_seq (nS 6)) (blkOk_by (N := N_beneath) (sc := defScope s_beneath) (own := [("_law_its", 7)]) (by decide +kernel)) (fun _ _ _ _ _ => (g1 7 nd)) (fun _ _ _ _ _ => dts_one (tNin hr (nB 7) (nB 3))) (fun _ _ _ _ _ => (nV 7)))))))
    (ds_one (stSet 4 nd (de_sh (xAdd (nI 4) (de_s1 de_int))))))))))
    (ds_one (stRetV 3))))
theorem ok_right (zs : Zs mg) (S : Std K mg "_law_right" s_right) (c_must_go : Cal P w K mg base 3 "must_go" s_must_go g_must_go ["heap", "ties", "books"]) (c_lift : Cal P w K mg base 3 "lift" s_lift g_lift ["heap", "ties", "books"]) (c_take : Cal P w K mg base 1 "_law_take" s_take g_take ["_law_box_here", "_law_bound"]) (c_pick : Cal P w K mg base 2 "_law_pick" s_pick g_pick ["_law_box_here", "_law_some"]) (c_same : Cal P w K mg base 6 "_law_same" s_same (g_same 6) ["_law_found", "_law_due"]) (c_listed : Cal P w K mg base 6 "_law_listed" s_listed (g_listed 6) ["_law_matter"]) (c_strewn : Cal P w K mg base 2 "_law_strewn" s_strewn g_strewn ["_law_box_here", "_law_some"]) (c_heap : Cal P w K mg base 3 "_law_heap" s_heap g_heap ["_law_box_here", "_law_least", "_law_most"]) (c_ties : Cal P w K mg base 3 "_law_ties" s_ties g_ties ["_law_box_here", "_law_stack"]) (c_left : Cal P w K mg base 2 "_law_left" s_left g_left ["_law_stack", "_law_steps"]) (c_refused_at : Cal P w K mg base 3 "_law_refused_at" s_refused_at g_refused_at ["_law_stack", "_law_pairs", "_law_steps"]) (c_beneath : Cal P w K mg base 2 "_law_beneath" s_beneath g_beneath ["_law_stack", "_law_pairs", "_law_some"]) : Cal P w K mg base 7 "_law_right" s_right g_right ["_law_box_here"] := by
  refine Cal.of (k := 6) 9 S sc_right rfl fun f cdv A outer s H E hg hr => ?_
  have nd : N_right.Nodup := sc_right.nd
  exact (ds_cons (stSet 1 nd (de_sh (callF c_heap hg (hr.mono (by omega)) (aS (nS 0) (aS de_int (aS de_int da_nilS))) (fun _ _ _ _ _ _ us hl => match us, hl with | [_, _, _], _ => rfl))))
    (ds_cons (stSet 2 nd (de_sh (callF c_ties hg (hr.mono (by omega)) (aS (nS 0) (aS (nS 1) da_nilS)) (fun _ _ _ _ _ _ us hl => match us, hl with | [_, _], _ => rfl))))
    (ds_cons (stFor PassesOwn.never rfl (di_seq (de_sh (xTup (aV (xLst da_nil) (aV (xLst (aV (callF c_pick hg (hr.mono (by omega)) (aS (nS 0) (aS (de_sh (bList zs.list_ (aM (nI 1) da_nilM))) da_nilS)) (fun _ _ _ _ _ _ us hl => match us, hl with | [_, _], _ => rfl)) da_nil)) (aV (de_sl (de_inn (callF c_strewn hg (hr.mono (by omega)) (aS (nS 0) (aS (nS 1) da_nilS)) (fun _ _ _ _ _ _ us hl => match us, hl with | [_, _], _ => rfl))) dp_none (dp_some (de_look (callF c_take hg (hr.mono (by omega)) (aS (nS 0) (aS de_int da_nilS)) (fun _ _ _ _ _ _ us hl => match us, hl with | [_, _], _ => rfl))))) (aV (bList zs.list_ (aM (nI 1) da_nilM)) da_nil))))))) (g1 3 nd)
    (ds_cons (stUnp 4 false 5 false rfl nd (xTup (aV (de_sv (de_sh (callF c_beneath hg (hr.mono (by omega)) (aS (nS 1) (aS (nS 2) (aS (nS 3) da_nilS))) (fun _ _ _ _ _ _ us hl => match us, hl with | [_, _, _], _ => rfl)))) (aV (de_sv (de_sh (bRepr hg hr zs.repr_ (aM (de_look (xLst (aV (nV 1) (aV (nV 2) (aV (nV 3) da_nil))))) da_nilM)))) da_nil))))
    (ds_cons (stSet 6 nd (de_sh (xLst (aV (bSort zs.sorted_ (aM (nB 4) da_nilM)) (aV (xLc [("_law_mine", 7)] (.one 7) rfl nd (di_seq (de_sh (de_rev (nI 1)))) (blkOk_by (N := N_right) (sc := defScope s_right) (own := [("_law_mine", 7)]) (by decide +kernel)) (fun _ _ _ _ _ => (g1 7 nd)) (fun _ _ _ _ _ => dts_one (tIn hr (nB 7) (nB 4))) (fun _ _ _ _ _ => (nV 7))) da_nil)))))
    (ds_cons (stFor PassesOwn.never rfl (wRange zs.range_ (aM (de_s1 de_int) da_nilM)) (g1 8 nd)
    (ds_cons (stSetO 9 nd (xLst (aV (callF c_must_go hg (hr.mono (by omega)) (aS (nS 1) (aS (nS 2) (aS (nS 3) da_nilS))) (fun _ _ _ _ _ _ us hl => match us, hl with | [_, _, _], _ => rfl)) (aV (callF c_lift hg (hr.mono (by omega)) (aS (nS 1) (aS (nS 2) (aS (de_sh (de_rev (nI 3))) da_nilS))) (fun _ _ _ _ _ _ us hl => match us, hl with | [_, _, _], _ => rfl)) da_nil))))
    (ds_cons (ds_if (dt_not (tVal (callS c_same hg (hr.mono (by omega)) (aM (nB 9) (aM (nB 6) da_nilM)) (fun _ _ _ _ _ _ us hl => match us, hl with | [_, _], _ => rfl))))
    (ds_one (ds_ret (de_sv de_bl)))
    ds_nil)
    (ds_cons (stAppendAt 9 0 (aV (de_sv (de_str (by decide +kernel))) da_nil))
    (ds_one (stAppendAt 9 1 (aV (de_sv (de_str (by decide +kernel))) da_nil)))))))
    (ds_cons (stSetO 9 nd (xLst (aV (callK0 [2, 1, 0] c_must_go hg (hr.mono (by omega)) (kS (de_sh (bTuple zs.tuple_ (aM (nI 3) da_nilM))) (kS (de_sh (callF c_listed hg (hr.mono (by omega)) (aS (nS 2) da_nilS) (fun _ _ _ _ _ _ us hl => match us, hl with | [_], _ => rfl))) (kS (de_sh (bList zs.list_ (aM (nI 1) da_nilM))) dk_nil))) (fun _ _ _ _ _ _ ws hl => match ws, hl with | [_, _, _], _ => rfl)) da_nil)))
    (ds_cons (stAppend 9 (aV (callK0 [2, 1, 0] c_lift hg (hr.mono (by omega)) (kS (de_sh (bTuple zs.tuple_ (aM (nI 3) da_nilM))) (kS (de_sh (callF c_listed hg (hr.mono (by omega)) (aS (nS 2) da_nilS) (fun _ _ _ _ _ _ us hl => match us, hl with | [_], _ => rfl))) (kS (de_sh (bList zs.list_ (aM (nI 1) da_nilM))) dk_nil))) (fun _ _ _ _ _ _ ws hl => match ws, hl with | [_, _, _], _ => rfl)) da_nil))
    (ds_cons (ds_if (PW.pt (tOr (dt_not (tVal (callS c_same hg (hr.mono (by omega)) (aM (nB 9) (aM (nB 6) da_nilM)) (fun _ _ _ _ _ _ us hl => match us, hl with | [_, _], _ => rfl)))) (dw_or1 (tNe hr (de_look (bRepr hg hr zs.repr_ (aM (de_look (xLst (aV (nV 1) (aV (nV 2) (aV (nV 3) da_nil))))) da_nilM))) (nB 5)))))
    (ds_one (ds_ret (de_sv de_bl)))
    ds_nil)
    (ds_cons (ds_if (tIsNot (de_look (callF c_refused_at hg (hr.mono (by omega)) (aS (nS 1) (aS (nS 2) (aS (de_sh (xIx (nI 6) (de_s1 de_int))) da_nilS))) (fun _ _ _ _ _ _ us hl => match us, hl with | [_, _, _], _ => rfl))) (de_s1 de_non))
    (ds_one (ds_ret (de_sv de_bl)))
    ds_nil)
    (ds_one (ds_if (PW.pt (tAnd (tEq hr (de_look (bLen zs.len_ (aM (nB 3) da_nilM))) (de_s1 de_int)) (dw_and1 (tNe hr (de_look (xIx (de_inn (callF c_left hg (hr.mono (by omega)) (aS (nS 1) (aS (de_sh (xIx (nI 6) (de_s1 de_int))) da_nilS)) (fun _ _ _ _ _ _ us hl => match us, hl with | [_, _], _ => rfl))) (de_s1 de_int))) (de_look (xIx (nI 3) (de_s1 de_int)))))))
    (ds_one (ds_ret (de_sv de_bl)))
    ds_nil))))))))))
    (ds_one (ds_ret (de_sv de_bl))))))
theorem go_law (zs : Zs mg) {f : Addr} {od an : Option Addr} {osl : Array (Option Value)} {oc kV doc pm cdv ct : Value} (lk : K.lookup f = some ⟨oc, od, .func (PySem.W.fnOf "law" "law" (defArgs s_law) (defBody s_law) (defScope s_law) .none kV doc pm an cdv ct), osl⟩) (hcd : PySem.W.codeIn K cdv "law" = true) (c_box : Cal P w K mg base 1 "_law_box" s_box g_box ["_law_script", "_law_k"]) (c_right : Cal P w K mg base 7 "_law_right" s_right g_right ["_law_box_here"]) : FnG P w K mg base 8 f (PySem.W.fnOf "law" "law" (defArgs s_law) (defBody s_law) (defScope s_law) .none kV doc pm an cdv ct) ["_law_script"] (spF K g_law 1) := by
  refine fn_g (k := 7) 3 lk hcd sc_law rfl fun A outer s H E hg hr => ?_
  have nd : N_law.Nodup := sc_law.nd
  exact (ds_cons (stSetLc 1 [("_law_k", 2)] (.one 2) rfl nd (sw_true rfl rfl rfl (by decide +kernel)) (wRange zs.range_ (aM (de_look (xAdd (de_s1 de_int) (de_inn (bMin rfl zs.min_ (aM (de_s1 de_int) (aM (de_look (bLen zs.len_ (aM (nB 0) da_nilM))) da_nilM)))))) da_nilM)) (blkOk_by (N := N_law) (sc := defScope s_law) (own := [("_law_k", 2)]) (by decide +kernel)) (fun _ _ _ _ _ => (g1 2 nd)) (fun _ _ _ _ _ => dts_nil) (fun _ _ _ _ _ => (callF c_box hg (hr.mono (by omega)) (aS (nS 0) (aS (nS 2) da_nilS)) (fun _ _ _ _ _ _ us hl => match us, hl with | [_, _], _ => rfl))))
    (ds_preS (is := [1]) (ds_one (ds_ret (bAll rfl zs.all_ (aM (de_look (xLc [("_law_box_here", 3)] (.one 3) rfl nd (di_seq (de_sh (xMul (nI 1) (de_s1 de_int)))) (blkOk_by (N := N_law) (sc := defScope s_law) (own := [("_law_box_here", 3)]) (by decide +kernel)) (fun _ _ _ _ _ => (g1 3 nd)) (fun _ _ _ _ _ => dts_nil) (fun _ _ _ _ _ => (callF c_right hg (hr.mono (by omega)) (aS (nS 3) da_nilS) (fun _ _ _ _ _ _ us hl => match us, hl with | [_], _ => rfl))))) da_nilM))))))
end
theorem all_mk {l : PySem.W.OpenLaw} {w : World} {K : PySem.W.Frag} {h : Heap} {mg : Str → Option Value} {fa : Addr} (X : K.In h) (G : h.Ns mainGlobals mg) (hfa : mg "law" = some (.ref fa))
  {f0 : Addr} {od0 an0 : Option Addr} {sl0 : Array (Option Value)} {oc0 kV0 dc0 pm0 cd0 ct0 : Value} (a0 : PySem.W.nsIn K mainGlobals "friends_of" = some (some (.ref f0)))
    (l0 : K.lookup f0 = some ⟨oc0, od0, .func (PySem.W.fnOf "friends_of" "friends_of" (defArgs s_friends_of) (defBody s_friends_of) (defScope s_friends_of) .none kV0 dc0 pm0 an0 cd0 ct0), sl0⟩) (c0 : PySem.W.codeIn K cd0 "friends_of" = true) (k0 : PySem.W.keepIn K (.ref f0) = true)
  {f1 : Addr} {od1 an1 : Option Addr} {sl1 : Array (Option Value)} {oc1 kV1 dc1 pm1 cd1 ct1 : Value} (a1 : PySem.W.nsIn K mainGlobals "places_in" = some (some (.ref f1)))
    (l1 : K.lookup f1 = some ⟨oc1, od1, .func (PySem.W.fnOf "places_in" "places_in" (defArgs s_places_in) (defBody s_places_in) (defScope s_places_in) .none kV1 dc1 pm1 an1 cd1 ct1), sl1⟩) (c1 : PySem.W.codeIn K cd1 "places_in" = true) (k1 : PySem.W.keepIn K (.ref f1) = true)
  {f2 : Addr} {od2 an2 : Option Addr} {sl2 : Array (Option Value)} {oc2 kV2 dc2 pm2 cd2 ct2 : Value} (a2 : PySem.W.nsIn K mainGlobals "ways_down" = some (some (.ref f2)))
    (l2 : K.lookup f2 = some ⟨oc2, od2, .func (PySem.W.fnOf "ways_down" "ways_down" (defArgs s_ways_down) (defBody s_ways_down) (defScope s_ways_down) .none kV2 dc2 pm2 an2 cd2 ct2), sl2⟩) (c2 : PySem.W.codeIn K cd2 "ways_down" = true) (k2 : PySem.W.keepIn K (.ref f2) = true)
  {f3 : Addr} {od3 an3 : Option Addr} {sl3 : Array (Option Value)} {oc3 kV3 dc3 pm3 cd3 ct3 : Value} (a3 : PySem.W.nsIn K mainGlobals "must_go" = some (some (.ref f3)))
    (l3 : K.lookup f3 = some ⟨oc3, od3, .func (PySem.W.fnOf "must_go" "must_go" (defArgs s_must_go) (defBody s_must_go) (defScope s_must_go) .none kV3 dc3 pm3 an3 cd3 ct3), sl3⟩) (c3 : PySem.W.codeIn K cd3 "must_go" = true) (k3 : PySem.W.keepIn K (.ref f3) = true)
  {f4 : Addr} {od4 an4 : Option Addr} {sl4 : Array (Option Value)} {oc4 kV4 dc4 pm4 cd4 ct4 : Value} (a4 : PySem.W.nsIn K mainGlobals "lift" = some (some (.ref f4)))
    (l4 : K.lookup f4 = some ⟨oc4, od4, .func (PySem.W.fnOf "lift" "lift" (defArgs s_lift) (defBody s_lift) (defScope s_lift) .none kV4 dc4 pm4 an4 cd4 ct4), sl4⟩) (c4 : PySem.W.codeIn K cd4 "lift" = true) (k4 : PySem.W.keepIn K (.ref f4) = true)
  {f5 : Addr} {od5 an5 : Option Addr} {sl5 : Array (Option Value)} {oc5 kV5 dc5 pm5 cd5 ct5 : Value} (a5 : PySem.W.nsIn K mainGlobals "_law_box" = some (some (.ref f5)))
    (l5 : K.lookup f5 = some ⟨oc5, od5, .func (PySem.W.fnOf "_law_box" "_law_box" (defArgs s_box) (defBody s_box) (defScope s_box) .none kV5 dc5 pm5 an5 cd5 ct5), sl5⟩) (c5 : PySem.W.codeIn K cd5 "_law_box" = true) (k5 : PySem.W.keepIn K (.ref f5) = true)
  {f6 : Addr} {od6 an6 : Option Addr} {sl6 : Array (Option Value)} {oc6 kV6 dc6 pm6 cd6 ct6 : Value} (a6 : PySem.W.nsIn K mainGlobals "_law_take" = some (some (.ref f6)))
    (l6 : K.lookup f6 = some ⟨oc6, od6, .func (PySem.W.fnOf "_law_take" "_law_take" (defArgs s_take) (defBody s_take) (defScope s_take) .none kV6 dc6 pm6 an6 cd6 ct6), sl6⟩) (c6 : PySem.W.codeIn K cd6 "_law_take" = true) (k6 : PySem.W.keepIn K (.ref f6) = true)
  {f7 : Addr} {od7 an7 : Option Addr} {sl7 : Array (Option Value)} {oc7 kV7 dc7 pm7 cd7 ct7 : Value} (a7 : PySem.W.nsIn K mainGlobals "_law_pick" = some (some (.ref f7)))
    (l7 : K.lookup f7 = some ⟨oc7, od7, .func (PySem.W.fnOf "_law_pick" "_law_pick" (defArgs s_pick) (defBody s_pick) (defScope s_pick) .none kV7 dc7 pm7 an7 cd7 ct7), sl7⟩) (c7 : PySem.W.codeIn K cd7 "_law_pick" = true) (k7 : PySem.W.keepIn K (.ref f7) = true)
  {f8 : Addr} {od8 an8 : Option Addr} {sl8 : Array (Option Value)} {oc8 kV8 dc8 pm8 cd8 ct8 : Value} (a8 : PySem.W.nsIn K mainGlobals "_law_same" = some (some (.ref f8)))
    (l8 : K.lookup f8 = some ⟨oc8, od8, .func (PySem.W.fnOf "_law_same" "_law_same" (defArgs s_same) (defBody s_same) (defScope s_same) .none kV8 dc8 pm8 an8 cd8 ct8), sl8⟩) (c8 : PySem.W.codeIn K cd8 "_law_same" = true) (k8 : PySem.W.keepIn K (.ref f8) = true)
  {f9 : Addr} {od9 an9 : Option Addr} {sl9 : Array (Option Value)} {oc9 kV9 dc9 pm9 cd9 ct9 : Value} (a9 : PySem.W.nsIn K mainGlobals "_law_listed" = some (some (.ref f9)))
    (l9 : K.lookup f9 = some ⟨oc9, od9, .func (PySem.W.fnOf "_law_listed" "_law_listed" (defArgs s_listed) (defBody s_listed) (defScope s_listed) .none kV9 dc9 pm9 an9 cd9 ct9), sl9⟩) (c9 : PySem.W.codeIn K cd9 "_law_listed" = true) (k9 : PySem.W.keepIn K (.ref f9) = true)
  {f10 : Addr} {od10 an10 : Option Addr} {sl10 : Array (Option Value)} {oc10 kV10 dc10 pm10 cd10 ct10 : Value} (a10 : PySem.W.nsIn K mainGlobals "_law_strewn" = some (some (.ref f10)))
    (l10 : K.lookup f10 = some ⟨oc10, od10, .func (PySem.W.fnOf "_law_strewn" "_law_strewn" (defArgs s_strewn) (defBody s_strewn) (defScope s_strewn) .none kV10 dc10 pm10 an10 cd10 ct10), sl10⟩) (c10 : PySem.W.codeIn K cd10 "_law_strewn" = true) (k10 : PySem.W.keepIn K (.ref f10) = true)
  {f11 : Addr} {od11 an11 : Option Addr} {sl11 : Array (Option Value)} {oc11 kV11 dc11 pm11 cd11 ct11 : Value} (a11 : PySem.W.nsIn K mainGlobals "_law_names" = some (some (.ref f11)))
    (l11 : K.lookup f11 = some ⟨oc11, od11, .func (PySem.W.fnOf "_law_names" "_law_names" (defArgs s_names) (defBody s_names) (defScope s_names) .none kV11 dc11 pm11 an11 cd11 ct11), sl11⟩) (c11 : PySem.W.codeIn K cd11 "_law_names" = true) (k11 : PySem.W.keepIn K (.ref f11) = true)
  {f12 : Addr} {od12 an12 : Option Addr} {sl12 : Array (Option Value)} {oc12 kV12 dc12 pm12 cd12 ct12 : Value} (a12 : PySem.W.nsIn K mainGlobals "_law_heap" = some (some (.ref f12)))
    (l12 : K.lookup f12 = some ⟨oc12, od12, .func (PySem.W.fnOf "_law_heap" "_law_heap" (defArgs s_heap) (defBody s_heap) (defScope s_heap) .none kV12 dc12 pm12 an12 cd12 ct12), sl12⟩) (c12 : PySem.W.codeIn K cd12 "_law_heap" = true) (k12 : PySem.W.keepIn K (.ref f12) = true)
  {f13 : Addr} {od13 an13 : Option Addr} {sl13 : Array (Option Value)} {oc13 kV13 dc13 pm13 cd13 ct13 : Value} (a13 : PySem.W.nsIn K mainGlobals "_law_ties" = some (some (.ref f13)))
    (l13 : K.lookup f13 = some ⟨oc13, od13, .func (PySem.W.fnOf "_law_ties" "_law_ties" (defArgs s_ties) (defBody s_ties) (defScope s_ties) .none kV13 dc13 pm13 an13 cd13 ct13), sl13⟩) (c13 : PySem.W.codeIn K cd13 "_law_ties" = true) (k13 : PySem.W.keepIn K (.ref f13) = true)
  {f14 : Addr} {od14 an14 : Option Addr} {sl14 : Array (Option Value)} {oc14 kV14 dc14 pm14 cd14 ct14 : Value} (a14 : PySem.W.nsIn K mainGlobals "_law_above" = some (some (.ref f14)))
    (l14 : K.lookup f14 = some ⟨oc14, od14, .func (PySem.W.fnOf "_law_above" "_law_above" (defArgs s_above) (defBody s_above) (defScope s_above) .none kV14 dc14 pm14 an14 cd14 ct14), sl14⟩) (c14 : PySem.W.codeIn K cd14 "_law_above" = true) (k14 : PySem.W.keepIn K (.ref f14) = true)
  {f15 : Addr} {od15 an15 : Option Addr} {sl15 : Array (Option Value)} {oc15 kV15 dc15 pm15 cd15 ct15 : Value} (a15 : PySem.W.nsIn K mainGlobals "_law_friends" = some (some (.ref f15)))
    (l15 : K.lookup f15 = some ⟨oc15, od15, .func (PySem.W.fnOf "_law_friends" "_law_friends" (defArgs s_friends) (defBody s_friends) (defScope s_friends) .none kV15 dc15 pm15 an15 cd15 ct15), sl15⟩) (c15 : PySem.W.codeIn K cd15 "_law_friends" = true) (k15 : PySem.W.keepIn K (.ref f15) = true)
  {f16 : Addr} {od16 an16 : Option Addr} {sl16 : Array (Option Value)} {oc16 kV16 dc16 pm16 cd16 ct16 : Value} (a16 : PySem.W.nsIn K mainGlobals "_law_let" = some (some (.ref f16)))
    (l16 : K.lookup f16 = some ⟨oc16, od16, .func (PySem.W.fnOf "_law_let" "_law_let" (defArgs s_let) (defBody s_let) (defScope s_let) .none kV16 dc16 pm16 an16 cd16 ct16), sl16⟩) (c16 : PySem.W.codeIn K cd16 "_law_let" = true) (k16 : PySem.W.keepIn K (.ref f16) = true)
  {f17 : Addr} {od17 an17 : Option Addr} {sl17 : Array (Option Value)} {oc17 kV17 dc17 pm17 cd17 ct17 : Value} (a17 : PySem.W.nsIn K mainGlobals "_law_moved" = some (some (.ref f17)))
    (l17 : K.lookup f17 = some ⟨oc17, od17, .func (PySem.W.fnOf "_law_moved" "_law_moved" (defArgs s_moved) (defBody s_moved) (defScope s_moved) .none kV17 dc17 pm17 an17 cd17 ct17), sl17⟩) (c17 : PySem.W.codeIn K cd17 "_law_moved" = true) (k17 : PySem.W.keepIn K (.ref f17) = true)
  {f18 : Addr} {od18 an18 : Option Addr} {sl18 : Array (Option Value)} {oc18 kV18 dc18 pm18 cd18 ct18 : Value} (a18 : PySem.W.nsIn K mainGlobals "_law_left" = some (some (.ref f18)))
    (l18 : K.lookup f18 = some ⟨oc18, od18, .func (PySem.W.fnOf "_law_left" "_law_left" (defArgs s_left) (defBody s_left) (defScope s_left) .none kV18 dc18 pm18 an18 cd18 ct18), sl18⟩) (c18 : PySem.W.codeIn K cd18 "_law_left" = true) (k18 : PySem.W.keepIn K (.ref f18) = true)
  {f19 : Addr} {od19 an19 : Option Addr} {sl19 : Array (Option Value)} {oc19 kV19 dc19 pm19 cd19 ct19 : Value} (a19 : PySem.W.nsIn K mainGlobals "_law_refused_at" = some (some (.ref f19)))
    (l19 : K.lookup f19 = some ⟨oc19, od19, .func (PySem.W.fnOf "_law_refused_at" "_law_refused_at" (defArgs s_refused_at) (defBody s_refused_at) (defScope s_refused_at) .none kV19 dc19 pm19 an19 cd19 ct19), sl19⟩) (c19 : PySem.W.codeIn K cd19 "_law_refused_at" = true) (k19 : PySem.W.keepIn K (.ref f19) = true)
  {f20 : Addr} {od20 an20 : Option Addr} {sl20 : Array (Option Value)} {oc20 kV20 dc20 pm20 cd20 ct20 : Value} (a20 : PySem.W.nsIn K mainGlobals "_law_beneath" = some (some (.ref f20)))
    (l20 : K.lookup f20 = some ⟨oc20, od20, .func (PySem.W.fnOf "_law_beneath" "_law_beneath" (defArgs s_beneath) (defBody s_beneath) (defScope s_beneath) .none kV20 dc20 pm20 an20 cd20 ct20), sl20⟩) (c20 : PySem.W.codeIn K cd20 "_law_beneath" = true) (k20 : PySem.W.keepIn K (.ref f20) = true)
  {f21 : Addr} {od21 an21 : Option Addr} {sl21 : Array (Option Value)} {oc21 kV21 dc21 pm21 cd21 ct21 : Value} (a21 : PySem.W.nsIn K mainGlobals "_law_right" = some (some (.ref f21)))
    (l21 : K.lookup f21 = some ⟨oc21, od21, .func (PySem.W.fnOf "_law_right" "_law_right" (defArgs s_right) (defBody s_right) (defScope s_right) .none kV21 dc21 pm21 an21 cd21 ct21), sl21⟩) (c21 : PySem.W.codeIn K cd21 "_law_right" = true) (k21 : PySem.W.keepIn K (.ref f21) = true)
  {f22 : Addr} {od22 an22 : Option Addr} {sl22 : Array (Option Value)} {oc22 kV22 dc22 pm22 cd22 ct22 : Value} (a22 : PySem.W.nsIn K mainGlobals "law" = some (some (.ref f22)))
    (l22 : K.lookup f22 = some ⟨oc22, od22, .func (PySem.W.fnOf "law" "law" (defArgs s_law) (defBody s_law) (defScope s_law) .none kV22 dc22 pm22 an22 cd22 ct22), sl22⟩) (c22 : PySem.W.codeIn K cd22 "law" = true) (k22 : PySem.W.keepIn K (.ref f22) = true)
  (z0 : PySem.W.nsIn K mainGlobals "sorted" = some none) (z1 : PySem.W.nsIn K mainGlobals "enumerate" = some none) (z2 : PySem.W.nsIn K mainGlobals "list" = some none) (z3 : PySem.W.nsIn K mainGlobals "len" = some none) (z4 : PySem.W.nsIn K mainGlobals "reversed" = some none) (z5 : PySem.W.nsIn K mainGlobals "abs" = some none) (z6 : PySem.W.nsIn K mainGlobals "int" = some none) (z7 : PySem.W.nsIn K mainGlobals "isinstance" = some none) (z8 : PySem.W.nsIn K mainGlobals "tuple" = some none) (z9 : PySem.W.nsIn K mainGlobals "zip" = some none) (z10 : PySem.W.nsIn K mainGlobals "all" = some none) (z11 : PySem.W.nsIn K mainGlobals "bool" = some none) (z12 : PySem.W.nsIn K mainGlobals "str" = some none) (z13 : PySem.W.nsIn K mainGlobals "range" = some none) (z14 : PySem.W.nsIn K mainGlobals "set" = some none) (z15 : PySem.W.nsIn K mainGlobals "repr" = some none) (z16 : PySem.W.nsIn K mainGlobals "min" = some none) :
    ∃ fd : FuncData, (∀ (s : Shared) (v : Value), BindsTo s fd ⟨[v], []⟩ [("_law_script", v)]) ∧ ∀ base : Heap, K.In base → base.Ns mainGlobals mg → FnG l.prog w K mg base 8 fa fd ["_law_script"] (spF K g_law 1) := by
  have e := hfa.symm.trans (PySem.W.mg_of X G a22)
  cases e
  have zs : Zs mg := ⟨PySem.W.mg_none_of X G z0, PySem.W.mg_none_of X G z1, PySem.W.mg_none_of X G z2, PySem.W.mg_none_of X G z3, PySem.W.mg_none_of X G z4, PySem.W.mg_none_of X G z5, PySem.W.mg_none_of X G z6, PySem.W.mg_none_of X G z7, PySem.W.mg_none_of X G z8, PySem.W.mg_none_of X G z9, PySem.W.mg_none_of X G z10, PySem.W.mg_none_of X G z11, PySem.W.mg_none_of X G z12, PySem.W.mg_none_of X G z13, PySem.W.mg_none_of X G z14, PySem.W.mg_none_of X G z15, PySem.W.mg_none_of X G z16⟩
  have S_friends_of := std_mk (st := s_friends_of) X G a0 l0 c0 k0
  have S_places_in := std_mk (st := s_places_in) X G a1 l1 c1 k1
  have S_ways_down := std_mk (st := s_ways_down) X G a2 l2 c2 k2
  have S_must_go := std_mk (st := s_must_go) X G a3 l3 c3 k3
  have S_lift := std_mk (st := s_lift) X G a4 l4 c4 k4
  have S_box := std_mk (st := s_box) X G a5 l5 c5 k5
  have S_take := std_mk (st := s_take) X G a6 l6 c6 k6
  have S_pick := std_mk (st := s_pick) X G a7 l7 c7 k7
  have S_same := std_mk (st := s_same) X G a8 l8 c8 k8
  have S_listed := std_mk (st := s_listed) X G a9 l9 c9 k9
  have S_strewn := std_mk (st := s_strewn) X G a10 l10 c10 k10
  have S_names := std_mk (st := s_names) X G a11 l11 c11 k11
  have S_heap := std_mk (st := s_heap) X G a12 l12 c12 k12
  have S_ties := std_mk (st := s_ties) X G a13 l13 c13 k13
  have S_above := std_mk (st := s_above) X G a14 l14 c14 k14
  have S_friends := std_mk (st := s_friends) X G a15 l15 c15 k15
  have S_let := std_mk (st := s_let) X G a16 l16 c16 k16
  have S_moved := std_mk (st := s_moved) X G a17 l17 c17 k17
  have S_left := std_mk (st := s_left) X G a18 l18 c18 k18
  have S_refused_at := std_mk (st := s_refused_at) X G a19 l19 c19 k19
  have S_beneath := std_mk (st := s_beneath) X G a20 l20 c20 k20
  have S_right := std_mk (st := s_right) X G a21 l21 c21 k21
  refine ⟨PySem.W.fnOf "law" "law" (defArgs s_law) (defBody s_law) (defScope s_law) .none kV22 dc22 pm22 an22 cd22 ct22, fun s v => .of_eq rfl, fun base _ _ => ?_⟩
  · have c_friends_of := ok_friends_of (P := l.prog) (w := w) (base := base) zs S_friends_of 
    have c_places_in := ok_places_in (P := l.prog) (w := w) (base := base) zs S_places_in 
    have c_ways_down := ok_ways_down (P := l.prog) (w := w) (base := base) zs S_ways_down c_friends_of c_places_in
    have c_must_go := ok_must_go (P := l.prog) (w := w) (base := base) zs S_must_go c_ways_down
    have c_lift := ok_lift (P := l.prog) (w := w) (base := base) zs S_lift c_ways_down
    have c_box := ok_box (P := l.prog) (w := w) (base := base) zs S_box 
    have c_take := ok_take (P := l.prog) (w := w) (base := base) zs S_take 
    have c_pick := ok_pick (P := l.prog) (w := w) (base := base) zs S_pick c_take
    have c_same := ok_same (P := l.prog) (w := w) (base := base) zs S_same 
    have c_same := (c_same 6)
    have c_listed := ok_listed (P := l.prog) (w := w) (base := base) zs S_listed 
    have c_listed := (c_listed 6)
    have c_strewn := ok_strewn (P := l.prog) (w := w) (base := base) zs S_strewn c_take
    have c_names := ok_names (P := l.prog) (w := w) (base := base) zs S_names c_take
    have c_heap := ok_heap (P := l.prog) (w := w) (base := base) zs S_heap c_take c_strewn c_names
    have c_ties := ok_ties (P := l.prog) (w := w) (base := base) zs S_ties c_take c_strewn
    have c_above := ok_above (P := l.prog) (w := w) (base := base) zs S_above 
    have c_friends := ok_friends (P := l.prog) (w := w) (base := base) zs S_friends 
    have c_let := ok_let (P := l.prog) (w := w) (base := base) zs S_let c_above c_friends
    have c_moved := ok_moved (P := l.prog) (w := w) (base := base) zs S_moved 
    have c_left := ok_left (P := l.prog) (w := w) (base := base) zs S_left c_moved
    have c_refused_at := ok_refused_at (P := l.prog) (w := w) (base := base) zs S_refused_at c_let c_moved
    have c_beneath := ok_beneath (P := l.prog) (w := w) (base := base) zs S_beneath c_above c_friends
    have c_right := ok_right (P := l.prog) (w := w) (base := base) zs S_right c_must_go c_lift c_take c_pick c_same c_listed c_strewn c_heap c_ties c_left c_refused_at c_beneath
    exact go_law zs l22 c22 c_box c_right
section
end
end K46

/-! HF: going round a ring: steps, turned, from behind. -/
namespace HF
section
variable {α : Type}
/-- one after the other -/
def prs (l : List α) : List (α × α) := l.zip l.tail
/-- the steps round a ring -/
def stp (l : List α) : List (α × α) := l.zip (l.drop 1 ++ l.take 1)
theorem stp_cons (x : α) (l : List α) : stp (x :: l) = prs (x :: l ++ [x]) := by
  show (x :: l).zip (l ++ [x]) = (x :: l ++ [x]).zip (l ++ [x])
  have e : (l ++ [x]) = (l ++ [x]) ++ [] := by rw [List.append_nil]
  conv => rhs; rw [e]
  rw [List.zip_append (by simp)]
  simp
theorem prs_split (a : List α) (y : α) (b : List α) : prs (a ++ y :: b) = prs (a ++ [y]) ++ prs (y :: b) := by
  induction a with
  | nil => simp [prs]
  | cons x a ih =>
    cases a with
    | nil => rfl
    | cons z a =>
      show (x, z) :: prs (z :: a ++ y :: b) = (x, z) :: (prs (z :: a ++ [y])) ++ prs (y :: b)
      rw [ih]
      rfl
theorem stp_rot (a b : List α) : (stp (b ++ a)).Perm (stp (a ++ b)) := by
  cases a with
  | nil => rw [List.append_nil, List.nil_append]
  | cons x a =>
    cases b with
    | nil => rw [List.append_nil, List.nil_append]
    | cons y b =>
      have e1 : stp (y :: b ++ x :: a) = prs ((y :: b) ++ x :: (a ++ [y])) := by
        rw [show y :: b ++ x :: a = y :: (b ++ x :: a) from rfl, stp_cons]
        simp
      have e2 : stp (x :: a ++ y :: b) = prs ((x :: a) ++ y :: (b ++ [x])) := by
        rw [show x :: a ++ y :: b = x :: (a ++ y :: b) from rfl, stp_cons]
        simp
      rw [e1, e2, prs_split (y :: b) x, prs_split (x :: a) y]
      exact List.perm_append_comm
theorem prs_rev (l : List α) : prs l.reverse = (prs l).reverse.map Prod.swap := by
  induction l with
  | nil => rfl
  | cons x l ih =>
    cases l with
    | nil => rfl
    | cons y l =>
      have e : (x :: y :: l).reverse = l.reverse ++ y :: [x] := by simp
      have e2 : l.reverse ++ [y] = (y :: l).reverse := by simp
      rw [e, prs_split, e2, ih]
      show _ = ((x, y) :: prs (y :: l)).reverse.map Prod.swap
      rw [List.reverse_cons, List.map_append]
      rfl
theorem stp_rev (l : List α) : (stp l.reverse).Perm ((stp l).map Prod.swap) := by
  cases l with
  | nil => exact .refl _
  | cons x l =>
    rw [List.reverse_cons]
    refine (stp_rot [x] l.reverse).trans ?_
    rw [List.singleton_append, stp_cons, stp_cons]
    have e : x :: l.reverse ++ [x] = (x :: l ++ [x]).reverse := by simp
    rw [e, prs_rev]
    exact (List.reverse_perm _).map _
theorem stp_len (l : List α) : (stp l).length = l.length := by
  unfold stp
  rw [List.length_zip, List.length_append, List.length_drop, List.length_take]
  omega
theorem stp_fst (l : List α) : (stp l).map Prod.fst = l := by
  unfold stp
  rw [List.map_fst_zip]
  rw [List.length_append, List.length_drop, List.length_take]
  omega
theorem stp_snd (l : List α) : ((stp l).map Prod.snd).Perm l := by
  unfold stp
  rw [List.map_snd_zip]
  · refine List.perm_append_comm.trans ?_
    rw [List.take_append_drop]
  · rw [List.length_append, List.length_drop, List.length_take]
    omega
theorem stp_ne {l : List α} (hn : l.Nodup) (h2 : 2 ≤ l.length) : ∀ p ∈ stp l, p.1 ∈ l ∧ p.2 ∈ l ∧ p.1 ≠ p.2 := by
  intro p hp
  refine ⟨?_, ?_, ?_⟩
  · have := List.mem_map_of_mem (f := Prod.fst) hp
    rwa [stp_fst] at this
  · exact (stp_snd l).mem_iff.mp (List.mem_map_of_mem (f := Prod.snd) hp)
  · match l, h2 with
    | x :: y :: l, _ =>
      rw [stp_cons] at hp
      have hn' := List.nodup_cons.mp hn
      have key : ∀ (m : List α), (m ++ [x]).Nodup → ∀ p ∈ prs (m ++ [x]), p.1 ≠ p.2 := by
        intro m
        induction m with
        | nil => intro _ p hp; cases hp
        | cons a m ih =>
          intro h p hp
          cases m with
          | nil =>
            have : p = (a, x) := List.mem_singleton.mp hp
            subst this
            have := List.nodup_cons.mp h
            intro e
            exact this.1 (by rw [show a = x from e]; exact List.mem_singleton.mpr rfl)
          | cons b m =>
            have hh := List.nodup_cons.mp h
            rcases List.mem_cons.mp hp with rfl | hp
            · intro e
              exact hh.1 (by rw [show a = b from e]; exact List.mem_cons_self)
            · exact ih hh.2 p hp
      rcases List.mem_cons.mp hp with rfl | hp
      · intro e
        exact hn'.1 (by rw [show x = y from e]; exact List.mem_cons_self)
      · refine key (y :: l) ?_ p hp
        rw [List.nodup_append]
        refine ⟨hn'.2, by simp, fun a ha b hb e => hn'.1 ?_⟩
        rw [← List.mem_singleton.mp hb, ← e]
        exact ha
/-- how many steps go down -/
def cnt (f : α → Nat) (l : List α) : Nat := ((stp l).filter fun p => decide (f p.2 < f p.1)).length
theorem cnt_rot (f : α → Nat) (a b : List α) : cnt f (b ++ a) = cnt f (a ++ b) := ((stp_rot a b).filter _).length_eq
theorem filt_len {β : Type} (c d : β → Bool) : ∀ (l : List β), (∀ x ∈ l, d x = !c x) → (l.filter c).length + (l.filter d).length = l.length
  | [], _ => rfl
  | x :: l, h => by
    have ih := filt_len c d l fun y hy => h y (List.mem_cons_of_mem _ hy)
    have hx := h x List.mem_cons_self
    rw [List.filter_cons, List.filter_cons, hx]
    cases c x <;> simp <;> omega
theorem cnt_rev (f : α → Nat) {l : List α} (hn : l.Nodup) (h2 : 2 ≤ l.length) (hf : ∀ a ∈ l, ∀ b ∈ l, f a = f b → a = b) : cnt f l.reverse + cnt f l = l.length := by
  have e : cnt f l.reverse = ((stp l).filter fun p => decide (f p.1 < f p.2)).length := by
    unfold cnt
    rw [((stp_rev l).filter _).length_eq, List.filter_map, List.length_map]
    rfl
  rw [e, ← stp_len l]
  refine filt_len _ _ _ fun p hp => ?_
  obtain ⟨h1, h3, h4⟩ := stp_ne hn h2 p hp
  have : f p.1 ≠ f p.2 := fun e => h4 (hf _ h1 _ h3 e)
  by_cases h : f p.1 < f p.2
  · rw [decide_eq_true h, decide_eq_false (by omega)]; rfl
  · rw [decide_eq_false h, decide_eq_true (by omega)]; rfl
theorem sum_lt {β : Type} (u v : β → Nat) : ∀ (l : List β), l ≠ [] → (∀ x ∈ l, u x < v x) → (l.map u).sum < (l.map v).sum
  | [], h, _ => absurd rfl h
  | [x], _, h => by simpa using h
  | x :: y :: l, _, h => by
    have ih := sum_lt u v (y :: l) (by simp) fun z hz => h z (List.mem_cons_of_mem _ hz)
    have hx := h x List.mem_cons_self
    rw [List.map_cons (f := u), List.map_cons (f := v), List.sum_cons, List.sum_cons]
    omega
theorem stp_sum (f : α → Nat) (l : List α) : ((stp l).map fun p => f p.1).sum = ((stp l).map fun p => f p.2).sum := by
  have e1 : ((stp l).map fun p => f p.1) = l.map f := by
    conv => rhs; rw [← stp_fst l]
    rw [List.map_map]; rfl
  have e2 : (((stp l).map fun p => f p.2)).Perm (l.map f) := by
    have := (stp_snd l).map f
    rwa [List.map_map] at this
  rw [e1]
  exact e2.symm.sum_nat
theorem cnt_pos (f : α → Nat) {l : List α} (hn : l.Nodup) (h2 : 2 ≤ l.length) (hf : ∀ a ∈ l, ∀ b ∈ l, f a = f b → a = b) : 1 ≤ cnt f l := by
  apply Classical.byContradiction
  intro h
  have h0 : cnt f l = 0 := by omega
  have e0 := List.eq_nil_of_length_eq_zero h0
  have hs : stp l ≠ [] := fun e => by
    have := stp_len l
    rw [e] at this
    simp at this
    omega
  have := sum_lt (fun p : α × α => f p.1) (fun p => f p.2) (stp l) hs fun p hp => by
    obtain ⟨h1, h3, h4⟩ := stp_ne hn h2 p hp
    have ne : f p.1 ≠ f p.2 := fun e => h4 (hf _ h1 _ h3 e)
    have nd : ¬ f p.2 < f p.1 := fun c => by
      have : p ∈ (stp l).filter fun p => decide (f p.2 < f p.1) := List.mem_filter.mpr ⟨hp, decide_eq_true c⟩
      rw [e0] at this
      cases this
    omega
  have := stp_sum f l
  omega
theorem cnt_lt (f : α → Nat) {l : List α} (hn : l.Nodup) (h2 : 2 ≤ l.length) (hf : ∀ a ∈ l, ∀ b ∈ l, f a = f b → a = b) : cnt f l < l.length := by
  have h1 := cnt_rev f hn h2 hf
  have hr : 1 ≤ cnt f l.reverse := cnt_pos f ((List.reverse_perm l).nodup_iff.mpr hn) (by rw [List.length_reverse]; exact h2) fun a ha b hb => hf a (List.mem_reverse.mp ha) b (List.mem_reverse.mp hb)
  omega
end
end HF

/-! HF: the plain side: runs over boxes, and the draws. -/
namespace HF
open PySem (Str PyData sizeLine)
/-- L boxes, each with at most t draws behind it -/
def Bok (L : Nat) (b : Bx) (t : Nat) : Prop := b.length = L ∧ ∀ (n : Nat) (zs : List Int), b[n]? = some zs → ∃ a s c : Int, zs = [a, s, c] ∧ 0 ≤ a ∧ 0 ≤ s ∧ s < 4294967296 ∧ 0 ≤ c ∧ c ≤ t
/-- the run gives something, and it answers so -/
def Wp {α : Type} (L : Nat) (m : M α) (t : Nat) (R : α → Nat → Prop) : Prop := ∀ b, Bok L b t → ∃ a b' t', m b = some (a, b') ∧ Bok L b' t' ∧ R a t'
section
variable {α β : Type} {L t u : Nat} {R : α → Nat → Prop}
theorem Bok.le {b : Bx} (h : Bok L b t) (hu : t ≤ u) : Bok L b u := ⟨h.1, fun (n : Nat) (zs : List Int) e => by
  obtain ⟨a, s, c, h1, h2, h3, h4, h5, h6⟩ := h.2 n zs e
  exact ⟨a, s, c, h1, h2, h3, h4, h5, by omega⟩⟩
theorem Wp.ret {a : α} (h : R a t) : Wp L (ret a) t R := fun b hb => ⟨a, b, t, rfl, hb, h⟩
theorem Wp.of {m : M α} {a : α} (e : m = HF.ret a) (h : R a t) : Wp L m t R := by subst e; exact .ret h
theorem Wp.lift {o : Option α} {a : α} (e : o = some a) (h : R a t) : Wp L (HF.lift o) t R := by subst e; exact fun b hb => ⟨a, b, t, rfl, hb, h⟩
theorem Wp.bnd {m : M α} {f : α → M β} {Q : β → Nat → Prop} (h : Wp L m t fun a t' => Wp L (f a) t' Q) : Wp L (HF.bnd m f) t Q := fun b hb => by
  obtain ⟨a, b1, t1, e1, hb1, h1⟩ := h b hb
  obtain ⟨c, b2, t2, e2, hb2, h2⟩ := h1 b1 hb1
  exact ⟨c, b2, t2, by unfold HF.bnd; rw [e1]; exact e2, hb2, h2⟩
theorem Wp.mono {m : M α} {Q : α → Nat → Prop} (h : Wp L m t R) (hq : ∀ a u, R a u → Q a u) : Wp L m t Q := fun b hb => by
  obtain ⟨a, b1, t1, e1, hb1, h1⟩ := h b hb
  exact ⟨a, b1, t1, e1, hb1, hq _ _ h1⟩
theorem Wp.le {m : M α} (h : Wp L m u R) (hu : t ≤ u) : Wp L m t R := fun b hb => h b (hb.le hu)
theorem bnd_ret {a : α} {f : α → M β} : bnd (HF.ret a) f = f a := rfl
end
/-- a draw -/
def pTake : Fn := runFn 2
    (sSeq (sIf (e2 oGt (eIx (eI 0) (eC (.int 0))) (eC (.int 0)))
    (sSeq (sSet 2 (eSh (e2 oMod (eIx (eI 0) (eC (.int 0))) (eB 1))))
    (sSeq (sBSet 0 (eC (.int 0)) (e2 oFdiv (eIx (eI 0) (eC (.int 0))) (eB 1)))
    (sRetV 2)))
    sNx)
    (sSeq (sBSet 0 (eC (.int 2)) (e2 oAdd (eInn (eIx (eI 0) (eC (.int 2)))) (eC (.int 1))))
    (sSeq (sSet 3 (eSh (e2 oMod (e2 oPow (e2 oAdd (eInn (eIx (eI 0) (eC (.int 1)))) (eInn (e2 oMul (eC (.int 39373)) (eIx (eI 0) (eC (.int 2)))))) (eC (.int 5))) (eC (.int 2147483647)))))
    (sRet (e2 oMod (e2 oFdiv (e2 oMod (e2 oAdd (eInn (e2 oMul (eI 3) (e2 oAdd (eInn (e2 oMod (eB 3) (eC (.int 40009)))) (eC (.int 7))))) (eInn (e2 oMul (eInn (eIx (eI 0) (eC (.int 2)))) (eC (.int 7919))))) (eC (.int 2147483629))) (eC (.int 64))) (eB 1))))))
theorem Bok.set {L t u n : Nat} {b : Bx} {a s c : Int} (h : Bok L b t) (ha : 0 ≤ a) (hs : 0 ≤ s) (hs2 : s < 4294967296) (hc : 0 ≤ c) (hu : c ≤ u) (htu : t ≤ u) : Bok L (b.set n [a, s, c]) u := by
  refine ⟨by rw [List.length_set]; exact h.1, fun m zs e => ?_⟩
  rw [List.getElem?_set] at e
  split at e
  · split at e
    · cases e; exact ⟨a, s, c, rfl, ha, hs, hs2, hc, hu⟩
    · cases e
  · exact (h.le htu).2 m zs e
theorem at0 {a s c : Int} : L2.atI [a, s, c] 0 = some a := rfl
theorem at1 {a s c : Int} : L2.atI [a, s, c] 1 = some s := rfl
theorem at2 {a s c : Int} : L2.atI [a, s, c] 2 = some c := rfl
theorem oMod_pos {a b : Int} (h : 0 < b) : oMod (.int a) (.int b) = some (.int (a % b)) := by unfold oMod; exact if_pos h
theorem oFdiv_pos {a b : Int} (h : 0 < b) (h2 : b < 1073741824) : oFdiv (.int a) (.int b) = some (.int (a / b)) := by unfold oFdiv; exact if_pos ⟨h, h2⟩
theorem oMul_l {a b : Int} (h : a.natAbs < 2 ^ 64) : oMul (.int a) (.int b) = some (.int (a * b)) := by unfold oMul; exact if_pos (.inl h)
theorem oMul_r {a b : Int} (h : b.natAbs < 2 ^ 64) : oMul (.int a) (.int b) = some (.int (a * b)) := by unfold oMul; exact if_pos (.inr h)
theorem oPow_ok {a b : Int} (h : 0 ≤ b) (h2 : b ≤ 1000000) (h3 : a.natAbs < 2 ^ 64) : oPow (.int a) (.int b) = some (.int (a ^ b.toNat)) := by unfold oPow; exact if_pos ⟨h, h2, h3⟩
theorem i30 : L2.ixN 3 0 = some 0 := rfl
theorem i32 : L2.ixN 3 2 = some 2 := rfl
theorem take_wp {L n t : Nat} {bd : Int} {R : D → Nat → Prop} (hn : n < L) (h1 : 0 < bd) (h2 : bd < 1073741824) (ht : t < 1099511627776) (h : ∀ x : Int, 0 ≤ x → x < bd → R (.int x) (t + 1)) : Wp L (pTake [.box n, .int bd]) t R := by
  intro b hb
  have hl : n < b.length := by rw [hb.1]; exact hn
  obtain ⟨a, s, c, e, ha, hs, hs2, hc, hct⟩ := hb.2 n b[n] (by simp [hl])
  have hg : b[n]? = some [a, s, c] := by rw [← e]; simp [hl]
  by_cases h0 : 0 < a
  · have e1 : eIx (eI 0) (eC (.int 0)) [.sh (.box n), .sh (.int bd), .no, .no] b = some (.int a, b) := by
      show (match b[n]? with | some zs => (match L2.atI zs 0 with | some z => some (D.int z, b) | none => none) | none => none) = _
      rw [hg]; rfl
    have e1' : eIx (eI 0) (eC (.int 0)) [.sh (.box n), .sh (.int bd), .sh (.int (a % bd)), .no] b = some (.int a, b) := by
      show (match b[n]? with | some zs => (match L2.atI zs 0 with | some z => some (D.int z, b) | none => none) | none => none) = _
      rw [hg]; rfl
    refine ⟨.int (a % bd), b.set n [a / bd, s, c], t + 1, ?_, hb.set (Int.ediv_nonneg ha (by omega)) hs hs2 hc (by omega) (by omega), h _ (Int.emod_nonneg _ (by omega)) (Int.emod_lt_of_pos _ h1)⟩
    simp [pTake, runFn, sSeq, sIf, sSet, sBSet, sRetV, bnd, ret, lift, e2, eSh, eC, eB, oGt, e1, e1', h0, oMod_pos h1, oFdiv_pos h1 h2, share, hg, i30]
  · have e1 : ∀ v w, eIx (eI 0) (eC (.int 0)) [.sh (.box n), .sh (.int bd), v, w] b = some (.int a, b) := fun v w => by
      show (match b[n]? with | some zs => (match L2.atI zs 0 with | some z => some (D.int z, b) | none => none) | none => none) = _
      rw [hg]; rfl
    have e2' : eIx (eI 0) (eC (.int 2)) [.sh (.box n), .sh (.int bd), .no, .no] b = some (.int c, b) := by
      show (match b[n]? with | some zs => (match L2.atI zs 2 with | some z => some (D.int z, b) | none => none) | none => none) = _
      rw [hg]; rfl
    have hg' : (b.set n [a, s, c + 1])[n]? = some [a, s, c + 1] := by simp [hl]
    have e3 : ∀ v w, eIx (eI 0) (eC (.int 2)) [.sh (.box n), .sh (.int bd), v, w] (b.set n [a, s, c + 1]) = some (.int (c + 1), b.set n [a, s, c + 1]) := fun v w => by
      show (match (b.set n [a, s, c + 1])[n]? with | some zs => (match L2.atI zs 2 with | some z => some (D.int z, b.set n [a, s, c + 1]) | none => none) | none => none) = _
      rw [hg']; rfl
    have e4 : ∀ v w, eIx (eI 0) (eC (.int 1)) [.sh (.box n), .sh (.int bd), v, w] (b.set n [a, s, c + 1]) = some (.int s, b.set n [a, s, c + 1]) := fun v w => by
      show (match (b.set n [a, s, c + 1])[n]? with | some zs => (match L2.atI zs 1 with | some z => some (D.int z, b.set n [a, s, c + 1]) | none => none) | none => none) = _
      rw [hg']; rfl
    have p2 := oPow_ok (a := s + 39373 * (c + 1)) (b := 5) (by decide) (by decide) (by omega)
    have p9 : ∀ x : Int, oMod (.int x) (.int bd) = some (.int (x % bd)) := fun x => oMod_pos h1
    have bY : ∀ y : Int, (y % 2147483647).natAbs < 2 ^ 64 := fun y => by omega
    have fin : ∀ Y : Int, oMod (.int ((Y % 2147483647 * (Y % 2147483647 % 40009 + 7) + (c + 1) * 7919) % 2147483629 / 64)) (.int bd) = some (.int ((Y % 2147483647 * (Y % 2147483647 % 40009 + 7) + (c + 1) * 7919) % 2147483629 / 64 % bd)) := fun Y => oMod_pos h1
    refine ⟨.int ((((s + 39373 * (c + 1)) ^ (5 : Int).toNat) % 2147483647 * (((s + 39373 * (c + 1)) ^ (5 : Int).toNat) % 2147483647 % 40009 + 7) + (c + 1) * 7919) % 2147483629 / 64 % bd), b.set n [a, s, c + 1], t + 1, ?_, hb.set ha hs hs2 (by omega) (by omega) (by omega), h _ (Int.emod_nonneg _ (by omega)) (Int.emod_lt_of_pos _ h1)⟩
    simp [pTake, runFn, sSeq, sIf, sSet, sBSet, sRet, sNx, bnd, ret, lift, e2, eSh, eInn, eC, eI, eB, oGt, e1, e2', e3, e4, h0, hg, i32, share, shareIn, oAdd, oMul_l, oMul_r, p2, oMod_pos, oFdiv_pos, p9, bY, fin]
end HF

/-! HF: the plain side: statements, walks, comprehensions; what is strewn. -/
namespace HF
open PySem (Str PyData sizeLine)
section
variable {L t u : Nat}
theorem sSeq_wp {S T : Sv} {r : Env} {R : Fl × Env → Nat → Prop} (h : Wp L (S r) t fun p u => ∃ r', p = (.nx, r') ∧ Wp L (T r') u R) : Wp L (sSeq S T r) t R := .bnd (h.mono fun p u ⟨r', e, h'⟩ => by subst e; exact h')
theorem sSet_wp {i : Nat} {f : Ev} {r : Env} {R : Fl × Env → Nat → Prop} (h : Wp L (f r) t fun d u => R (.nx, r.set i (.sh d)) u) : Wp L (sSet i f r) t R := .bnd (h.mono fun _ _ h => .ret h)
theorem sSetO_wp {i : Nat} {f : Ev} {r : Env} {R : Fl × Env → Nat → Prop} (h : Wp L (f r) t fun d u => R (.nx, r.set i (.ow d)) u) : Wp L (sSetO i f r) t R := .bnd (h.mono fun _ _ h => .ret h)
theorem sRet_wp {f : Ev} {r : Env} {R : Fl × Env → Nat → Prop} (h : Wp L (f r) t fun d u => R (.rt d, r) u) : Wp L (sRet f r) t R := .bnd (h.mono fun _ _ h => .ret h)
theorem sIf_wp {c : Ev} {S T : Sv} {r : Env} {R : Fl × Env → Nat → Prop} (h : Wp L (c r) t fun d u => (d = .bl true ∧ Wp L (S r) u R) ∨ (d = .bl false ∧ Wp L (T r) u R)) : Wp L (sIf c S T r) t R := .bnd (h.mono fun _ _ h => by
  rcases h with ⟨rfl, h⟩ | ⟨rfl, h⟩ <;> exact h)
theorem sFor_wp {tg : Tg} {it : Ws} {body : Sv} {r : Env} {R : Fl × Env → Nat → Prop} (h : Wp L (it r) t fun xs u => Wp L (forGo tg body xs r) u R) : Wp L (sFor tg it body r) t R := .bnd h
theorem forGo_wp {tg : Tg} {body : Sv} (I : List D → Env → Nat → Prop) (hs : ∀ x xs r t, I (x :: xs) r t → ∃ r', bindT tg x r = some r' ∧ Wp L (body r') t fun p u => ∃ r2, p = (.nx, r2) ∧ I xs r2 u) : ∀ (xs : List D) (r : Env) (t : Nat), I xs r t → Wp L (forGo tg body xs r) t fun p u => ∃ r2, p = (.nx, r2) ∧ I [] r2 u
  | [], r, t, h => .ret ⟨r, rfl, h⟩
  | x :: xs, r, t, h => by
    obtain ⟨r', e, h'⟩ := hs x xs r t h
    unfold forGo
    rw [e]
    exact .bnd (h'.mono fun p u ⟨r2, e2, h2⟩ => by subst e2; exact forGo_wp I hs xs r2 u h2)
theorem runFn_wp {n : Nat} {S : Sv} {args : List D} {R : D → Nat → Prop} (h : Wp L (S (args.map Sl.sh ++ List.replicate n Sl.no)) t fun p u => ∃ d r, p = (.rt d, r) ∧ R d u) : Wp L (runFn n S args) t R := .bnd (h.mono fun p u ⟨d, r, e, h⟩ => by subst e; exact .ret h)
theorem eCall_wp {fn : Fn} {fs : List Ev} {r : Env} {R : D → Nat → Prop} (h : Wp L (evs fs r) t fun xs u => Wp L (fn xs) u R) : Wp L (eCall fn fs r) t R := .bnd h
theorem evs_nil_wp {r : Env} {R : List D → Nat → Prop} (h : R [] t) : Wp L (evs [] r) t R := .ret h
theorem evs_cons_wp {f : Ev} {fs : List Ev} {r : Env} {R : List D → Nat → Prop} (h : Wp L (f r) t fun d u => Wp L (evs fs r) u fun ds v => R (d :: ds) v) : Wp L (evs (f :: fs) r) t R := .bnd (h.mono fun d u h => .bnd (h.mono fun ds v h => .ret h))
theorem eN_wp {op : List D → Option D} {fs : List Ev} {r : Env} {R : D → Nat → Prop} (h : Wp L (evs fs r) t fun xs u => ∃ d, op xs = some d ∧ R d u) : Wp L (eN op fs r) t R := .bnd (h.mono fun xs u ⟨d, e, h⟩ => .lift e h)
theorem e2_wp {op : D → D → Option D} {f g : Ev} {r : Env} {R : D → Nat → Prop} (h : Wp L (f r) t fun x u => Wp L (g r) u fun y v => ∃ d, op x y = some d ∧ R d v) : Wp L (e2 op f g r) t R := .bnd (h.mono fun x u h => .bnd (h.mono fun y v ⟨d, e, h⟩ => .lift e h))
theorem e1_wp {op : D → Option D} {f : Ev} {r : Env} {R : D → Nat → Prop} (h : Wp L (f r) t fun x u => ∃ d, op x = some d ∧ R d u) : Wp L (e1 op f r) t R := .bnd (h.mono fun x u ⟨d, e, h⟩ => .lift e h)
theorem eInn_wp {f : Ev} {r : Env} {R : D → Nat → Prop} (h : Wp L (f r) t fun x u => R (shareIn x) u) : Wp L (eInn f r) t R := .bnd (h.mono fun x u h => .ret h)
theorem eSh_wp {f : Ev} {r : Env} {R : D → Nat → Prop} (h : Wp L (f r) t fun x u => R (share x) u) : Wp L (eSh f r) t R := .bnd (h.mono fun x u h => .ret h)
theorem eIx_wp {f g : Ev} {r : Env} {R : D → Nat → Prop} (h : Wp L (f r) t fun x u => Wp L (g r) u fun y v => (∀ n, x ≠ .box n) ∧ ∃ d, oIx x y = some d ∧ R d v) : Wp L (eIx f g r) t R := .bnd (h.mono fun x u h => .bnd (h.mono fun y v ⟨nb, d, e, hR⟩ => by
  clear h
  cases x <;> first | exact absurd rfl (nb _) | exact .lift e hR))
theorem eAnd_wp {f g : Ev} {r : Env} {R : D → Nat → Prop} (h : Wp L (f r) t fun d u => (d = .bl true ∧ Wp L (g r) u R) ∨ (d = .bl false ∧ R (.bl false) u)) : Wp L (eAnd f g r) t R := .bnd (h.mono fun _ _ h => by
  rcases h with ⟨rfl, h⟩ | ⟨rfl, h⟩
  · exact h
  · exact .ret h)
theorem eOr_wp {f g : Ev} {r : Env} {R : D → Nat → Prop} (h : Wp L (f r) t fun d u => (d = .bl true ∧ R (.bl true) u) ∨ (d = .bl false ∧ Wp L (g r) u R)) : Wp L (eOr f g r) t R := .bnd (h.mono fun _ _ h => by
  rcases h with ⟨rfl, h⟩ | ⟨rfl, h⟩
  · exact .ret h
  · exact h)
theorem itN_wp {op : List D → Option (List D)} {fs : List Ev} {r : Env} {R : List D → Nat → Prop} (h : Wp L (evs fs r) t fun xs u => ∃ d, op xs = some d ∧ R d u) : Wp L (itN op fs r) t R := .bnd (h.mono fun xs u ⟨d, e, h⟩ => .lift e h)
theorem itD_wp {op : D → Option (List D)} {f : Ev} {r : Env} {R : List D → Nat → Prop} (h : Wp L (f r) t fun x u => ∃ d, op x = some d ∧ R d u) : Wp L (itD op f r) t R := .bnd (h.mono fun xs u ⟨d, e, h⟩ => .lift e h)
/-- a comprehension without if -/
theorem lcGo_wp {tg : Tg} {r : Env} {elt : Ev} (I : List D → List D → Nat → Prop) (hs : ∀ x xs acc t, I (x :: xs) acc t → acc.length < sizeLine ∧ ∃ r', bindT tg x r = some r' ∧ Wp L (elt r') t fun d u => I xs (acc ++ [d]) u) : ∀ (xs acc : List D) (t : Nat), I xs acc t → Wp L (lcGo tg r none elt xs acc) t fun d u => ∃ ys, d = .lst true ys ∧ I [] ys u
  | [], acc, t, h => .ret ⟨acc, rfl, h⟩
  | x :: xs, acc, t, h => by
    obtain ⟨hl, r', e, h'⟩ := hs x xs acc t h
    unfold lcGo
    rw [e]
    dsimp only
    rw [if_pos hl]
    exact .bnd (h'.mono fun d u h => lcGo_wp I hs xs _ u h)
theorem eLc_wp {own : List Nat} {tg : Tg} {it : Ws} {cond : Option Ev} {elt : Ev} {r : Env} {R : D → Nat → Prop} (h : Wp L (it r) t fun xs u => Wp L (lcGo tg (wipeE r own) cond elt xs []) u R) : Wp L (eLc own tg it cond elt r) t R := .bnd h
/-- a comprehension that only reckons -/
theorem lcGo_pure {tg : Tg} {r : Env} {cond elt : Ev} {en : D → Env} {c : D → Bool} {f : D → D} : ∀ (xs acc : List D), (∀ x ∈ xs, bindT tg x r = some (en x) ∧ cond (en x) = ret (.bl (c x)) ∧ elt (en x) = ret (f x)) → acc.length + xs.length ≤ sizeLine → lcGo tg r (some cond) elt xs acc = ret (.lst true (acc ++ (xs.filter c).map f))
  | [], acc, _, _ => by unfold lcGo; simp
  | x :: xs, acc, h, hl => by
    obtain ⟨e1, e2, e3⟩ := h x List.mem_cons_self
    rw [List.length_cons] at hl
    have ih := fun acc' => lcGo_pure xs acc' (fun y hy => h y (List.mem_cons_of_mem _ hy))
    unfold lcGo
    rw [e1]
    dsimp only
    rw [e2, bnd_ret]
    cases hc : c x with
    | true =>
      dsimp only
      rw [if_pos (by omega), e3, bnd_ret, ih _ (by rw [List.length_append, List.length_singleton]; omega), List.filter_cons, if_pos hc]
      simp
    | false =>
      dsimp only
      rw [ih _ (by omega), List.filter_cons, if_neg (by rw [hc]; decide)]
theorem lcGo_pure0 {tg : Tg} {r : Env} {elt : Ev} {en : D → Env} {f : D → D} : ∀ (xs acc : List D), (∀ x ∈ xs, bindT tg x r = some (en x) ∧ elt (en x) = ret (f x)) → acc.length + xs.length ≤ sizeLine → lcGo tg r none elt xs acc = ret (.lst true (acc ++ xs.map f))
  | [], acc, _, _ => by unfold lcGo; simp
  | x :: xs, acc, h, hl => by
    obtain ⟨e1, e3⟩ := h x List.mem_cons_self
    rw [List.length_cons] at hl
    have ih := fun acc' => lcGo_pure0 (f := f) xs acc' (fun y hy => h y (List.mem_cons_of_mem _ hy))
    unfold lcGo
    rw [e1]
    dsimp only
    rw [if_pos (by omega), e3, bnd_ret, ih _ (by rw [List.length_append, List.length_singleton]; omega)]
    simp
end
/-! ### what is strewn -/
def pStrewn : Fn := runFn 2
    (sSeq (sSetO 2 (eLst []))
    (sSeq (sFor (.one 3) (itD itSeq (eV 1))
    (sMut 2 mInsertS [(eCall pTake [(eV 0), (eSh (e2 oAdd (eInn (eN (n1 oLen) [(eB 2)])) (eC (.int 1))))]), (eV 3)]))
    (sRetV 2)))
theorem insert_perm {α : Type} (ys : List α) (p : α) (i : Nat) : (ys.take i ++ [p] ++ ys.drop i).Perm (p :: ys) := by
  rw [List.append_assoc]
  have h : (ys.take i ++ p :: ys.drop i).Perm (p :: (ys.take i ++ ys.drop i)) := List.perm_middle
  rwa [List.take_append_drop] at h
theorem stillL_perm {xs ys : List D} (h : ys.Perm xs) (e : stillL xs = true) : stillL ys = true := by
  rw [stillL_eq, List.all_eq_true] at e ⊢
  exact fun x hx => e x (h.mem_iff.mp hx)
theorem strewn_wp {L n t : Nat} {d : D} {xs : List D} {R : D → Nat → Prop} (hn : n < L) (hd : itSeq d = some xs) (hl : xs.length ≤ 100000) (hs : stillL xs = true) (ht : t + xs.length < 1099511627776) (h : ∀ ys : List D, ys.Perm xs → R (.lst true ys) (t + xs.length)) : Wp L (pStrewn [.box n, d]) t R := by
  have szl := PySem.sizeLine_eq
  refine runFn_wp (sSeq_wp (sSetO_wp (.of (a := .lst true []) rfl ⟨_, rfl, ?_⟩)))
  refine sSeq_wp (sFor_wp (itD_wp (.of (a := d) rfl ⟨xs, hd, ?_⟩)))
  refine (forGo_wp (fun rest r u => ∃ (done ys : List D) (v : Sl), xs = done ++ rest ∧ r = [.sh (.box n), .sh d, .ow (.lst true ys), v] ∧ ys.Perm done ∧ u = t + done.length) ?_ xs _ t ⟨[], [], .no, rfl, rfl, .refl _, rfl⟩).mono ?_
  · rintro x rest r u ⟨done, ys, v, ex, rfl, hp, rfl⟩
    have hlen : xs.length = done.length + (rest.length + 1) := by rw [ex, List.length_append, List.length_cons]
    have hy : ys.length = done.length := hp.length_eq
    have sd : stillL done = true ∧ still x = true := by
      rw [ex, stillL_eq, List.all_append, List.all_cons] at hs
      simp only [Bool.and_eq_true] at hs
      exact ⟨by rw [stillL_eq]; exact hs.1, hs.2.1⟩
    refine ⟨_, rfl, .bnd (evs_cons_wp (eCall_wp (evs_cons_wp (.of (a := .box n) rfl (evs_cons_wp (.of (a := .int (ys.length + 1)) rfl (evs_nil_wp ?_)))))))⟩
    refine take_wp hn (by omega) (by omega) (by omega) fun i h0 h1 => evs_cons_wp (.of (a := x) rfl (evs_nil_wp ?_))
    have em : mInsertS (.lst true ys) [.int i, x] = some (.lst true (ys.take i.toNat ++ [x] ++ ys.drop i.toNat)) := if_pos ⟨stillL_perm hp sd.1, sd.2, by omega, h0, by omega⟩
    refine .bnd (.lift em (.ret ⟨_, rfl, done ++ [x], _, _, by rw [ex, List.append_assoc]; rfl, rfl, (insert_perm ys x _).trans (((List.Perm.cons x hp)).trans (List.perm_append_singleton x done).symm), by rw [List.length_append, List.length_singleton]; omega⟩))
  · rintro p u ⟨r2, rfl, done, ys, v, ex, rfl, hp, rfl⟩
    rw [List.append_nil] at ex
    subst ex
    exact ⟨_, rfl, .ret ⟨_, _, rfl, h ys hp⟩⟩
end HF

/-! HF: the plain side: what reckons without a box, by equations. -/
namespace HF
open PySem (Str PyData sizeLine)
section
variable {r r' : Env} {x y z d : D} {f g h c : Ev} {S T : Sv}
theorem lift_ret {α : Type} (a : α) : lift (some a) = ret a := rfl
theorem q_seq {R : M (Fl × Env)} (e : S r = ret (.nx, r')) (e2 : T r' = R) : sSeq S T r = R := by unfold sSeq; rw [e, bnd_ret]; exact e2
theorem q_rt (e : S r = ret (.rt d, r')) : sSeq S T r = ret (.rt d, r') := by unfold sSeq; rw [e, bnd_ret]
theorem q_ift {R : M (Fl × Env)} (e : c r = ret (.bl true)) (e2 : S r = R) : sIf c S T r = R := by unfold sIf; rw [e, bnd_ret]; exact e2
theorem q_iff {R : M (Fl × Env)} (e : c r = ret (.bl false)) (e2 : T r = R) : sIf c S T r = R := by unfold sIf; rw [e, bnd_ret]; exact e2
theorem q_set {i : Nat} (e : f r = ret d) : sSet i f r = ret (.nx, r.set i (.sh d)) := by unfold sSet; rw [e, bnd_ret]
theorem q_ret (e : f r = ret d) : sRet f r = ret (.rt d, r) := by unfold sRet; rw [e, bnd_ret]
theorem q_fn {n : Nat} {args : List D} (e : S (args.map Sl.sh ++ List.replicate n Sl.no) = ret (.rt d, r')) : runFn n S args = ret d := by unfold runFn; rw [e, bnd_ret]
theorem q_1 {op : D → Option D} (e : f r = ret x) (e2 : op x = some z) : e1 op f r = ret z := by unfold e1; rw [e, bnd_ret, e2]; rfl
theorem q_2 {op : D → D → Option D} (e : f r = ret x) (e2 : g r = ret y) (e3 : op x y = some z) : HF.e2 op f g r = ret z := by unfold HF.e2; rw [e, bnd_ret, e2, bnd_ret, e3]; rfl
theorem q_nil : evs [] r = ret [] := rfl
theorem q_cons {fs : List Ev} {ds : List D} (e : f r = ret d) (e2 : evs fs r = ret ds) : evs (f :: fs) r = ret (d :: ds) := by unfold evs; rw [e, bnd_ret, e2, bnd_ret]
theorem q_N {op : List D → Option D} {fs : List Ev} {ds : List D} (e : evs fs r = ret ds) (e2 : op ds = some z) : eN op fs r = ret z := by unfold eN; rw [e, bnd_ret, e2]; rfl
theorem q_sh (e : f r = ret d) : eSh f r = ret (share d) := by unfold eSh; rw [e, bnd_ret]
theorem q_inn (e : f r = ret d) : eInn f r = ret (shareIn d) := by unfold eInn; rw [e, bnd_ret]
theorem q_sh' (e : f r = ret d) (e2 : share d = z) : eSh f r = ret z := by rw [q_sh e, e2]
theorem q_inn' (e : f r = ret d) (e2 : shareIn d = z) : eInn f r = ret z := by rw [q_inn e, e2]
theorem q_call {fn : Fn} {fs : List Ev} {ds : List D} (e : evs fs r = ret ds) (e2 : fn ds = ret z) : eCall fn fs r = ret z := by unfold eCall; rw [e, bnd_ret]; exact e2
theorem q_andt (e : f r = ret (.bl true)) (e2 : g r = ret z) : eAnd f g r = ret z := by unfold eAnd; rw [e, bnd_ret]; exact e2
theorem q_andf (e : f r = ret (.bl false)) : eAnd f g r = ret (.bl false) := by unfold eAnd; rw [e, bnd_ret]
theorem q_ort (e : f r = ret (.bl true)) : eOr f g r = ret (.bl true) := by unfold eOr; rw [e, bnd_ret]
theorem q_orf (e : f r = ret (.bl false)) (e2 : g r = ret z) : eOr f g r = ret z := by unfold eOr; rw [e, bnd_ret]; exact e2
theorem q_chain {op op' : D → D → Option D} (e : f r = ret x) (e2 : g r = ret y) (e3 : op x y = some (.bl true)) (e4 : h r = ret z) (e5 : op' y z = some d) : eChain op op' f g h r = ret d := by
  unfold eChain
  rw [e, bnd_ret, e2, bnd_ret, e3, lift_ret, bnd_ret]
  show bnd (h r) _ = _
  rw [e4, bnd_ret, e5]
  rfl
theorem q_lc {own : List Nat} {tg : Tg} {it : Ws} {cond : Option Ev} {elt : Ev} {xs : List D} (e : it r = ret xs) (e2 : lcGo tg (wipeE r own) cond elt xs [] = ret z) : eLc own tg it cond elt r = ret z := by unfold eLc; rw [e, bnd_ret]; exact e2
theorem q_itD {op : D → Option (List D)} {xs : List D} (e : f r = ret d) (e2 : op d = some xs) : itD op f r = ret xs := by unfold itD; rw [e, bnd_ret, e2]; rfl
theorem q_itN {op : List D → Option (List D)} {fs : List Ev} {ds xs : List D} (e : evs fs r = ret ds) (e2 : op ds = some xs) : itN op fs r = ret xs := by unfold itN; rw [e, bnd_ret, e2]; rfl
theorem q_sl {lo hi : Option Ev} {i j : Option Int} (e : f r = ret d) (e1 : evPart lo r = ret i) (e2 : evPart hi r = ret j) (e3 : oSl i j d = some z) : eSl f lo hi r = ret z := by unfold eSl; rw [e, bnd_ret, e1, bnd_ret, e2, bnd_ret, e3]; rfl
theorem q_part {i : Int} (e : f r = ret (.int i)) : evPart (some f) r = ret (some i) := by
  show bnd (f r) _ = _
  rw [e, bnd_ret]
theorem q_ix (e : f r = ret x) (e2 : g r = ret y) (nb : ∀ n, x ≠ .box n) (e3 : oIx x y = some z) : eIx f g r = ret z := by
  unfold eIx
  rw [e, bnd_ret, e2, bnd_ret]
  cases x <;> first | exact absurd rfl (nb _) | (show lift (oIx _ y) = _; rw [e3]; rfl)
end
end HF

/-! HF: the plain side: sorted. -/
namespace HF
open PySem (Str PyData sizeLine)
open L2 (Key)
theorem keysOf_strs : ∀ ys : List Str, keysOf (ys.map D.str) = some (ys.map Sum.inr)
  | [] => rfl
  | y :: ys => by
    show (keysOf (ys.map D.str)).map (Sum.inr y :: ·) = _
    rw [keysOf_strs ys]; rfl
theorem leF_strs (a b : Str) : leF (.inr a) (.inr b) = leS a b := by
  show (!decide (b.cps.toList < a.cps.toList)) = decide (a.cps.toList ≤ b.cps.toList)
  by_cases h : b.cps.toList < a.cps.toList
  · rw [decide_eq_true h, decide_eq_false (fun q => absurd h (List.not_lt.mpr q))]; rfl
  · rw [decide_eq_false h, decide_eq_true (List.not_lt.mp h)]; rfl
theorem sortK_strs (ys : List Str) : sortK (ys.map Sum.inr) = (sortT ys).map Sum.inr := by
  refine (sortK_of ((List.mergeSort_perm ys leS).map _) (List.pairwise_map.mpr ?_)).symm
  exact (List.pairwise_mergeSort leS_trans leS_total ys).imp fun {a b} h => by rw [leF_strs]; exact h
theorem oSort_strs (d : D) (ys : List Str) (h : itemsD d = some (ys.map D.str)) : oSort d = some (.lst true ((sortT ys).map D.str)) := by
  unfold oSort
  rw [h]
  dsimp only
  rw [keysOf_strs]
  dsimp only
  have c : ((ys.map Sum.inr).all fun a => (ys.map (Sum.inr : Str → Key)).all (sameK a)) = true := by
    rw [List.all_eq_true]
    intro a ha
    rw [List.all_eq_true]
    intro b hb
    obtain ⟨x, _, rfl⟩ := List.mem_map.mp ha
    obtain ⟨y, _, rfl⟩ := List.mem_map.mp hb
    rfl
  rw [if_pos c, sortK_strs, List.map_map]
  rfl
end HF

/-! HF: the plain side: names. -/
namespace HF
open PySem (Str PyData sizeLine)
theorem Wp.up {α : Type} {L t : Nat} {m : M α} {R : α → Nat → Prop} (h : Wp L m t fun a u => ∃ v, u ≤ v ∧ R a v) : Wp L m t R := fun b hb => by
  obtain ⟨a, b1, t1, e1, hb1, v, hv, h1⟩ := h b hb
  exact ⟨a, b1, v, e1, hb1.le hv, h1⟩
/-- a text of these signs -/
abbrev tx (l : List Nat) : Str := ⟨l.toArray⟩
abbrev abc : Str := "abcdefghijklmnopqrstuvwxyz"
theorem abc_eq : abc = tx (List.range' 97 26) := by decide +kernel
theorem tx_eta (x : Str) : tx x.cps.toList = x := by cases x; rfl
theorem tx_inj {a b : List Nat} (h : tx a = tx b) : a = b := by
  have := congrArg (fun x : Str => x.cps.toList) h
  exact this
theorem tx_add (a b : List Nat) : tx a ++ tx b = tx (a ++ b) := by
  show (⟨a.toArray ++ b.toArray⟩ : Str) = _
  simp
/-- short, small letters -/
def NameOk (x : Str) : Prop := ∃ l : List Nat, x = tx l ∧ l ≠ [] ∧ l.length ≤ 6 ∧ ∀ c ∈ l, 97 ≤ c ∧ c ≤ 122
theorem ix_abc {i : Int} (h0 : 0 ≤ i) (h1 : i < 26) : oIx (.str abc) (.int i) = some (.str (tx [97 + i.toNat])) := by
  obtain ⟨n, rfl⟩ := Int.eq_ofNat_of_zero_le h0
  have hn : n < 26 := by omega
  rw [abc_eq]
  show (if (tx (List.range' 97 26)).length ≤ sizeLine then (L2.atI (List.range' 97 26) (n : Int)).map (fun c => D.str ⟨#[c]⟩) else none) = _
  rw [if_pos (by rw [PySem.sizeLine_eq]; decide)]
  have e : L2.atI (List.range' 97 26) (n : Int) = some (97 + n) := by
    show (L2.ixN (List.range' 97 26).length (n : Int)).bind (fun j => (List.range' 97 26)[j]?) = _
    have e2 : L2.ixN (List.range' 97 26).length (n : Int) = some n := by
      unfold L2.ixN
      rw [if_pos (by omega), if_pos (by rw [List.length_range']; omega)]
      rfl
    rw [e2]
    show (List.range' 97 26)[n]? = _
    rw [List.getElem?_range' hn]
    simp
  rw [e]
  rfl
theorem strsOf_map (ys : List Str) : strsOf (ys.map D.str) = some ys := by
  induction ys with
  | nil => rfl
  | cons y ys ih => show (strsOf (ys.map D.str)).map (y :: ·) = _; rw [ih]; rfl
theorem sum_ones (cs : List Nat) : ((cs.map fun c => tx [c]).map (·.length)).sum = cs.length := by
  induction cs with
  | nil => rfl
  | cons c cs ih => rw [List.map_cons, List.map_cons, List.sum_cons, ih, List.length_cons]; show 1 + cs.length = _; omega
theorem join_one (cs : List Nat) : PySem.Txt.join (PySem.Str.ofString "") (cs.map fun c => tx [c]) = tx cs := by
  show PySem.Builtin.Str.glued _ _ = _
  rw [PySem.StrLaws.glued_eq_join]
  have z : PySem.Str.ofString "" = tx [] := by decide +kernel
  rw [z]
  induction cs with
  | nil => rfl
  | cons c cs ih =>
    cases cs with
    | nil => rfl
    | cons d ds =>
      rw [List.map_cons]
      show tx [c] ++ tx [] ++ PySem.Str.join (tx []) ((d :: ds).map fun c => tx [c]) = _
      rw [ih, tx_add, tx_add]
      rfl
theorem oJoin_one (cs : List Nat) (h : cs.length ≤ 1000) : oJoin (.str ("" : Str)) (.lst true (cs.map fun c => D.str (tx [c]))) = some (.str (tx cs)) := by
  have e : (cs.map fun c => D.str (tx [c])) = (cs.map fun c => tx [c]).map D.str := by rw [List.map_map]; rfl
  rw [e]
  show (strsOf ((cs.map fun c => tx [c]).map D.str)).bind _ = _
  rw [strsOf_map]
  show (if _ then _ else _) = _
  rw [if_pos, join_one]
  rw [sum_ones]
  show cs.length + _ * 0 ≤ _
  omega
theorem cut_tx (l : List Nat) : L2.cutS (tx l) none (some 5) = tx (l.take 5) := by
  unfold L2.cutS
  have e1 : HT.sIx (tx l).length 0 none = 0 := rfl
  have e2 : HT.sIx (tx l).length (tx l).length (some 5) = min 5 l.length := by
    have := HT.sIx_nat (tx l).length (tx l).length 5
    exact this
  rw [e1, e2, List.drop_zero, Nat.sub_zero]
  show tx (l.take (min 5 l.length)) = _
  rw [Nat.min_def]
  split
  · rfl
  · rw [List.take_length, List.take_of_length_le (by omega)]
theorem eqv_str (a b : Str) : eqvD (.str a) (.str b) = (a == b) := by
  show PyData.eqv (.str a) (.str b) = _
  unfold PyData.eqv
  rfl
theorem isIn_strs {x : Str} {o : Bool} {ys : List Str} : isIn (.str x) (.lst o (ys.map D.str)) = some (decide (x ∈ ys)) := by
  have e : plainD 40 (.str x) = true := rfl
  have e2 : (ys.map D.str).all (plainD 39) = true := by
    rw [List.all_map, List.all_eq_true]
    intro y _
    rfl
  show (if plainD 40 (.str x) && (ys.map D.str).all (plainD 39) then some ((ys.map D.str).any fun y => eqvD y (.str x)) else none) = _
  rw [e, e2, if_pos (show (true && true) = true from rfl), List.any_map]
  congr 1
  rw [Bool.eq_iff_iff, List.any_eq_true, decide_eq_true_iff]
  constructor
  · rintro ⟨y, hy, e⟩
    have e' : eqvD (.str y) (.str x) = true := e
    rw [eqv_str] at e'
    rw [← eq_of_beq e']; exact hy
  · intro h
    refine ⟨x, h, ?_⟩
    show eqvD (.str x) (.str x) = true
    rw [eqv_str]
    exact beq_self_eq_true x
theorem len_le_of {α : Type} [DecidableEq α] : ∀ {l m : List α}, l.Nodup → (∀ a ∈ l, a ∈ m) → l.length ≤ m.length
  | [], _, _, _ => Nat.zero_le _
  | a :: l, m, hn, h => by
    have ha := h a List.mem_cons_self
    have hn' := List.nodup_cons.mp hn
    have := len_le_of (l := l) (m := m.erase a) hn'.2 fun b hb => (List.mem_erase_of_ne (fun (e : b = a) => hn'.1 (by rw [← e]; exact hb))).mpr (h b (List.mem_cons_of_mem _ hb))
    rw [List.length_erase_of_mem ha] at this
    have hp := List.length_pos_of_mem ha
    rw [List.length_cons]
    omega
def cands (l : List Nat) : List Str := tx l :: (List.range' 97 26).map fun c => tx (l.take 5 ++ [c])
theorem cands_new (l : List Nat) (ys : List Str) (h : ys.length < 26) : ∃ x rest, (cands l).filter (fun x => !decide (x ∈ ys)) = x :: rest := by
  cases e : (cands l).filter (fun x => !decide (x ∈ ys)) with
  | cons x rest => exact ⟨x, rest, rfl⟩
  | nil =>
    exfalso
    have all : ∀ a ∈ (List.range' 97 26).map (fun c => tx (l.take 5 ++ [c])), a ∈ ys := by
      intro a ha
      apply Classical.byContradiction
      intro hn
      have : a ∈ (cands l).filter (fun x => !decide (x ∈ ys)) := List.mem_filter.mpr ⟨List.mem_cons_of_mem _ ha, by simpa using hn⟩
      rw [e] at this
      cases this
    have nd : ((List.range' 97 26).map fun c => tx (l.take 5 ++ [c])).Nodup := by
      unfold List.Nodup
      rw [List.pairwise_map]
      exact List.Pairwise.imp (fun {a b} hab e => hab (by simpa using tx_inj e)) (List.nodup_range' (step := 1) (by decide))
    have := len_le_of nd all
    rw [List.length_map, List.length_range'] at this
    omega
theorem cands_ok {l : List Nat} (h : NameOk (tx l)) : ∀ x ∈ cands l, NameOk x := by
  obtain ⟨l', e, h1, h2, h3⟩ := h
  obtain rfl := tx_inj e
  intro x hx
  rcases List.mem_cons.mp hx with rfl | hx
  · exact ⟨l, rfl, h1, h2, h3⟩
  · obtain ⟨c, hc, rfl⟩ := List.mem_map.mp hx
    rw [List.mem_range'_1] at hc
    refine ⟨_, rfl, by simp, by rw [List.length_append, List.length_take, List.length_singleton]; omega, fun d hd => ?_⟩
    rcases List.mem_append.mp hd with hd | hd
    · exact h3 d (List.mem_of_mem_take hd)
    · rw [List.mem_singleton.mp hd]; omega
theorem cut_ok {l : List Nat} {c : Nat} (h : ∀ c ∈ l, 97 ≤ c ∧ c ≤ 122) (h1 : 97 ≤ c) (h2 : c ≤ 122) : NameOk (tx (l.take 5 ++ [c])) :=
  ⟨_, rfl, by simp, by rw [List.length_append, List.length_take, List.length_singleton]; omega, fun d hd => by
    rcases List.mem_append.mp hd with hd | hd
    · exact h d (List.mem_of_mem_take hd)
    · rw [List.mem_singleton.mp hd]; exact ⟨h1, h2⟩⟩
def pNames : Fn := runFn 7
    (sSeq (sUnp 2 false 3 true (eTup [(eC (.str ("abcdefghijklmnopqrstuvwxyz" : Str))), (eLst [])]))
    (sSeq (sFor (.one 4) (itN (l1 itRange) [(eB 1)])
    (sSeq (sSet 5 (eSh (e2 oJoin (eC (.str ("" : Str))) (eLc [6] (.one 6) (itN (l1 itRange) [(eIx (eInn (eLst [(eC (.int 1)), (eC (.int 6)), (eC (.int 2))])) (eCall pTake [(eV 0), (eC (.int 3))]))]) none (eIx (eI 2) (eCall pTake [(eV 0), (eC (.int 26))]))))))
    (sSeq (sIf (eAnd (e2 oNe (eB 3) (eLst [])) (e2 oEq (eCall pTake [(eV 0), (eC (.int 4))]) (eC (.int 0))))
    (sSet 5 (eSh (e2 oAdd (eInn (eSl (eInn (eIx (eI 3) (eC (.int 0)))) none (some (eC (.int 5))))) (eInn (eIx (eI 2) (eCall pTake [(eV 0), (eC (.int 26))]))))))
    sNx)
    (sMut 3 mAppend [(eIx (eInn (eLc [7] (.one 7) (itD itSeq (eSh (e2 oAdd (eInn (eLst [(eV 5)])) (eInn (eLc [8] (.one 8) (itD itSeq (eV 2)) none (e2 oAdd (eInn (eSl (eI 5) none (some (eC (.int 5))))) (eI 8))))))) (some (e2 oNotIn (eB 7) (eB 3))) (eV 7))) (eC (.int 0)))]))))
    (sRet (eN (n1 oSort) [(eB 3)]))))
section
variable {L n t : Nat}
theorem take_call {i : Nat} {f : Ev} {r : Env} {bd : Int} {R : D → Nat → Prop} (hb : eV i r = ret (.box n)) (hf : f r = ret (.int bd)) (hn : n < L) (h1 : 0 < bd) (h2 : bd < 1073741824) (ht : t < 1099511627776) (h : ∀ x : Int, 0 ≤ x → x < bd → R (.int x) (t + 1)) : Wp L (eCall pTake [eV i, f] r) t R :=
  eCall_wp (evs_cons_wp (.of hb (evs_cons_wp (.of hf (evs_nil_wp (take_wp hn h1 h2 ht h))))))
theorem letter_wp {i : Nat} {f : Ev} {r : Env} {R : D → Nat → Prop} (ha : f r = ret (.str abc)) (hb : eV i r = ret (.box n)) (hn : n < L) (ht : t < 1099511627776) (h : ∀ c : Nat, 97 ≤ c → c ≤ 122 → R (.str (tx [c])) (t + 1)) : Wp L (eIx f (eCall pTake [eV i, eC (.int 26)]) r) t R :=
  eIx_wp (.of ha (take_call hb rfl hn (by decide) (by decide) ht fun x h0 h1 => ⟨fun n e => (by cases e), _, ix_abc h0 h1, h _ (by omega) (by omega)⟩))
theorem oAdd_lst {o o' : Bool} {a b : List D} (h : a.length + b.length ≤ sizeLine) : oAdd (.lst o a) (.lst o' b) = some (.lst true (a ++ b)) := if_pos h
theorem oAdd_tup {a b : List D} (h : a.length + b.length ≤ sizeLine) : oAdd (.tup a) (.tup b) = some (.tup (a ++ b)) := if_pos h
theorem stillL_strs (ys : List Str) : stillL (ys.map D.str) = true := by
  rw [stillL_eq, List.all_map, List.all_eq_true]
  intro y _
  rfl
theorem shareL_strs (ys : List Str) : shareL (ys.map D.str) = ys.map D.str := by rw [shareL_eq, List.map_map]; rfl
theorem signs_abc : signs abc = (List.range' 97 26).map fun c => D.str (tx [c]) := by rw [abc_eq]; rfl
/-- what may be added to the names -/
theorem pick_pure (a b x : D) (v6 v7 v8 : Sl) (l : List Nat) (ys : List Str) (hl : l.length ≤ 6) (hy : ys.length < 26) : ∃ z, z ∈ cands l ∧ z ∉ ys ∧ eIx (eInn (eLc [7] (.one 7) (itD itSeq (eSh (e2 oAdd (eInn (eLst [(eV 5)])) (eInn (eLc [8] (.one 8) (itD itSeq (eV 2)) none (e2 oAdd (eInn (eSl (eI 5) none (some (eC (.int 5))))) (eI 8))))))) (some (e2 oNotIn (eB 7) (eB 3))) (eV 7))) (eC (.int 0)) [.sh a, .sh b, .sh (.str abc), .ow (.lst true (ys.map D.str)), .sh x, .sh (.str (tx l)), v6, v7, v8] = ret (.str z) := by
  have szl := PySem.sizeLine_eq
  obtain ⟨z, rest, hz⟩ := cands_new l ys hy
  have hm : z ∈ (cands l).filter (fun x => !decide (x ∈ ys)) := by rw [hz]; exact List.mem_cons_self
  have hm' := List.mem_filter.mp hm
  refine ⟨z, hm'.1, by simpa using hm'.2, ?_⟩
  have lt5 : (l.take 5).length ≤ 5 := by rw [List.length_take]; omega
  have inner : eLc [8] (.one 8) (itD itSeq (eV 2)) none (e2 oAdd (eInn (eSl (eI 5) none (some (eC (.int 5))))) (eI 8)) [.sh a, .sh b, .sh (.str abc), .ow (.lst true (ys.map D.str)), .sh x, .sh (.str (tx l)), v6, v7, v8] = ret (.lst true (((List.range' 97 26).map fun c => tx (l.take 5 ++ [c])).map D.str)) := by
    show lcGo (.one 8) [.sh a, .sh b, .sh (.str abc), .ow (.lst true (ys.map D.str)), .sh x, .sh (.str (tx l)), v6, v7, .no] none _ (signs abc) [] = _
    rw [signs_abc, lcGo_pure0 (en := fun d => [.sh a, .sh b, .sh (.str abc), .ow (.lst true (ys.map D.str)), .sh x, .sh (.str (tx l)), v6, v7, .sh d]) (f := fun d => match d with
      | .str z => .str (tx (l.take 5 ++ z.cps.toList))
      | d => d)]
    · rw [List.nil_append, List.map_map, List.map_map]
      rfl
    · intro d hd
      obtain ⟨c, hc, rfl⟩ := List.mem_map.mp hd
      refine ⟨rfl, ?_⟩
      have e1 : oSl none (some 5) (.str (tx l)) = some (.str (tx (l.take 5))) := by
        show (if (tx l).length ≤ sizeLine then some (D.str (L2.cutS (tx l) none (some 5))) else none) = _
        rw [if_pos (by show l.length ≤ _; omega), cut_tx]
      have e2 : oAdd (.str (tx (l.take 5))) (.str (tx [c])) = some (.str (tx (l.take 5 ++ [c]))) := by
        show (if (tx (l.take 5)).length + (tx [c]).length ≤ sizeLine then some (D.str (tx (l.take 5) ++ tx [c])) else none) = _
        rw [if_pos (by show (l.take 5).length + 1 ≤ _; omega), tx_add]
      show bnd (bnd (lift (oSl none (some 5) (.str (tx l)))) fun d => ret (shareIn d)) _ = _
      rw [e1]
      show lift (oAdd (.str (tx (l.take 5))) (.str (tx [c]))) = _
      rw [e2]
      rfl
    · rw [List.length_map, List.length_range', List.length_nil]; omega
  have outer : eSh (e2 oAdd (eInn (eLst [(eV 5)])) (eInn (eLc [8] (.one 8) (itD itSeq (eV 2)) none (e2 oAdd (eInn (eSl (eI 5) none (some (eC (.int 5))))) (eI 8))))) [.sh a, .sh b, .sh (.str abc), .ow (.lst true (ys.map D.str)), .sh x, .sh (.str (tx l)), v6, v7, v8] = ret (.lst false ((cands l).map D.str)) := by
    show bnd (bnd (bnd (eLc [8] _ _ _ _ _) fun d => ret (shareIn d)) fun y => lift (oAdd (.lst true [.str (tx l)]) y)) _ = _
    rw [inner, bnd_ret, bnd_ret]
    show bnd (lift (oAdd (.lst true [.str (tx l)]) (.lst true (shareL _)))) _ = _
    rw [shareL_strs]
    rw [oAdd_lst (by rw [List.length_map, List.length_map, List.length_range', szl]; show 1 + 26 ≤ 16777216; decide)]
    show ret (D.lst false (shareL ([D.str (tx l)] ++ _))) = _
    have e : ([D.str (tx l)] ++ ((List.range' 97 26).map fun c => tx (l.take 5 ++ [c])).map D.str) = (cands l).map D.str := rfl
    rw [e, shareL_strs]
  show bnd (bnd (bnd (bnd (eSh _ _) _) _) _) _ = _
  rw [outer, bnd_ret, show itSeq (.lst false ((cands l).map D.str)) = some ((cands l).map D.str) from rfl, lift_ret, bnd_ret]
  show bnd (bnd (lcGo (.one 7) [.sh a, .sh b, .sh (.str abc), .ow (.lst true (ys.map D.str)), .sh x, .sh (.str (tx l)), v6, .no, v8] _ _ ((cands l).map D.str) []) _) _ = _
  rw [lcGo_pure (en := fun d => [.sh a, .sh b, .sh (.str abc), .ow (.lst true (ys.map D.str)), .sh x, .sh (.str (tx l)), v6, .sh d, v8]) (f := id) (c := fun d => match d with
      | .str z => !decide (z ∈ ys)
      | d => false)]
  · rw [List.nil_append, List.filter_map, List.map_id]
    show bnd (bnd (ret (D.lst true (((cands l).filter (fun x => !decide (x ∈ ys))).map D.str))) _) _ = _
    rw [hz]
    show bnd (ret (D.lst true (shareL ((z :: rest).map D.str)))) _ = _
    rw [shareL_strs]
    have hat : oIx (.lst true ((z :: rest).map D.str)) (.int 0) = some (.str z) := by
      show (L2.ixN ((z :: rest).map D.str).length 0).bind _ = _
      have : L2.ixN ((z :: rest).map D.str).length 0 = some 0 := by
        unfold L2.ixN
        rw [if_pos (by decide), if_pos (by rw [List.map_cons, List.length_cons]; omega)]
        rfl
      rw [this]
      rfl
    show lift (oIx (.lst true ((z :: rest).map D.str)) (.int 0)) = _
    rw [hat]
    rfl
  · intro d hd
    obtain ⟨c, hc, rfl⟩ := List.mem_map.mp hd
    refine ⟨rfl, ?_, rfl⟩
    show lift ((isIn (.str c) (.lst true (ys.map D.str))).map fun b => D.bl (!b)) = _
    rw [isIn_strs]
    rfl
  · show 0 + ((cands l).map D.str).length ≤ _
    rw [List.length_map]
    show 0 + (((List.range' 97 26).map _).length + 1) ≤ _
    rw [List.length_map, List.length_range']
    omega
/-- a drawn name -/
theorem name_wp {r : Env} {R : D → Nat → Prop} (h0 : ∀ v, eV 0 (((wipeE r [6])).set 6 v) = ret (.box n)) (h00 : eV 0 r = ret (.box n)) (h2 : ∀ v, eI 2 ((wipeE r [6]).set 6 v) = ret (.str abc)) (hn : n < L) (ht : t + 10 < 1099511627776) (h : ∀ (l : List Nat) (u : Nat), NameOk (tx l) → u ≤ t + 7 → R (.str (tx l)) u) :
    Wp L (eSh (e2 oJoin (eC (.str ("" : Str))) (eLc [6] (.one 6) (itN (l1 itRange) [(eIx (eInn (eLst [(eC (.int 1)), (eC (.int 6)), (eC (.int 2))])) (eCall pTake [(eV 0), (eC (.int 3))]))]) none (eIx (eI 2) (eCall pTake [(eV 0), (eC (.int 26))])))) r) t R := by
  refine eSh_wp (e2_wp (.of (a := .str ("" : Str)) rfl (eLc_wp (itN_wp (evs_cons_wp (eIx_wp (.of (a := .lst true [.int 1, .int 6, .int 2]) rfl (take_call h00 rfl hn (by decide) (by decide) (by omega) fun x hx0 hx1 => ?_))))))))
  have pick : ∃ m : Nat, oIx (.lst true [.int 1, .int 6, .int 2]) (.int x) = some (.int (m : Int)) ∧ 1 ≤ m ∧ m ≤ 6 := by
    have : x = 0 ∨ x = 1 ∨ x = 2 := by omega
    rcases this with rfl | rfl | rfl
    · exact ⟨1, rfl, by decide, by decide⟩
    · exact ⟨6, rfl, by decide, by decide⟩
    · exact ⟨2, rfl, by decide, by decide⟩
  obtain ⟨m, em, m1, m6⟩ := pick
  refine ⟨fun n e => (by cases e), _, em, evs_nil_wp ⟨_, (if_pos (by omega) : itRange (.int (m : Int)) = some _), ?_⟩⟩
  refine (lcGo_wp (fun rest acc u => ∃ cs : List Nat, acc = cs.map (fun c => D.str (tx [c])) ∧ (∀ c ∈ cs, 97 ≤ c ∧ c ≤ 122) ∧ cs.length + rest.length = m ∧ u = t + 1 + cs.length) ?_ _ [] (t + 1) ⟨[], rfl, (fun c hc => by cases hc), by simp, rfl⟩).mono ?_
  · rintro x rest acc u ⟨cs, rfl, hc, hl, rfl⟩
    rw [List.length_cons] at hl
    refine ⟨by rw [List.length_map, PySem.sizeLine_eq]; omega, _, rfl, letter_wp (h2 _) (h0 _) hn (by omega) fun c c1 c2 => ⟨cs ++ [c], by rw [List.map_append]; rfl, fun d hd => ?_, by rw [List.length_append, List.length_singleton]; omega, by rw [List.length_append, List.length_singleton]; omega⟩⟩
    rcases List.mem_append.mp hd with hd | hd
    · exact hc d hd
    · rw [List.mem_singleton.mp hd]; exact ⟨c1, c2⟩
  · rintro d u ⟨ys, rfl, cs, rfl, hc, hl, rfl⟩
    have hl' : cs.length = m := by simpa using hl
    exact ⟨_, oJoin_one cs (by omega), h cs _ ⟨cs, rfl, by intro e; subst e; simp at hl'; omega, by omega, hc⟩ (by omega)⟩
theorem names_wp {sz : Nat} {R : D → Nat → Prop} (hn : n < L) (hs : sz ≤ 25) (ht : t + 10 * sz + 20 < 1099511627776) (h : ∀ ys : List Str, ys.length = sz → ys.Nodup → (∀ y ∈ ys, NameOk y) → R (.lst true (ys.map D.str)) (t + 9 * sz)) : Wp L (pNames [.box n, .int sz]) t R := by
  have szl := PySem.sizeLine_eq
  refine runFn_wp (sSeq_wp (.of (a := (.nx, [.sh (.box n), .sh (.int sz), .sh (.str abc), .ow (.lst true []), .no, .no, .no, .no, .no])) rfl ⟨_, rfl, ?_⟩))
  refine sSeq_wp (sFor_wp (itN_wp (evs_cons_wp (.of (a := .int sz) rfl (evs_nil_wp ⟨_, (if_pos (by omega) : itRange (.int (sz : Int)) = some _), ?_⟩)))))
  refine (forGo_wp (fun rest r u => ∃ (ys : List Str) (v4 v5 v6 v7 v8 : Sl), rest.length + ys.length = sz ∧ r = [.sh (.box n), .sh (.int sz), .sh (.str abc), .ow (.lst true (ys.map D.str)), v4, v5, v6, v7, v8] ∧ ys.Nodup ∧ (∀ y ∈ ys, NameOk y) ∧ u = t + 9 * ys.length) ?_ _ _ t ⟨[], .no, .no, .no, .no, .no, by simp, rfl, List.nodup_nil, (fun y hy => by cases hy), rfl⟩).mono ?_
  · rintro x rest r u ⟨ys, v4, v5, v6, v7, v8, hl, rfl, nd, ok, rfl⟩
    rw [List.length_cons] at hl
    refine ⟨_, rfl, sSeq_wp (sSet_wp (name_wp (n := n) (fun _ => rfl) rfl (fun _ => rfl) hn (by omega) fun l u hl1 hu => ⟨_, rfl, ?_⟩))⟩
    -- the second drawing
    have step : ∀ (l : List Nat) (u : Nat), NameOk (tx l) → u ≤ t + 9 * ys.length + 9 → Wp L (sMut 3 mAppend [(eIx (eInn (eLc [7] (.one 7) (itD itSeq (eSh (e2 oAdd (eInn (eLst [(eV 5)])) (eInn (eLc [8] (.one 8) (itD itSeq (eV 2)) none (e2 oAdd (eInn (eSl (eI 5) none (some (eC (.int 5))))) (eI 8))))))) (some (e2 oNotIn (eB 7) (eB 3))) (eV 7))) (eC (.int 0)))] [.sh (.box n), .sh (.int sz), .sh (.str abc), .ow (.lst true (ys.map D.str)), .sh x, .sh (.str (tx l)), v6, v7, v8]) u (fun p u => ∃ r2, p = (.nx, r2) ∧ ∃ (zs : List Str) (v4 v5 v6 v7 v8 : Sl), rest.length + zs.length = sz ∧ r2 = [.sh (.box n), .sh (.int sz), .sh (.str abc), .ow (.lst true (zs.map D.str)), v4, v5, v6, v7, v8] ∧ zs.Nodup ∧ (∀ y ∈ zs, NameOk y) ∧ u = t + 9 * zs.length) := by
      intro l u hl1 hu
      have hl6 : l.length ≤ 6 := by
        obtain ⟨l', e, _, h2, _⟩ := hl1
        rw [tx_inj e]; exact h2
      obtain ⟨z, hz, hzn, ez⟩ := pick_pure (.box n) (.int sz) x v6 v7 v8 l ys hl6 (by omega)
      refine .up (.bnd (evs_cons_wp (.of ez (evs_nil_wp ?_))))
      have em : mAppend (.lst true (ys.map D.str)) [.str z] = some (.lst true ((ys ++ [z]).map D.str)) := by
        rw [List.map_append]
        exact if_pos (by rw [List.length_map]; omega)
      refine .bnd (.lift em (.ret ⟨t + 9 * (ys.length + 1), by omega, _, rfl, ys ++ [z], _, _, _, _, _, by rw [List.length_append, List.length_singleton]; omega, rfl, ?_, ?_, by rw [List.length_append, List.length_singleton]⟩))
      · rw [List.nodup_append]
        refine ⟨nd, by simp, fun a ha b hb e => hzn ?_⟩
        rw [← List.mem_singleton.mp hb, ← e]
        exact ha
      · intro y hy
        rcases List.mem_append.mp hy with hy | hy
        · exact ok y hy
        · rw [List.mem_singleton.mp hy]; exact cands_ok hl1 z hz
    have hne : oNe (.lst true (ys.map D.str)) (.lst true []) = some (.bl (!ys.isEmpty)) := by
      have e1 : (plainD 40 (.lst true (ys.map D.str)) && plainD 40 (.lst true [])) = true := by
        show ((ys.map D.str).all (plainD 39) && true) = true
        rw [Bool.and_true, List.all_map, List.all_eq_true]
        intro y _
        rfl
      show (if _ then _ else _) = _
      rw [if_pos e1]
      cases ys with
      | nil => rfl
      | cons y ys => rfl
    refine sSeq_wp (sIf_wp (eAnd_wp (e2_wp (.of (a := .lst true (ys.map D.str)) rfl (.of (a := .lst true []) rfl ⟨_, hne, ?_⟩)))))
    cases ys with
    | nil => exact .inr ⟨rfl, .inr ⟨rfl, .ret ⟨_, rfl, step l u hl1 (by omega)⟩⟩⟩
    | cons y ys =>
      refine .inl ⟨rfl, e2_wp (take_call rfl rfl hn (by decide) (by decide) (by simp only [List.length_cons] at *; omega) fun i h0 h1 => .of (a := .int 0) rfl ⟨.bl (decide (i = 0)), ?_, ?_⟩)⟩
      · show some (D.bl (PyData.eqv (.int i) (.int 0))) = _
        unfold PyData.eqv
        rfl
      · by_cases hi : i = 0
        · refine .inl ⟨by rw [decide_eq_true hi], sSet_wp ?_⟩
          obtain ⟨l0, rfl, _, h06, h0c⟩ := ok y List.mem_cons_self
          refine eSh_wp (e2_wp (.of (a := .str (tx (l0.take 5))) ?_ (eInn_wp (letter_wp rfl rfl hn (by simp only [List.length_cons] at *; omega) fun c c1 c2 => ⟨_, (?_ : oAdd (.str (tx (l0.take 5))) (.str (tx [c])) = some (.str (tx (l0.take 5 ++ [c])))), _, rfl, step _ _ (cut_ok h0c c1 c2) (by omega)⟩))))
          · have hi3 : eI 3 ((List.set [.sh (.box n), .sh (.int sz), .sh (.str abc), .ow (.lst true (List.map D.str (tx l0 :: ys))), v4, v5, v6, v7, v8] 4 (.sh x)).set 5 (.sh (.str (tx l)))) = ret (.lst true (List.map D.str (tx l0 :: ys))) := if_pos (stillL_strs _)
            unfold eInn eSl eIx
            simp only []
            rw [hi3, bnd_ret]
            show bnd (bnd (bnd (lift (oIx (.lst true (D.str (tx l0) :: ys.map D.str)) (.int 0))) _) _) _ = _
            have hat : oIx (.lst true (D.str (tx l0) :: ys.map D.str)) (.int 0) = some (.str (tx l0)) := by
              show (L2.ixN (D.str (tx l0) :: ys.map D.str).length 0).bind _ = _
              have : L2.ixN (D.str (tx l0) :: ys.map D.str).length 0 = some 0 := by
                unfold L2.ixN
                rw [if_pos (by decide), if_pos (by rw [List.length_cons]; omega)]
                rfl
              rw [this]
              rfl
            rw [hat]
            show bnd (lift (if (tx l0).length ≤ sizeLine then some (D.str (L2.cutS (tx l0) none (some 5))) else none)) _ = _
            rw [if_pos (by show l0.length ≤ _; omega), cut_tx]
            rfl
          · show (if (tx (l0.take 5)).length + (tx [c]).length ≤ sizeLine then some (D.str (tx (l0.take 5) ++ tx [c])) else none) = _
            rw [if_pos (by show (l0.take 5).length + 1 ≤ _; rw [List.length_take]; omega), tx_add]
        · exact .inr ⟨by rw [decide_eq_false hi], .ret ⟨_, rfl, step l _ hl1 (by omega)⟩⟩
  · rintro p u ⟨r2, rfl, ys, v4, v5, v6, v7, v8, hl, rfl, nd, ok, rfl⟩
    have hl' : ys.length = sz := by simpa using hl
    have es := oSort_strs (.lst true (ys.map D.str)) ys rfl
    have pm : (sortT ys).Perm ys := List.mergeSort_perm _ _
    refine ⟨_, rfl, sRet_wp (eN_wp (evs_cons_wp (.of (a := .lst true (ys.map D.str)) rfl (evs_nil_wp ⟨_, es, _, _, rfl, ?_⟩))))⟩
    rw [hl']
    exact h _ (by rw [pm.length_eq]; exact hl') (pm.nodup_iff.mpr nd) fun y hy => ok y (pm.mem_iff.mp hy)
end
end HF

/-! HF: the plain side: what is shown; heaps drawn; what is the same. -/
namespace HF
open PySem (Str PyData sizeLine)
open PySem.PyData
theorem char_lt (c : Char) : c.toNat < 0x110000 := by
  have h := c.valid
  simp only [UInt32.isValidChar, Nat.isValidChar] at h
  have e : c.toNat = c.val.toNat := rfl
  omega
theorem strOk_lit (s : String) : strOk (PySem.Str.ofString s) = true := strOk_mk fun c hc => by
  have e : (PySem.Str.ofString s).cps.toList = s.toList.map Char.toNat := PySem.cpsOfBytes_string s
  rw [e] at hc
  obtain ⟨d, _, rfl⟩ := List.mem_map.mp hc
  exact char_lt d
theorem reprChar_lt (q c : Nat) (hc : c < 0x110000) : ∀ d ∈ PySem.Builtin.Str.reprChar q c, d < 0x110000 := by
  have hex : ∀ w, ∀ d ∈ List.replicate (w - ((Nat.toDigits 16 c).map Char.toNat).length) 48 ++ (Nat.toDigits 16 c).map Char.toNat, d < 0x110000 := fun w d hd => by
    rcases List.mem_append.mp hd with hd | hd
    · have := List.eq_of_mem_replicate hd; omega
    · obtain ⟨e, _, rfl⟩ := List.mem_map.mp hd
      exact char_lt e
  intro d hd
  unfold PySem.Builtin.Str.reprChar at hd
  dsimp only at hd
  repeat' split at hd
  all_goals first | (simp only [List.mem_cons, List.not_mem_nil, or_false] at hd; omega) | skip
  all_goals
    rcases List.mem_append.mp hd with hd | hd
    · simp only [List.mem_cons, List.not_mem_nil, or_false] at hd; omega
    · exact hex _ d hd
theorem strOk_repr {x : Str} (h : strOk x = true) : strOk (PySem.reprText x) = true := strOk_mk fun c hc => by
  have hq : PySem.reprQuote x < 0x110000 := by unfold PySem.reprQuote; split <;> omega
  have fold : ∀ (l : List Nat) (acc : Array Nat), (∀ c ∈ l, c < 0x110000) → (∀ c ∈ acc.toList, c < 0x110000) → ∀ c ∈ (l.foldl (fun out c => out ++ (PySem.Builtin.Str.reprChar (PySem.reprQuote x) c).toArray) acc).toList, c < 0x110000 := by
    intro l
    induction l with
    | nil => intro acc _ ha; exact ha
    | cons b l ih =>
      intro acc hl ha
      refine ih _ (fun c hc => hl c (List.mem_cons_of_mem _ hc)) fun c hc => ?_
      rw [Array.toList_append] at hc
      rcases List.mem_append.mp hc with hc | hc
      · exact ha c hc
      · exact reprChar_lt _ b (hl b List.mem_cons_self) c hc
  unfold PySem.reprText at hc
  rw [Array.toList_push, ← Array.foldl_toList] at hc
  rcases List.mem_append.mp hc with hc | hc
  · exact fold x.cps.toList _ (strOk_of h) (fun c hc => by rw [List.mem_singleton.mp hc]; exact hq) c hc
  · rw [List.mem_singleton.mp hc]; exact hq
theorem strOk_from : ∀ (ts : List Str) (k : Nat) (acc : Str), (∀ t ∈ ts, strOk t = true) → strOk acc = true → strOk (PySem.textFrom k acc ts) = true
  | [], _, _, _, h => h
  | t :: ts, k, acc, ht, h => strOk_from ts (k + 1) _ (fun u hu => ht u (List.mem_cons_of_mem _ hu)) (strOk_app (strOk_app h (strOk_lit _)) (ht t List.mem_cons_self))
mutual
theorem strOk_shown : ∀ d : PyData, d.canLay0 = true → strOk d.shown = true
  | .none, _ => by unfold shown; exact strOk_lit _
  | .bool b, _ => by unfold shown; cases b <;> exact strOk_lit _
  | .int i, _ => by unfold shown; exact strOk_lit _
  | .str x, h => by unfold shown; exact strOk_repr (by simpa [canLay0] using h)
  | .list xs, h => by
    unfold shown
    exact strOk_app (strOk_from _ _ _ (strOk_shownAll xs (by simpa [canLay0] using h)) (strOk_lit _)) (strOk_lit _)
  | .tuple xs, h => by
    unfold shown
    refine strOk_app (strOk_app (strOk_lit _) (strOk_join (strOk_lit _) (strOk_shownAll xs (by simpa [canLay0] using h)))) ?_
    split <;> exact strOk_lit _
  | .dict _, h => by simp [canLay0] at h
theorem strOk_shownAll : ∀ xs : List PyData, canLayAll0 xs = true → ∀ t ∈ shownAll xs, strOk t = true
  | [], _ => fun t ht => by unfold shownAll at ht; cases ht
  | x :: xs, h => fun t ht => by
    have h' : x.canLay0 = true ∧ canLayAll0 xs = true := by simpa [canLayAll0] using h
    unfold shownAll at ht
    rcases List.mem_cons.mp ht with rfl | ht
    · exact strOk_shown x h'.1
    · exact strOk_shownAll xs h'.2 t ht
end
/-! ### lists of names -/
abbrev Nms (ys : List Str) : Prop := ∀ y ∈ ys, NameOk y
theorem NameOk.strOk {y : Str} (h : NameOk y) : strOk y = true := by
  obtain ⟨l, rfl, _, _, hc⟩ := h
  exact strOk_mk fun c hc' => by
    have := hc c hc'
    omega
theorem NameOk.len {y : Str} (h : NameOk y) : y.length ≤ 6 := by
  obtain ⟨l, rfl, _, h6, _⟩ := h
  exact h6
theorem Nms.sum : ∀ {ys : List Str}, Nms ys → (ys.map (·.length)).sum ≤ 6 * ys.length
  | [], _ => Nat.le_refl _
  | y :: ys, h => by
    have := Nms.sum (ys := ys) fun z hz => h z (List.mem_cons_of_mem _ hz)
    have := (h y List.mem_cons_self).len
    rw [List.map_cons, List.sum_cons, List.length_cons]
    omega
theorem toPDL_strs (ys : List Str) : toPDL (ys.map D.str) = ys.map PyData.str := by rw [toPDL_eq, List.map_map]; rfl
theorem canLay_strs : ∀ {ys : List Str}, Nms ys → canLayAll0 (ys.map PyData.str) = true
  | [], _ => rfl
  | y :: ys, h => by
    rw [List.map_cons]
    unfold canLayAll0
    rw [canLay_strs fun z hz => h z (List.mem_cons_of_mem _ hz)]
    unfold canLay0
    rw [(h y List.mem_cons_self).strOk]
    rfl
theorem depth_strs : ∀ ys : List Str, depthAll (ys.map PyData.str) = 0
  | [] => rfl
  | y :: ys => by
    rw [List.map_cons]
    unfold depthAll
    rw [depth_strs ys]
    unfold depth
    rfl
theorem showable_strs : ∀ ys : List Str, showableAll (ys.map PyData.str) = true
  | [] => rfl
  | y :: ys => by
    rw [List.map_cons]
    unfold showableAll
    rw [showable_strs ys]
    unfold showable
    rfl
theorem plain_strs (n : Nat) (ys : List Str) : (ys.map D.str).all (plainD n) = true := by
  rw [List.all_map, List.all_eq_true]
  intro y _
  cases n <;> rfl
/-- repr([tuple of names, list of names]) -/
theorem oShow_names {o o' : Bool} {st lp : List Str} (hs : Nms st) (hl : Nms lp) (h1 : st.length ≤ 1000) (h2 : lp.length ≤ 1000) : ∃ z : Str, oShow (.lst o [.tup (st.map D.str), .lst o' (lp.map D.str)]) = some (.str z) := by
  have e : toPD (.lst o [.tup (st.map D.str), .lst o' (lp.map D.str)]) = .list [.tuple (st.map .str), .list (lp.map .str)] := by
    unfold toPD toPDL toPDL toPDL toPD
    rw [toPDL_strs, toPDL_strs]
  have cl : canLay0 (.list [.tuple (st.map .str), .list (lp.map .str)]) = true := by
    unfold canLay0 canLayAll0 canLayAll0 canLayAll0 canLay0
    rw [canLay_strs hs, canLay_strs hl]
    rfl
  have wt : weight (.list [.tuple (st.map .str), .list (lp.map .str)]) ≤ 2 ^ 20 := by
    unfold weight weightAll weightAll weightAll weight
    rw [PyProof.Rows.weightAll_strs, PyProof.Rows.weightAll_strs]
    have := hs.sum
    have := hl.sum
    omega
  have dp : depth (.list [.tuple (st.map .str), .list (lp.map .str)]) ≤ 64 := by
    unfold depth depthAll depthAll depthAll depth
    rw [depth_strs, depth_strs]
    decide
  have ly : layable0 (.list [.tuple (st.map .str), .list (lp.map .str)]) = true := by
    unfold layable0
    rw [cl, decide_eq_true dp, decide_eq_true wt]
    rfl
  have is : intsShort 13 (.list [.tuple (st.map .str), .list (lp.map .str)]) = true := by
    unfold intsShort intsShortAll intsShortAll intsShortAll intsShort
    rw [intsShortAll_strs, intsShortAll_strs]
    rfl
  have sw : showable (.list [.tuple (st.map .str), .list (lp.map .str)]) = true := by
    unfold showable showableAll showableAll showableAll showable
    rw [showable_strs, showable_strs]
    rfl
  have fit := shown_fits_of_layable0 (B := 13) (by decide) (by decide) ly is
  refine ⟨_, (if_pos ?_ : (if _ then some (D.str (toPD (.lst o [.tup (st.map D.str), .lst o' (lp.map D.str)])).shown) else none) = _)⟩
  rw [e, sw, decide_eq_true fit, strOk_shown _ cl]
  show ((plainD 39 (.tup (st.map D.str)) && (plainD 39 (.lst o' (lp.map D.str)) && true)) && true && true && true) = true
  show (((st.map D.str).all (plainD 38) && ((lp.map D.str).all (plainD 38) && true)) && true && true && true) = true
  rw [plain_strs, plain_strs]
  rfl
/-! ### a heap -/
def unS : D → Str
  | .str z => z
  | _ => tx []
theorem perm_strs {ys : List D} {zs : List Str} (h : ys.Perm (zs.map D.str)) : ∃ ws : List Str, ys = ws.map D.str ∧ ws.Perm zs := by
  refine ⟨ys.map unS, ?_, ?_⟩
  · rw [List.map_map]
    have : ∀ y ∈ ys, (D.str ∘ unS) y = y := fun y hy => by
      obtain ⟨z, _, rfl⟩ := List.mem_map.mp (h.mem_iff.mp hy)
      rfl
    rw [List.map_congr_left this, List.map_id']
  · have := h.map unS
    rw [List.map_map] at this
    have e : zs.map (unS ∘ D.str) = zs := by
      have : (unS ∘ D.str) = id := rfl
      rw [this, List.map_id]
    rwa [e] at this
def pHeap : Fn := runFn 0
    (sRet (eN (n1 oTuple) [(eInn (eCall pStrewn [(eV 0), (eSh (eCall pNames [(eV 0), (eSh (e2 oAdd (eI 1) (eInn (eCall pTake [(eV 0), (eSh (e2 oAdd (eInn (e2 oSub (eB 2) (eB 1))) (eC (.int 1))))]))))]))]))]))
theorem heap_wp {L n t lo hi : Nat} {R : D → Nat → Prop} (hn : n < L) (h1 : lo ≤ hi) (h2 : hi ≤ 25) (ht : t + 400 < 1099511627776) (h : ∀ ys : List Str, lo ≤ ys.length → ys.length ≤ hi → ys.Nodup → Nms ys → R (.tup (ys.map D.str)) (t + 300)) : Wp L (pHeap [.box n, .int lo, .int hi]) t R := by
  refine .up (runFn_wp (sRet_wp (eN_wp (evs_cons_wp (eInn_wp (eCall_wp (evs_cons_wp (.of (a := .box n) rfl (evs_cons_wp (eSh_wp ?_))))))))))
  refine eCall_wp (evs_cons_wp (.of (a := .box n) rfl (evs_cons_wp (eSh_wp (e2_wp (.of (a := .int lo) rfl (eInn_wp ?_)))))))
  refine take_call (bd := (hi : Int) - lo + 1) rfl rfl hn (by omega) (by omega) (by omega) fun x h0 hx => ?_
  refine ⟨_, rfl, evs_nil_wp ?_⟩
  obtain ⟨k, rfl⟩ := Int.eq_ofNat_of_zero_le h0
  have ek : share (.int ((lo : Int) + (k : Int))) = .int ((lo + k : Nat) : Int) := rfl
  show Wp L (pNames [.box n, .int ((lo + k : Nat) : Int)]) (t + 1) _
  refine names_wp hn (by omega) (by omega) fun ys hl nd ok => evs_nil_wp ?_
  refine strewn_wp (xs := ys.map D.str) hn (by show some (shareL _) = _; rw [shareL_strs]) (by rw [List.length_map]; omega) (stillL_strs _) (by rw [List.length_map]; omega) fun zs hp => ?_
  obtain ⟨ws, rfl, hw⟩ := perm_strs hp
  refine evs_nil_wp ⟨.tup (ws.map D.str), by show some (D.tup (shareL _)) = _; rw [shareL_strs], _, _, rfl, t + 300, by rw [List.length_map]; omega, h ws (by rw [hw.length_eq]; omega) (by rw [hw.length_eq]; omega) (hw.nodup_iff.mpr nd) fun y hy => ok y (hw.mem_iff.mp hy)⟩
end HF

/-! HF: the plain side: what is the same; boxes made; a law over boxes. -/
namespace HF
open PySem (Str PyData sizeLine)
/-! ### the same -/
def pSameB (fn : Fn) : Sv :=
    (sSeq (sIf (e1 (oIsi [.tlist, .ttuple]) (eB 1))
    (sSeq (sIf (eOr (e2 oNe (e1 (oIsi [.tlist]) (eB 0)) (e1 (oIsi [.tlist]) (eB 1))) (e2 oNe (e1 (oIsi [.ttuple]) (eB 0)) (e1 (oIsi [.ttuple]) (eB 1))))
    (sRet (eC (.bl false)))
    sNx)
    (sRet (eAnd (e2 oEq (eN (n1 oLen) [(eB 0)]) (eN (n1 oLen) [(eB 1)])) (eN (n1 oAll) [(eLc [2, 3] (.two 2 3) (itN (l2 itZip) [(eV 0), (eV 1)]) none (eCall fn [(eV 2), (eV 3)]))]))))
    sNx)
    (sSeq (sIf (eOr (e2 oIs (eB 1) (eC .non)) (e1 (oIsi [.tbool, .tstr]) (eB 1)))
    (sRet (eAnd (e2 oEq (eB 0) (eB 1)) (eAnd (e2 oEq (e1 (oIsi [.tbool]) (eB 0)) (e1 (oIsi [.tbool]) (eB 1))) (e2 oEq (e2 oIs (eB 0) (eC .non)) (e2 oIs (eB 1) (eC .non))))))
    sNx)
    (sRet (eAnd (e1 (oIsi [.tint]) (eB 0)) (eAnd (e1 oNot (e1 (oIsi [.tbool]) (eB 0))) (e2 oEq (eB 0) (eB 1)))))))
def pSame : Nat → Fn
  | 0 => fun _ => fail
  | m + 1 => runFn 2 (pSameB (pSame m))
theorem eqv_int (a b : Int) : eqvD (.int a) (.int b) = (a == b) := by
  show PyData.eqv (.int a) (.int b) = _
  unfold PyData.eqv
  rfl
theorem oEq_int (a b : Int) : oEq (.int a) (.int b) = some (.bl (a == b)) := by
  show some (D.bl (eqvD (.int a) (.int b))) = _
  rw [eqv_int]
theorem same_int (m : Nat) (z : Int) : pSame (m + 1) [.int z, .int z] = ret (.bl true) := by
  have e : oEq (.int z) (.int z) = some (.bl true) := by rw [oEq_int, beq_self_eq_true]
  exact q_fn (q_seq (q_iff (q_1 rfl rfl) rfl) (q_seq (q_iff (q_orf (q_2 rfl rfl rfl) (q_1 rfl rfl)) rfl) (q_ret (q_andt (q_1 rfl rfl) (q_andt (q_1 (q_1 rfl rfl) rfl) (q_2 rfl rfl e))))))
theorem blsOf_true : ∀ n : Nat, blsOf (List.replicate n (.bl true)) = some (List.replicate n true)
  | 0 => rfl
  | n + 1 => by
    show (blsOf (List.replicate n (.bl true))).map (true :: ·) = _
    rw [blsOf_true n]
    rfl
theorem oAll_true {o : Bool} {xs : List D} (h : ∀ x ∈ xs, x = .bl true) : oAll (.lst o xs) = some (.bl true) := by
  have e : xs = List.replicate xs.length (.bl true) := List.eq_replicate_of_mem h
  rw [e]
  show (blsOf _).map _ = _
  rw [blsOf_true]
  show some (D.bl _) = _
  congr 2
  rw [List.all_eq_true]
  intro x hx
  exact List.eq_of_mem_replicate hx
theorem same_list {m : Nat} {o o' : Bool} {xs : List D} (h : ∀ x ∈ xs, pSame m [x, x] = ret (.bl true)) (hl : xs.length ≤ 100000) : pSame (m + 1) [.lst o xs, .lst o' xs] = ret (.bl true) := by
  have szl := PySem.sizeLine_eq
  have e : lcGo (.two 2 3) [.sh (.lst o xs), .sh (.lst o' xs), .no, .no] none (eCall (pSame m) [eV 2, eV 3]) ((xs.zip xs).map fun p => D.tup [p.1, p.2]) [] = ret (.lst true (((xs.zip xs).map fun p => D.tup [p.1, p.2]).map fun _ => D.bl true)) := by
    rw [lcGo_pure0 (en := fun d => match d with
      | .tup [a, b] => [.sh (.lst o xs), .sh (.lst o' xs), .sh a, .sh b]
      | _ => []) (f := fun _ => .bl true)]
    · rfl
    · intro d hd
      obtain ⟨p, hp, rfl⟩ := List.mem_map.mp hd
      have e2 : p.1 = p.2 ∧ p.1 ∈ xs := by
        obtain ⟨i, hi, e⟩ := List.getElem_of_mem hp
        rw [List.getElem_zip] at e
        subst e
        exact ⟨rfl, List.getElem_mem _⟩
      refine ⟨rfl, ?_⟩
      show pSame m [p.1, p.2] = _
      rw [← e2.1]
      exact h _ e2.2
    · rw [List.length_nil, List.length_map, List.length_zip]
      omega
  have e1 : oEq (.int xs.length) (.int xs.length) = some (.bl true) := by rw [oEq_int, beq_self_eq_true]
  have e3 := oAll_true (o := true) (xs := ((xs.zip xs).map fun p => D.tup [p.1, p.2]).map fun _ => D.bl true) fun x hx => by
    obtain ⟨_, _, rfl⟩ := List.mem_map.mp hx
    rfl
  exact q_fn (q_rt (q_ift (q_1 rfl rfl) (q_seq (q_iff (q_orf (q_2 rfl rfl rfl) (q_2 rfl rfl rfl)) rfl) (q_ret (q_andt (q_2 rfl rfl e1) (q_N (q_cons (q_lc (q_itN rfl rfl) e) q_nil) e3))))))
/-! ### boxes -/
def boxEnd : Sv := sRet (eBox [(e2 oMul (eInn (eN (n1 oAbs) [(eB 2)])) (eN (n1 oInt) [(e2 oGe (eN (n1 oAbs) [(eB 2)]) (e2 oPow (eC (.int 10)) (eC (.int 18))))])), (e2 oAdd (eInn (e2 oAdd (eInn (e2 oMod (eB 2) (eC (.int 2147483629)))) (eInn (e2 oMul (eC (.int 6151)) (eB 1))))) (eC (.int 29))), (eC (.int 0))])
def pBox : Fn := runFn 1
    (sSeq (sSet 2 (eC (.int 0)))
    (sSeq (sIf (e2 oLt (eB 1) (eN (n1 oLen) [(eB 0)]))
    (sSet 2 (eSh (eIx (eI 0) (eB 1))))
    sNx)
    boxEnd))
theorem Bok.push {L t : Nat} {b : Bx} {a s : Int} (h : Bok L b t) (ha : 0 ≤ a) (hs : 0 ≤ s) (hs2 : s < 4294967296) : Bok (L + 1) (b ++ [[a, s, 0]]) t := by
  refine ⟨by rw [List.length_append, h.1]; rfl, fun n zs e => ?_⟩
  by_cases hn : n < b.length
  · rw [List.getElem?_append_left hn] at e
    exact h.2 n zs e
  · rw [List.getElem?_append_right (by omega)] at e
    cases hk : n - b.length with
    | zero =>
      rw [hk] at e
      cases e
      exact ⟨a, s, 0, rfl, ha, hs, hs2, by decide, by omega⟩
    | succ k =>
      rw [hk] at e
      simp at e
theorem box_end (x y : D) (c : Int) (k : Nat) (hk : k ≤ 3) (b : Bx) : ∃ a s : Int, boxEnd [.sh x, .sh (.int k), .sh (.int c)] b
    = some ((.rt (.box b.length), [.sh x, .sh (.int k), .sh (.int c)]), b ++ [[a, s, 0]]) ∧ 0 ≤ a ∧ 0 ≤ s ∧ s < 4294967296 := by
  have e10 := oPow_ok (a := 10) (b := 18) (by decide) (by decide) (by decide)
  have m1 := oMod_pos (a := c) (b := 2147483629) (by decide)
  have m2 := oMul_l (a := 6151) (b := (k : Int)) (by decide)
  have m3 : ∀ A B : Int, B = 0 ∨ B = 1 → oMul (.int A) (.int B) = some (.int (A * B)) := fun A B h => oMul_r (by omega)
  have hB : ∀ q : Bool, (if q = true then (1 : Int) else 0) = 0 ∨ (if q = true then (1 : Int) else 0) = 1 := fun q => by cases q <;> simp
  refine ⟨(if c < 0 then -c else c) * (if decide ((10 : Int) ^ (18 : Int).toNat ≤ (if c < 0 then -c else c)) = true then 1 else 0), c % 2147483629 + 6151 * k + 29, ?_, ?_, by omega, by omega⟩
  · have mm := m3 (if c < 0 then -c else c) _ (hB (decide ((10 : Int) ^ (18 : Int).toNat ≤ (if c < 0 then -c else c))))
    simp only [boxEnd, sRet, eBox, evs, e2, eN, n1, oAbs, eB, eC, eInn, bnd, ret, lift, List.getElem?_cons_succ, List.getElem?_cons_zero, shareIn, share, e10, oGe, oInt, m1, m2, oAdd, mm, intsOf, Option.map]
  · have h1 : 0 ≤ (if c < 0 then -c else c) := by split <;> omega
    rcases hB (decide ((10 : Int) ^ (18 : Int).toNat ≤ (if c < 0 then -c else c))) with e | e
    · rw [e, Int.mul_zero]; decide
    · rw [e, Int.mul_one]; exact h1
theorem box_run {L t : Nat} {ns : List Int} {k : Nat} (hk : k ≤ 3) {b : Bx} (hb : Bok L b t) : ∃ b', pBox [.scr ns, .int k] b = some (.box L, b') ∧ Bok (L + 1) b' t := by
  have hL : b.length = L := hb.1
  by_cases h : k < ns.length
  · obtain ⟨a, s, e, ha, hs, hs2⟩ := box_end (.scr ns) .non (ns[k]'h) k hk b
    refine ⟨b ++ [[a, s, 0]], ?_, hb.push ha hs hs2⟩
    have hat : oIx (.scr ns) (.int (k : Int)) = some (.int (ns[k]'h)) := by
      show (L2.atI ns (k : Int)).map D.int = _
      have : L2.atI ns (k : Int) = some (ns[k]'h) := by
        show (L2.ixN ns.length (k : Int)).bind _ = _
        have : L2.ixN ns.length (k : Int) = some k := by
          unfold L2.ixN
          rw [if_pos (by omega), if_pos (by omega)]
          rfl
        rw [this]
        show ns[k]? = _
        simp [h]
      rw [this]
      rfl
    have hlt : oLt (.int (k : Int)) (.int (ns.length : Int)) = some (.bl true) := by
      show some (D.bl _) = _
      rw [decide_eq_true (by omega)]
    have e0 : sSeq (sSet 2 (eC (.int 0))) (sSeq (sIf (e2 oLt (eB 1) (eN (n1 oLen) [(eB 0)])) (sSet 2 (eSh (eIx (eI 0) (eB 1)))) sNx) boxEnd) ([D.scr ns, .int k].map Sl.sh ++ List.replicate 1 Sl.no) = boxEnd [.sh (.scr ns), .sh (.int k), .sh (.int (ns[k]'h))] :=
      q_seq (q_set rfl) (q_seq (q_ift (q_2 rfl rfl hlt) (q_set (q_sh (q_ix rfl rfl (fun n e => (by cases e)) hat)))) rfl)
    unfold pBox runFn
    rw [e0]
    unfold bnd
    rw [e, hL]
    rfl
  · obtain ⟨a, s, e, ha, hs, hs2⟩ := box_end (.scr ns) .non 0 k hk b
    refine ⟨b ++ [[a, s, 0]], ?_, hb.push ha hs hs2⟩
    have hlt : oLt (.int (k : Int)) (.int (ns.length : Int)) = some (.bl false) := by
      show some (D.bl _) = _
      rw [decide_eq_false (by omega)]
    have e0 : sSeq (sSet 2 (eC (.int 0))) (sSeq (sIf (e2 oLt (eB 1) (eN (n1 oLen) [(eB 0)])) (sSet 2 (eSh (eIx (eI 0) (eB 1)))) sNx) boxEnd) ([D.scr ns, .int k].map Sl.sh ++ List.replicate 1 Sl.no) = boxEnd [.sh (.scr ns), .sh (.int k), .sh (.int 0)] :=
      q_seq (q_set rfl) (q_seq (q_iff (q_2 rfl rfl hlt) rfl) rfl)
    unfold pBox runFn
    rw [e0]
    unfold bnd
    rw [e, hL]
    rfl
end HF

/-! HF: the plain side: a law that asks each of its boxes so many times. -/
namespace HF
open PySem (Str PyData sizeLine)
theorem boxes_run (ns : List Int) : ∀ (ks : List Nat) (acc : List D) (L : Nat) (b : Bx), (∀ k ∈ ks, k ≤ 3) → acc.length + ks.length ≤ 10 → Bok L b 0 → ∃ b', lcGo (.one 2) [.sh (.scr ns), .no, .no, .no] none (eCall pBox [eV 0, eV 2]) (ks.map fun (i : Nat) => D.int (i : Int)) acc b = some (.lst true (acc ++ (List.range' L ks.length).map D.box), b') ∧ Bok (L + ks.length) b' 0
  | [], acc, L, b, _, _, hb => ⟨b, by rw [List.map_nil]; unfold lcGo; simp [ret], hb⟩
  | k :: ks, acc, L, b, hk, hl, hb => by
    rw [List.length_cons] at hl
    obtain ⟨b1, e1, hb1⟩ := box_run (ns := ns) (hk k List.mem_cons_self) hb
    obtain ⟨b2, e2, hb2⟩ := boxes_run ns ks (acc ++ [.box L]) (L + 1) b1 (fun j hj => hk j (List.mem_cons_of_mem _ hj)) (by rw [List.length_append, List.length_singleton]; omega) hb1
    refine ⟨b2, ?_, by rw [List.length_cons, show L + (ks.length + 1) = L + 1 + ks.length from by omega]; exact hb2⟩
    have few : acc.length < sizeLine := by rw [PySem.sizeLine_eq]; omega
    have e3 : eCall pBox [eV 0, eV 2] [.sh (.scr ns), .no, .sh (.int (k : Int)), .no] b = some (.box L, b1) := e1
    rw [List.map_cons]
    unfold lcGo
    show (if acc.length < sizeLine then bnd (eCall pBox [eV 0, eV 2] [.sh (.scr ns), .no, .sh (.int (k : Int)), .no]) _ else fail) b = _
    rw [if_pos few]
    unfold bnd
    rw [e3]
    dsimp only
    rw [e2, List.length_cons, List.range'_succ, List.map_cons, List.append_assoc]
    rfl
def pLaw (right : Fn) (k : Nat) : Fn := runFn 3
    (sSeq (sSetO 1 (eLc [2] (.one 2) (itN (l1 itRange) [(e2 oAdd (eC (.int 1)) (eInn (eN (n2 oMin2) [(eC (.int 3)), (eN (n1 oLen) [(eB 0)])])))]) none (eCall pBox [(eV 0), (eV 2)])))
    (sPre [1] (sRet (eN (n1 oAll) [(eLc [3] (.one 3) (itD itSeq (eSh (e2 oMul (eI 1) (eC (.int k))))) none (eCall right [(eV 3)]))]))))
theorem shareL_boxes (l : List Nat) : shareL (l.map D.box) = l.map D.box := by rw [shareL_eq, List.map_map]; rfl
theorem law_plain {right : Fn} {k c : Nat} (hk : k ≤ 1000) (hc : c ≤ 1000000) (hr : ∀ (L n t : Nat), n < L → t + c ≤ 10000000000 → Wp L (right [.box n]) t fun d u => d = .bl true ∧ u = t + c) (ns : List Int) (hn : ns.length ≤ 63) : ∃ b', pLaw right k [.scr ns] [] = some (.bl true, b') := by
  have szl := PySem.sizeLine_eq
  have b0 : Bok 0 [] 0 := ⟨rfl, fun n zs e => by simp at e⟩
  obtain ⟨m, em, hm1, hm⟩ : ∃ m : Nat, itN (l1 itRange) [(e2 oAdd (eC (.int 1)) (eInn (eN (n2 oMin2) [(eC (.int 3)), (eN (n1 oLen) [(eB 0)])])))] [.sh (.scr ns), .no, .no, .no] = ret ((List.range m).map fun (i : Nat) => D.int (i : Int)) ∧ 1 ≤ m ∧ m ≤ 4 := by
    refine ⟨1 + min 3 ns.length, ?_, by omega, by omega⟩
    have e1 : oMin2 (.int 3) (.int (ns.length : Int)) = some (.int ((min 3 ns.length : Nat) : Int)) := by
      show some (D.int _) = _
      congr 2
      split <;> omega
    refine q_itN (q_cons (q_2 rfl (q_inn' (q_N (q_cons rfl (q_cons rfl q_nil)) e1) rfl) rfl) q_nil) ?_
    show (if _ then some _ else none) = _
    rw [if_pos (by omega)]
    have : ((1 : Int) + ((min 3 ns.length : Nat) : Int)).toNat = 1 + min 3 ns.length := by omega
    rw [this]
  obtain ⟨b1, e1, hb1⟩ := boxes_run ns (List.range m) [] 0 [] (fun j hj => by have := List.mem_range.mp hj; omega) (by rw [List.length_range]; show 0 + m ≤ 10; omega) b0
  rw [List.length_range, Nat.zero_add] at hb1
  rw [List.length_range, List.nil_append] at e1
  have ex : ∀ x ∈ (List.replicate k ((List.range' 0 m).map D.box)).flatten, ∃ n, n < m ∧ x = .box n := by
    intro x hx
    obtain ⟨l, hl, hx⟩ := List.mem_flatten.mp hx
    rw [List.eq_of_mem_replicate hl] at hx
    obtain ⟨n, hn, rfl⟩ := List.mem_map.mp hx
    rw [List.mem_range'_1] at hn
    exact ⟨n, by omega, rfl⟩
  have lx : (List.replicate k ((List.range' 0 m).map D.box)).flatten.length = k * m := by
    rw [List.length_flatten, List.map_replicate, List.sum_replicate_nat, List.length_map, List.length_range']
  have hw : Wp m (sPre [1] (sRet (eN (n1 oAll) [(eLc [3] (.one 3) (itD itSeq (eSh (e2 oMul (eI 1) (eC (.int k))))) none (eCall right [(eV 3)]))])) [.sh (.scr ns), .ow (.lst true ((List.range' 0 m).map D.box)), .no, .no]) 0 fun p u => ∃ d r, p = (.rt d, r) ∧ d = .bl true := by
    have eg : gives [.sh (.scr ns), .ow (.lst true ((List.range' 0 m).map D.box)), .no, .no] [1] = [.sh (.scr ns), .sh (.lst false ((List.range' 0 m).map D.box)), .no, .no] := by
      show [Sl.sh (.scr ns), .sh (.lst false (shareL ((List.range' 0 m).map D.box))), .no, .no] = _
      rw [shareL_boxes]
    show Wp m (sRet _ (gives _ [1])) 0 _
    rw [eg]
    have eo : oMul (.lst false ((List.range' 0 m).map D.box)) (.int (k : Int)) = some (.lst true (List.replicate k ((List.range' 0 m).map D.box)).flatten) := by
      show (if _ then some (D.lst true (List.replicate (k : Int).toNat _).flatten) else none) = _
      rw [if_pos, Int.toNat_natCast]
      refine ⟨by omega, ?_⟩
      rw [Int.toNat_natCast, List.length_map, List.length_range', szl]
      have : m * k ≤ 4 * 1000 := Nat.mul_le_mul hm hk
      omega
    have es : shareL (List.replicate k ((List.range' 0 m).map D.box)).flatten = (List.replicate k ((List.range' 0 m).map D.box)).flatten := by
      rw [shareL_eq]
      have : ∀ x ∈ (List.replicate k ((List.range' 0 m).map D.box)).flatten, share x = x := fun x hx => by
        obtain ⟨n, _, rfl⟩ := ex x hx
        rfl
      rw [List.map_congr_left this, List.map_id']
    refine sRet_wp (eN_wp (evs_cons_wp (eLc_wp (.of (a := (List.replicate k ((List.range' 0 m).map D.box)).flatten) (q_itD (q_sh' (q_2 rfl rfl eo) (z := .lst false _) (by show D.lst false _ = _; rw [es])) rfl) ?_))))
    have hkm : k * m ≤ 4000 := by
      have : k * m ≤ 1000 * 4 := Nat.mul_le_mul hk hm
      omega
    refine (lcGo_wp (fun rest acc u => (∀ x ∈ acc, x = .bl true) ∧ (∀ x ∈ rest, ∃ n, n < m ∧ x = .box n) ∧ acc.length + rest.length = k * m ∧ u = c * acc.length) ?_ _ _ 0 ⟨(fun x hx => by cases hx), ex, by rw [lx, List.length_nil, Nat.zero_add], rfl⟩).mono ?_
    · rintro x rest acc u ⟨ha, hx, hl, rfl⟩
      obtain ⟨n, hn, rfl⟩ := hx x List.mem_cons_self
      rw [List.length_cons] at hl
      have hb : c * acc.length ≤ 1000000 * 4000 := Nat.mul_le_mul hc (by omega)
      refine ⟨by omega, _, rfl, eCall_wp (evs_cons_wp (.of (a := .box n) rfl (evs_nil_wp ((hr m n _ hn (by omega)).mono ?_))))⟩
      rintro d u ⟨rfl, rfl⟩
      refine ⟨fun y hy => ?_, fun y hy => hx y (List.mem_cons_of_mem _ hy), by rw [List.length_append, List.length_singleton]; omega, by rw [List.length_append, List.length_singleton, Nat.mul_add, Nat.mul_one]⟩
      rcases List.mem_append.mp hy with hy | hy
      · exact ha y hy
      · exact List.mem_singleton.mp hy
    · rintro d u ⟨ys, rfl, ha, _, _, _⟩
      exact evs_nil_wp ⟨.bl true, oAll_true (o := true) ha, _, _, rfl, rfl⟩
  obtain ⟨p, b2, u, ew, _, d, r, rfl, rfl⟩ := hw b1 hb1
  refine ⟨b2, ?_⟩
  have es : sSetO 1 (eLc [2] (.one 2) (itN (l1 itRange) [(e2 oAdd (eC (.int 1)) (eInn (eN (n2 oMin2) [(eC (.int 3)), (eN (n1 oLen) [(eB 0)])])))]) none (eCall pBox [(eV 0), (eV 2)])) [.sh (.scr ns), .no, .no, .no] [] = some ((.nx, [.sh (.scr ns), .ow (.lst true ((List.range' 0 m).map D.box)), .no, .no]), b1) := by
    unfold sSetO eLc
    rw [em, bnd_ret]
    unfold bnd
    have e1' : lcGo (.one 2) (wipeE [.sh (.scr ns), .no, .no, .no] [2]) none (eCall pBox [eV 0, eV 2]) ((List.range m).map fun (i : Nat) => D.int (i : Int)) [] [] = some (.lst true ((List.range' 0 m).map D.box), b1) := e1
    rw [e1']
    rfl
  show bnd (sSeq _ _ [.sh (.scr ns), .no, .no, .no]) _ [] = _
  unfold sSeq bnd
  rw [es]
  dsimp only
  rw [ew]
  rfl
end HF

/-! HF: the plain side: lists and tuples of texts, places by a dict. -/
namespace HF
open PySem (Str PyData sizeLine)
/-- where a text stands -/
def pos (st : List Str) (y : Str) : Nat := (firstIxS y st).getD 0
theorem first_get : ∀ {st : List Str} {y : Str} {n : Nat}, firstIxS y st = some n → st[n]? = some y
  | [], y, n, e => by cases e
  | x :: st, y, n, e => by
    unfold firstIxS at e
    by_cases h : x = y
    · rw [if_pos h] at e
      cases e
      rw [h]; rfl
    · rw [if_neg h] at e
      cases e2 : firstIxS y st with
      | none => rw [e2] at e; cases e
      | some m =>
        rw [e2] at e
        cases e
        have q := first_get e2
        simpa using q
theorem first_of : ∀ {st : List Str} {y : Str}, y ∈ st → firstIxS y st = some (pos st y)
  | [], y, h => by cases h
  | x :: st, y, h => by
    unfold pos firstIxS
    by_cases hx : x = y
    · rw [if_pos hx]; rfl
    · rw [if_neg hx]
      rcases List.mem_cons.mp h with e | h
      · exact absurd e.symm hx
      · rw [first_of h]; rfl
theorem pos_self (x : Str) (st : List Str) : pos (x :: st) x = 0 := by unfold pos firstIxS; rw [if_pos rfl]; rfl
theorem pos_next {x y : Str} {st : List Str} (h : x ≠ y) (hy : y ∈ st) : pos (x :: st) y = pos st y + 1 := by
  have e : firstIxS y (x :: st) = (firstIxS y st).map (· + 1) := if_neg h
  show (firstIxS y (x :: st)).getD 0 = (firstIxS y st).getD 0 + 1
  rw [e, first_of hy]
  rfl
theorem pos_inj {st : List Str} : ∀ a ∈ st, ∀ b ∈ st, pos st a = pos st b → a = b := fun a ha b hb e => by
  have h1 := first_get (first_of ha)
  have h2 := first_get (first_of hb)
  rw [e, h2] at h1
  exact (Option.some.inj h1).symm
theorem oIndex_tup {st : List Str} {y : Str} (h : y ∈ st) : oIndex (.tup (st.map D.str)) (.str y) = some (.int (pos st y)) := by
  unfold oIndex
  simp [strsOf_map, first_of h]
/-! ### a list or a tuple of texts -/
def Sq (d : D) (ys : List Str) : Prop := d = .tup (ys.map D.str) ∨ ∃ o, d = .lst o (ys.map D.str)
section
variable {d : D} {ys : List Str}
theorem Sq.inn (h : Sq d ys) : Sq (shareIn d) ys := by
  rcases h with rfl | ⟨o, rfl⟩
  · exact .inl (by show D.tup (shareL _) = _; rw [shareL_strs])
  · exact .inr ⟨o, by show D.lst o (shareL _) = _; rw [shareL_strs]⟩
theorem Sq.sh (h : Sq d ys) : Sq (share d) ys := by
  rcases h with rfl | ⟨o, rfl⟩
  · exact .inl (by show D.tup (shareL _) = _; rw [shareL_strs])
  · exact .inr ⟨false, by show D.lst false (shareL _) = _; rw [shareL_strs]⟩
theorem Sq.list (h : Sq d ys) : oList d = some (.lst true (ys.map D.str)) := by rcases h with rfl | ⟨o, rfl⟩ <;> rfl
theorem Sq.tuple (h : Sq d ys) : oTuple d = some (.tup (ys.map D.str)) := by rcases h with rfl | ⟨o, rfl⟩ <;> rfl
theorem Sq.items (h : Sq d ys) : itemsD d = some (ys.map D.str) := by rcases h with rfl | ⟨o, rfl⟩ <;> rfl
theorem Sq.seq (h : Sq d ys) : itSeq d = some (ys.map D.str) := by rcases h with rfl | ⟨o, rfl⟩ <;> rfl
theorem Sq.len (h : Sq d ys) : oLen d = some (.int ys.length) := by
  rcases h with rfl | ⟨o, rfl⟩
  · show some (D.int ((ys.map D.str).length : Int)) = _; rw [List.length_map]
  · show some (D.int ((ys.map D.str).length : Int)) = _; rw [List.length_map]
theorem cutL_to {α : Type} (xs : List α) (k : Nat) : cutL xs none (some (k : Int)) = xs.take k := by
  unfold cutL
  rw [HT.sIx_none, HT.sIx_nat, List.drop_zero, Nat.sub_zero, Nat.min_def]
  split
  · rfl
  · rw [List.take_length, List.take_of_length_le (by omega)]
theorem cutL_from {α : Type} (xs : List α) (k : Nat) : cutL xs (some (k : Int)) none = xs.drop k := by
  unfold cutL
  rw [HT.sIx_none, HT.sIx_nat, Nat.min_def]
  split
  · rw [List.take_of_length_le (by rw [List.length_drop]; omega)]
  · rw [List.drop_length, List.drop_of_length_le (by omega)]; simp
theorem Sq.to (h : Sq d ys) (k : Nat) : ∃ e, oSl none (some (k : Int)) d = some e ∧ Sq e (ys.take k) := by
  rcases h with rfl | ⟨o, rfl⟩
  · exact ⟨_, rfl, .inl (by rw [cutL_to, List.map_take])⟩
  · exact ⟨_, rfl, .inr ⟨true, by rw [cutL_to, List.map_take]⟩⟩
theorem Sq.frm (h : Sq d ys) (k : Nat) : ∃ e, oSl (some (k : Int)) none d = some e ∧ Sq e (ys.drop k) := by
  rcases h with rfl | ⟨o, rfl⟩
  · exact ⟨_, rfl, .inl (by rw [cutL_from, List.map_drop])⟩
  · exact ⟨_, rfl, .inr ⟨true, by rw [cutL_from, List.map_drop]⟩⟩
theorem Sq.rev (h : Sq d ys) : ∃ e, oRev d = some e ∧ Sq e ys.reverse := by
  rcases h with rfl | ⟨o, rfl⟩
  · exact ⟨_, rfl, .inl (by rw [List.map_reverse])⟩
  · exact ⟨_, rfl, .inr ⟨true, by rw [List.map_reverse]⟩⟩
/-- two slices of a list put together -/
theorem add_lsts {zs : List Str} {o o' : Bool} (h : ys.length + zs.length ≤ sizeLine) : oAdd (.lst o (ys.map D.str)) (.lst o' (zs.map D.str)) = some (.lst true ((ys ++ zs).map D.str)) := by
  rw [oAdd_lst (by rw [List.length_map, List.length_map]; exact h), List.map_append]
end
/-- the steps, as pairs -/
abbrev pr2 (p : Str × Str) : D := .tup [.str p.1, .str p.2]
theorem zip_strs (a b : List Str) : ((a.map D.str).zip (b.map D.str)).map (fun p => D.tup [p.1, p.2]) = (a.zip b).map pr2 := by
  rw [List.zip_map, List.map_map]
  rfl
theorem itZip_strs {d e : D} {a b : List Str} (h : Sq d a) (h2 : Sq e b) : itZip d e = some ((a.zip b).map pr2) := by
  unfold itZip
  rw [h.items, h2.items]
  show some _ = _
  rw [zip_strs]
theorem oZipS_strs {d e : D} {a b : List Str} (h : Sq d a) (h2 : Sq e b) (hl : a.length = b.length) : oZipS d e = some (.lst true ((a.zip b).map pr2)) := by
  unfold oZipS
  rw [h.items, h2.items]
  show (if _ then _ else _) = _
  rw [if_pos (by rw [List.length_map, List.length_map]; exact hl), zip_strs]
/-! ### a dict made key by key -/
theorem look_map (k : DK) (d : D) : ∀ kvs : List (DK × D), (kvs.any fun p => decide (p.1 = k)) = true → look k (kvs.map fun p => if p.1 = k then (p.1, d) else p) = some d
  | [], h => by cases h
  | (j, v) :: r, h => by
    rw [List.map_cons]
    by_cases e : j = k
    · rw [if_pos (show (j, v).1 = k from e)]
      unfold look
      rw [if_pos e]
    · rw [if_neg (show ¬ (j, v).1 = k from e)]
      unfold look
      rw [if_neg e]
      refine look_map k d r ?_
      rw [List.any_cons, decide_eq_false e, Bool.false_or] at h
      exact h
theorem look_map_ne {j k : DK} (hjk : j ≠ k) (d : D) : ∀ kvs : List (DK × D), look j (kvs.map fun p => if p.1 = k then (p.1, d) else p) = look j kvs
  | [] => rfl
  | (i, v) :: r => by
    rw [List.map_cons]
    by_cases e : i = k
    · rw [if_pos (show (i, v).1 = k from e)]
      unfold look
      rw [if_neg (show ¬ i = j from fun q => hjk (q.symm.trans e)), look_map_ne hjk d r, if_neg (show ¬ i = j from fun q => hjk (q.symm.trans e))]
    · rw [if_neg (show ¬ (i, v).1 = k from e)]
      unfold look
      rw [look_map_ne hjk d r]
theorem look_app (j k : DK) (d : D) : ∀ kvs : List (DK × D), look j (kvs ++ [(k, d)]) = match look j kvs with
    | some v => some v
    | none => if k = j then some d else none
  | [] => rfl
  | (i, v) :: r => by
    rw [List.cons_append]
    unfold look
    by_cases e : i = j
    · rw [if_pos e, if_pos e]
    · rw [if_neg e, if_neg e]
      exact look_app j k d r
theorem look_none (k : DK) : ∀ kvs : List (DK × D), ¬ (kvs.any fun p => decide (p.1 = k)) = true → look k kvs = none
  | [], _ => rfl
  | (j, v) :: r, h => by
    rw [List.any_cons, Bool.or_eq_true] at h
    unfold look
    rw [if_neg fun e => h (.inl (decide_eq_true e))]
    exact look_none k r fun q => h (.inr q)
theorem look_put (kvs : List (DK × D)) (k : DK) (d : D) : look k (putD kvs k d) = some d := by
  unfold putD
  split
  · rename_i h; exact look_map k d kvs h
  · rename_i h
    rw [look_app, look_none k kvs h]
    show (if k = k then some d else none) = _
    rw [if_pos rfl]
theorem look_put_ne {j k : DK} (h : j ≠ k) (kvs : List (DK × D)) (d : D) : look j (putD kvs k d) = look j kvs := by
  unfold putD
  split
  · exact look_map_ne h d kvs
  · rw [look_app]
    cases look j kvs with
    | some v => rfl
    | none => exact if_neg fun e => h e.symm
theorem look_share (k : DK) : ∀ kvs : List (DK × D), look k (shareK kvs) = (look k kvs).map share
  | [] => by unfold shareK; rfl
  | (j, v) :: r => by
    unfold shareK look
    by_cases e : j = k
    · rw [if_pos e, if_pos e]; rfl
    · rw [if_neg e, if_neg e]; exact look_share k r
def putAll : List Str → Nat → List (DK × D) → List (DK × D)
  | [], _, acc => acc
  | y :: ys, k, acc => putAll ys (k + 1) (putD acc (.s y) (.int k))
theorem putAll_old : ∀ (ys : List Str) (k : Nat) (acc : List (DK × D)) (z : Str), z ∉ ys → look (.s z) (putAll ys k acc) = look (.s z) acc
  | [], _, _, _, _ => rfl
  | y :: ys, k, acc, z, h => by
    unfold putAll
    rw [putAll_old ys (k + 1) _ z fun q => h (List.mem_cons_of_mem _ q)]
    exact look_put_ne (fun e => h (by cases e; exact List.mem_cons_self)) _ _
theorem putAll_look : ∀ (ys : List Str) (k : Nat) (acc : List (DK × D)), ys.Nodup → ∀ z ∈ ys, look (.s z) (putAll ys k acc) = some (.int ((k + pos ys z : Nat) : Int))
  | [], _, _, _, z, h => by cases h
  | y :: ys, k, acc, hn, z, h => by
    have hn' := List.nodup_cons.mp hn
    unfold putAll
    by_cases e : y = z
    · subst e
      rw [putAll_old ys _ _ _ hn'.1, look_put, pos_self]
      rfl
    · have hz : z ∈ ys := by
        rcases List.mem_cons.mp h with q | q
        · exact absurd q.symm e
        · exact q
      rw [putAll_look ys (k + 1) _ hn'.2 z hz, pos_next e hz]
      congr 3
      omega
theorem putD_len (kvs : List (DK × D)) (k : DK) (d : D) : (putD kvs k d).length ≤ kvs.length + 1 := by
  unfold putD
  split
  · rw [List.length_map]; omega
  · rw [List.length_append]; exact Nat.le_refl _
/-- {y: place for place, y in enumerate(ys)} -/
theorem dc_places (a : Sl) : ∀ (ys : List Str) (k : Nat) (acc : List (DK × D)), acc.length + ys.length ≤ 100000 → dcGo (.two 1 2) [a, .no, .no] none (eV 2) (eV 1) (((ys.map D.str).zipIdx k).map fun p => D.tup [.int p.2, p.1]) acc = ret (.dct true (putAll ys k acc))
  | [], k, acc, _ => rfl
  | y :: ys, k, acc, h => by
    rw [List.length_cons] at h
    have szl := PySem.sizeLine_eq
    have := putD_len acc (.s y) (.int k)
    rw [List.map_cons, List.zipIdx_cons, List.map_cons]
    unfold dcGo
    show (if acc.length < sizeLine then _ else _) = _
    rw [if_pos (by omega)]
    show dcGo (.two 1 2) [a, .no, .no] none (eV 2) (eV 1) (((ys.map D.str).zipIdx (k + 1)).map fun p => D.tup [.int p.2, p.1]) (putD acc (.s y) (.int k)) = _
    rw [dc_places a ys (k + 1) _ (by omega)]
    rfl
end HF

/-! HF: the plain side: what is reckoned, by simp. -/
namespace HF
open PySem (Str PyData sizeLine)
section
variable {α β : Type} {r : Env} {f g h c : Ev}
@[simp] theorem z_bnd {a : α} {k : α → M β} : bnd (ret a) k = k a := rfl
@[simp] theorem z_fail {k : α → M β} : bnd fail k = fail := rfl
@[simp] theorem z_some {a : α} : lift (some a) = ret a := rfl
@[simp] theorem z_none : lift (none : Option α) = fail := rfl
@[simp] theorem z_V (i : Nat) : eV i r = match r[i]? with | some (.sh d) => ret d | _ => fail := rfl
@[simp] theorem z_B (i : Nat) : eB i r = match r[i]? with | some (.sh d) => ret d | some (.ow d) => ret d | _ => fail := rfl
@[simp] theorem z_I (i : Nat) : eI i r = match r[i]? with | some (.sh d) => ret d | some (.ow d) => if stillIn d then ret d else fail | _ => fail := rfl
@[simp] theorem z_C (d : D) : eC d r = ret d := rfl
@[simp] theorem z_Inn : eInn f r = bnd (f r) fun d => ret (shareIn d) := rfl
@[simp] theorem z_Sh : eSh f r = bnd (f r) fun d => ret (share d) := rfl
@[simp] theorem z_1 (op : D → Option D) : e1 op f r = bnd (f r) fun x => lift (op x) := rfl
@[simp] theorem z_2 (op : D → D → Option D) : e2 op f g r = bnd (f r) fun x => bnd (g r) fun y => lift (op x y) := rfl
@[simp] theorem z_nil : evs [] r = ret [] := rfl
@[simp] theorem z_cons (fs : List Ev) : evs (f :: fs) r = bnd (f r) fun x => bnd (evs fs r) fun xs => ret (x :: xs) := rfl
@[simp] theorem z_N (op : List D → Option D) (fs : List Ev) : eN op fs r = bnd (evs fs r) fun xs => lift (op xs) := rfl
@[simp] theorem z_And : eAnd f g r = bnd (f r) fun x => match x with | .bl true => g r | .bl false => ret (.bl false) | _ => fail := rfl
@[simp] theorem z_Or : eOr f g r = bnd (f r) fun x => match x with | .bl true => ret (.bl true) | .bl false => g r | _ => fail := rfl
@[simp] theorem z_Ite : eIte c f g r = bnd (c r) fun x => match x with | .bl true => f r | .bl false => g r | _ => fail := rfl
@[simp] theorem z_Chain (op op' : D → D → Option D) : eChain op op' f g h r = bnd (f r) fun x => bnd (g r) fun y => bnd (lift (op x y)) fun z => match z with | .bl true => bnd (h r) fun w => lift (op' y w) | .bl false => ret (.bl false) | _ => fail := rfl
@[simp] theorem z_Call (fn : Fn) (fs : List Ev) : eCall fn fs r = bnd (evs fs r) fun xs => fn xs := rfl
@[simp] theorem z_CallS (fn : Fn) (fs : List Ev) : eCallS fn fs r = bnd (evs fs r) fun xs => bnd (fn (shareL xs)) fun d => if isScal d then ret d else fail := rfl
@[simp] theorem z_CallK (idx : List Nat) (fn : Fn) (fs ks : List Ev) (dds : List D) : eCallK idx fn fs ks dds r = bnd (evs fs r) fun xs => bnd (evs ks r) fun ys => fn (pick idx (xs ++ ys ++ dds)) := rfl
@[simp] theorem z_Tup (fs : List Ev) : eTup fs r = bnd (evs fs r) fun xs => ret (.tup xs) := rfl
@[simp] theorem z_Lst (fs : List Ev) : eLst fs r = bnd (evs fs r) fun xs => ret (.lst true xs) := rfl
@[simp] theorem z_pick0 {xs : List D} : pick [] xs = [] := rfl
@[simp] theorem z_pick {xs : List D} (i : Nat) (is : List Nat) : pick (i :: is) xs = match xs[i]? with | some x => x :: pick is xs | none => pick is xs := by
  unfold pick
  cases e : xs[i]? with
  | none => rw [List.filterMap_cons_none e]
  | some x => rw [List.filterMap_cons_some e]
@[simp] theorem z_itD (op : D → Option (List D)) : itD op f r = bnd (f r) fun x => lift (op x) := rfl
@[simp] theorem z_itN (op : List D → Option (List D)) (fs : List Ev) : itN op fs r = bnd (evs fs r) fun xs => lift (op xs) := rfl
@[simp] theorem z_n1 (op : D → Option D) (x : D) : n1 op [x] = op x := rfl
@[simp] theorem z_n2 (op : D → D → Option D) (x y : D) : n2 op [x, y] = op x y := rfl
@[simp] theorem z_l1 (op : D → Option (List D)) (x : D) : l1 op [x] = op x := rfl
@[simp] theorem z_l2 (op : D → D → Option (List D)) (x y : D) : l2 op [x, y] = op x y := rfl
@[simp] theorem z_Lc (own : List Nat) (tg : Tg) (it : Ws) (co : Option Ev) (elt : Ev) : eLc own tg it co elt r = bnd (it r) fun xs => lcGo tg (wipeE r own) co elt xs [] := rfl
@[simp] theorem z_wipe0 : wipeE r [] = r := rfl
@[simp] theorem z_wipe (v : Nat) (vs : List Nat) : wipeE r (v :: vs) = (wipeE r vs).set v .no := rfl
@[simp] theorem z_b1 (i : Nat) (d : D) : bindT (.one i) d r = some (r.set i (.sh d)) := rfl
@[simp] theorem z_b2 (i j : Nat) (x y : D) : bindT (.two i j) (.tup [x, y]) r = some ((r.set i (.sh x)).set j (.sh y)) := rfl
@[simp] theorem z_b3 (i j k : Nat) (x y z : D) : bindT (.three i j k) (.tup [x, y, z]) r = some (((r.set i (.sh x)).set j (.sh y)).set k (.sh z)) := rfl
@[simp] theorem z_part0 : evPart none r = ret none := rfl
@[simp] theorem z_part : evPart (some f) r = bnd (f r) fun d => match d with | .int i => ret (some i) | _ => fail := by
  unfold evPart
  congr 1
@[simp] theorem z_Sl (lo hi : Option Ev) : eSl f lo hi r = bnd (f r) fun c => bnd (evPart lo r) fun i => bnd (evPart hi r) fun j => lift (oSl i j c) := rfl
@[simp] theorem z_Ix_lst (o : Bool) (xs : List D) (y : D) : (match (D.lst o xs), y with | .box n, .int k => (fun b : Bx => match b[n]? with | some zs => (match L2.atI zs k with | some z => some (D.int z, b) | none => none) | none => none) | x, y => lift (oIx x y)) = lift (oIx (.lst o xs) y) := by cases y <;> rfl
/-! statements -/
variable {S T : Sv}
@[simp] theorem z_seq : sSeq S T r = bnd (S r) fun p => match p with | (.nx, r') => T r' | q => ret q := rfl
@[simp] theorem z_nx : sNx r = ret (.nx, r) := rfl
@[simp] theorem z_sFail : sFail r = fail := rfl
@[simp] theorem z_set (i : Nat) : sSet i f r = bnd (f r) fun d => ret (.nx, r.set i (.sh d)) := rfl
@[simp] theorem z_setO (i : Nat) : sSetO i f r = bnd (f r) fun d => ret (.nx, r.set i (.ow d)) := rfl
@[simp] theorem z_ret : sRet f r = bnd (f r) fun d => ret (.rt d, r) := rfl
@[simp] theorem z_retV (i : Nat) : sRetV i r = match r[i]? with | some (.sh d) => ret (.rt d, r) | some (.ow d) => ret (.rt d, r) | _ => fail := rfl
@[simp] theorem z_retN : sRetN r = ret (.rt .non, r) := rfl
@[simp] theorem z_if : sIf c S T r = bnd (c r) fun x => match x with | .bl true => S r | .bl false => T r | _ => fail := rfl
@[simp] theorem z_pre (is : List Nat) : sPre is S r = S (gives r is) := rfl
@[simp] theorem z_gives0 : gives r [] = r := rfl
@[simp] theorem z_gives (i : Nat) (is : List Nat) : gives r (i :: is) = gives (give r i) is := rfl
@[simp] theorem z_give (i : Nat) : give r i = match r[i]? with | some (.ow d) => r.set i (.sh (share d)) | _ => r := rfl
@[simp] theorem z_mut (i : Nat) (op : D → List D → Option D) (fs : List Ev) : sMut i op fs r = bnd (evs fs r) fun xs => match r[i]? with | some (.ow d) => bnd (lift (op d xs)) fun d' => ret (.nx, r.set i (.ow d')) | _ => fail := rfl
@[simp] theorem z_mutAt (i j : Nat) (op : D → List D → Option D) (fs : List Ev) : sMutAt i j op fs r = bnd (evs fs r) fun xs => match r[i]? with | some (.ow (.lst true ds)) => (match ds[j]? with | some d => bnd (lift (op d xs)) fun d' => ret (.nx, r.set i (.ow (.lst true (ds.set j d')))) | none => fail) | _ => fail := rfl
@[simp] theorem z_par (i : Nat) (oi : Bool) (j : Nat) (oj : Bool) : sPar i oi j oj f g r = bnd (evs [f, g] r) fun ds => match ds with | [d, e] => (match putS oi i d r with | some r1 => (match putS oj j e r1 with | some r2 => ret (.nx, r2) | none => fail) | none => fail) | _ => fail := rfl
@[simp] theorem z_unp (i : Nat) (oi : Bool) (j : Nat) (oj : Bool) : sUnp i oi j oj f r = bnd (f r) fun d => match d with | .tup [d, e] => (match putS oi i d r with | some r1 => (match putS oj j e r1 with | some r2 => ret (.nx, r2) | none => fail) | none => fail) | _ => fail := rfl
@[simp] theorem z_parN (ts : List (Nat × Bool)) (fs : List Ev) : sParN ts fs r = bnd (evs fs r) fun ds => match putSs ts ds r with | some r' => ret (.nx, r') | none => fail := rfl
@[simp] theorem z_unpN (ts : List (Nat × Bool)) : sUnpN ts f r = bnd (f r) fun d => match d with | .tup ds => (match putSs ts ds r with | some r' => ret (.nx, r') | none => fail) | _ => fail := rfl
@[simp] theorem z_putSs0 : putSs [] [] r = some r := rfl
@[simp] theorem z_putSs (i : Nat) (o : Bool) (ts : List (Nat × Bool)) (d : D) (ds : List D) : putSs ((i, o) :: ts) (d :: ds) r = (putS o i d r).bind (putSs ts ds) := rfl
@[simp] theorem z_putO (i : Nat) (d : D) : putS true i d r = some (r.set i (.ow d)) := rfl
@[simp] theorem z_putS (i : Nat) (d : D) : putS false i d r = if still d then some (r.set i (.sh d)) else none := rfl
@[simp] theorem z_for (tg : Tg) (it : Ws) : sFor tg it S r = bnd (it r) fun xs => forGo tg S xs r := rfl
theorem z_fn {n : Nat} {args : List D} : runFn n S args = bnd (S (args.map Sl.sh ++ List.replicate n Sl.no)) fun p => match p.1 with | .nx => ret .non | .rt d => ret d | _ => fail := rfl
@[simp] theorem z_rep0 : List.replicate 0 Sl.no = [] := rfl
end
end HF

/-! HF: the plain side: operators by simp; alike; lists for tuples. -/
namespace HF
open PySem (Str PyData sizeLine)
open L2 (Key)
section
variable {α β : Type}
@[simp] theorem w_lst {o : Bool} {xs : List D} : share (.lst o xs) = .lst false (shareL xs) := by rw [share]
@[simp] theorem w_tup {xs : List D} : share (.tup xs) = .tup (shareL xs) := by rw [share]
@[simp] theorem w_dct {o : Bool} {xs : List (DK × D)} : share (.dct o xs) = .dct false (shareK xs) := by rw [share]
@[simp] theorem w_non : share .non = .non := by rw [share]
@[simp] theorem w_bl {b : Bool} : share (.bl b) = .bl b := by rw [share]
@[simp] theorem w_int {b : Int} : share (.int b) = .int b := by rw [share]
@[simp] theorem w_str {b : Str} : share (.str b) = .str b := by rw [share]
@[simp] theorem w_box {b : Nat} : share (.box b) = .box b := by rw [share]
@[simp] theorem w_scr {b : List Int} : share (.scr b) = .scr b := by rw [share]
@[simp] theorem w_nil : shareL [] = [] := by rw [shareL]
@[simp] theorem w_cons {x : D} {xs : List D} : shareL (x :: xs) = share x :: shareL xs := by rw [shareL]
@[simp] theorem w_app {xs ys : List D} : shareL (xs ++ ys) = shareL xs ++ shareL ys := by rw [shareL_eq, shareL_eq, shareL_eq, List.map_append]
@[simp] theorem v_lst {o : Bool} {xs : List D} : shareIn (.lst o xs) = .lst o (shareL xs) := rfl
@[simp] theorem v_dct {o : Bool} {xs : List (DK × D)} : shareIn (.dct o xs) = .dct o (shareK xs) := rfl
@[simp] theorem v_tup {xs : List D} : shareIn (.tup xs) = .tup (shareL xs) := w_tup
@[simp] theorem v_non : shareIn .non = .non := w_non
@[simp] theorem v_bl {b : Bool} : shareIn (.bl b) = .bl b := w_bl
@[simp] theorem v_int {b : Int} : shareIn (.int b) = .int b := w_int
@[simp] theorem v_str {b : Str} : shareIn (.str b) = .str b := w_str
@[simp] theorem v_box {b : Nat} : shareIn (.box b) = .box b := w_box
@[simp] theorem w_strs {xs : List Str} : shareL (xs.map D.str) = xs.map D.str := shareL_strs xs
theorem w_map {g : α → D} (h : ∀ x, share (g x) = g x) (xs : List α) : shareL (xs.map g) = xs.map g := by
  rw [shareL_eq, List.map_map]
  exact List.map_congr_left fun x _ => h x
@[simp] theorem w_pr2 {ps : List (Str × Str)} : shareL (ps.map pr2) = ps.map pr2 := w_map (fun p => by simp) ps
abbrev ls2 (p : Str × Str) : D := .lst false [.str p.1, .str p.2]
@[simp] theorem w_ls2 {ps : List (Str × Str)} : shareL (ps.map ls2) = ps.map ls2 := w_map (fun p => by simp) ps
theorem still_share {d : D} : still (share d) = true := share_still d
@[simp] theorem u_lst {o : Bool} {xs : List D} : still (.lst o xs) = (!o && stillL xs) := by rw [still]
@[simp] theorem u_tup {xs : List D} : still (.tup xs) = stillL xs := by rw [still]
@[simp] theorem u_int {z : Int} : still (.int z) = true := by rw [still]
@[simp] theorem u_str {z : Str} : still (.str z) = true := by rw [still]
@[simp] theorem u_bl {z : Bool} : still (.bl z) = true := by rw [still]
@[simp] theorem u_non : still .non = true := by rw [still]
@[simp] theorem u_nil : stillL [] = true := by rw [stillL]
@[simp] theorem u_cons {x : D} {xs : List D} : stillL (x :: xs) = (still x && stillL xs) := by rw [stillL]
theorem u_map {g : α → D} (h : ∀ x, still (g x) = true) (xs : List α) : stillL (xs.map g) = true := by
  rw [stillL_eq, List.all_map, List.all_eq_true]
  exact fun x _ => h x
@[simp] theorem u_strs {xs : List Str} : stillL (xs.map D.str) = true := u_map (fun x => by simp) xs
@[simp] theorem u_pr2 {ps : List (Str × Str)} : stillL (ps.map pr2) = true := u_map (fun p => by simp) ps
@[simp] theorem u_ls2 {ps : List (Str × Str)} : stillL (ps.map ls2) = true := u_map (fun p => by simp) ps
@[simp] theorem ui_lst {o : Bool} {xs : List D} : stillIn (.lst o xs) = stillL xs := rfl
@[simp] theorem ui_tup {xs : List D} : stillIn (.tup xs) = stillL xs := u_tup
@[simp] theorem ui_int {z : Int} : stillIn (.int z) = true := by show still (.int z) = true; simp
@[simp] theorem ui_str {z : Str} : stillIn (.str z) = true := by show still (.str z) = true; simp
@[simp] theorem ui_bl {z : Bool} : stillIn (.bl z) = true := by show still (.bl z) = true; simp
/-! operators -/
@[simp] theorem o1 {a b : Int} : oAdd (.int a) (.int b) = some (.int (a + b)) := rfl
@[simp] theorem o2 {a b : Int} : oSub (.int a) (.int b) = some (.int (a - b)) := rfl
@[simp] theorem o3 {a b : Int} : oLt (.int a) (.int b) = some (.bl (decide (a < b))) := rfl
@[simp] theorem o4 {a b : Int} : oLe (.int a) (.int b) = some (.bl (decide (a ≤ b))) := rfl
@[simp] theorem o5 {a b : Int} : oGt (.int a) (.int b) = some (.bl (decide (b < a))) := rfl
@[simp] theorem o6 {a b : Int} : oGe (.int a) (.int b) = some (.bl (decide (b ≤ a))) := rfl
@[simp] theorem o7 {a : Bool} : oNot (.bl a) = some (.bl (!a)) := rfl
@[simp] theorem o8 {a : Int} : oNeg (.int a) = some (.int (-a)) := rfl
@[simp] theorem o9 {o : Bool} {xs : List D} : oLen (.lst o xs) = some (.int xs.length) := rfl
@[simp] theorem o10 {xs : List D} : oLen (.tup xs) = some (.int xs.length) := rfl
@[simp] theorem o11 {o : Bool} {xs : List D} : oList (.lst o xs) = some (.lst true xs) := rfl
@[simp] theorem o12 {xs : List D} : oList (.tup xs) = some (.lst true xs) := rfl
@[simp] theorem o13 {o : Bool} {xs : List D} : oTuple (.lst o xs) = some (.tup xs) := rfl
@[simp] theorem o14 {xs : List D} : oTuple (.tup xs) = some (.tup xs) := rfl
@[simp] theorem o15 {a : Int} : oInt (.int a) = some (.int a) := rfl
@[simp] theorem o16 {b : Bool} : oInt (.bl b) = some (.int (if b then 1 else 0)) := rfl
@[simp] theorem o17 {o : Bool} {xs : List D} : oRev (.lst o xs) = some (.lst true xs.reverse) := rfl
@[simp] theorem o18 {xs : List D} : oRev (.tup xs) = some (.tup xs.reverse) := rfl
@[simp] theorem o19 {o : Bool} {xs : List D} : itSeq (.lst o xs) = some xs := rfl
@[simp] theorem o20 {xs : List D} : itSeq (.tup xs) = some xs := rfl
@[simp] theorem o21 {o : Bool} {xs : List D} : itemsD (.lst o xs) = some xs := rfl
@[simp] theorem o22 {xs : List D} : itemsD (.tup xs) = some xs := rfl
@[simp] theorem o23 {a b : Int} : oEq (.int a) (.int b) = some (.bl (decide (a = b))) := by rw [oEq_int]; congr 2
@[simp] theorem o24 {a b : Str} : oEq (.str a) (.str b) = some (.bl (decide (a = b))) := by
  show some (D.bl (eqvD (.str a) (.str b))) = _
  rw [eqv_str]; congr 2
@[simp] theorem o25 {a b : Int} : oNe (.int a) (.int b) = some (.bl (!decide (a = b))) := by
  show some (D.bl (!eqvD (.int a) (.int b))) = _
  rw [eqv_int]; congr 3
@[simp] theorem o26 {a b : Str} : oNe (.str a) (.str b) = some (.bl (!decide (a = b))) := by
  show some (D.bl (!eqvD (.str a) (.str b))) = _
  rw [eqv_str]; congr 3
theorem eqv_bl (a b : Bool) : eqvD (.bl a) (.bl b) = (a == b) := by cases a <;> cases b <;> decide +kernel
@[simp] theorem o27 {a b : Bool} : oEq (.bl a) (.bl b) = some (.bl (a == b)) := by
  show some (D.bl (eqvD (.bl a) (.bl b))) = _
  rw [eqv_bl]
@[simp] theorem o28 {a b : Bool} : oNe (.bl a) (.bl b) = some (.bl (a != b)) := by
  show some (D.bl (!eqvD (.bl a) (.bl b))) = _
  rw [eqv_bl]; rfl
theorem o29 {t : Ty} {ts : List Ty} {x : D} : oIsi (t :: ts) x = match isTy x t with | some true => some (.bl true) | some false => oIsi ts x | none => none := rfl
theorem o30 {x : D} : oIsi [] x = some (.bl false) := rfl
@[simp] theorem o31 {xs : List D} {i : Nat} : oIx (.tup xs) (.int i) = xs[i]? := by
  show L2.atI xs i = _
  unfold L2.atI L2.ixN
  rw [if_pos (Int.natCast_nonneg i)]
  by_cases h : i < xs.length
  · rw [if_pos (by omega)]; rfl
  · rw [if_neg (by omega), List.getElem?_eq_none (by omega)]; rfl
@[simp] theorem o32 {o : Bool} {xs : List D} {i : Nat} : oIx (.lst o xs) (.int i) = xs[i]? := (show oIx (.lst o xs) (.int i) = oIx (.tup xs) (.int i) from rfl).trans o31
@[simp] theorem o33 {o : Bool} {xs : List D} : itEnumD (.lst o xs) = some (xs.zipIdx.map fun p => .tup [.int p.2, p.1]) := rfl
@[simp] theorem o34 {xs : List D} : itEnumD (.tup xs) = some (xs.zipIdx.map fun p => .tup [.int p.2, p.1]) := rfl
@[simp] theorem o35 {x : D} : oIs x .non = oIsN x := rfl
@[simp] theorem sc_bl {b : Bool} : isScal (.bl b) = true := rfl
@[simp] theorem sc_int {b : Int} : isScal (.int b) = true := rfl
@[simp] theorem sc_str {b : Str} : isScal (.str b) = true := rfl
@[simp] theorem sc_non : isScal .non = true := rfl
theorem app_lst {xs : List D} {x : D} (h : xs.length < 16777216) : mAppend (.lst true xs) [x] = some (.lst true (xs ++ [x])) := if_pos (by rw [PySem.sizeLine_eq]; exact h)
@[simp] theorem i_str_0 {x : Str} : oIsi [.tstr] (.str x) = some (.bl true) := rfl
@[simp] theorem i_str_1 {x : Str} : oIsi [.tlist] (.str x) = some (.bl false) := rfl
@[simp] theorem i_str_2 {x : Str} : oIsi [.ttuple] (.str x) = some (.bl false) := rfl
@[simp] theorem i_str_3 {x : Str} : oIsi [.tlist, .ttuple] (.str x) = some (.bl false) := rfl
@[simp] theorem i_str_4 {x : Str} : oIsi [.tint] (.str x) = some (.bl false) := rfl
@[simp] theorem i_str_5 {x : Str} : oIsi [.tbool] (.str x) = some (.bl false) := rfl
@[simp] theorem i_str_6 {x : Str} : oIsi [.tbool, .tstr] (.str x) = some (.bl true) := rfl
@[simp] theorem i_int_0 {x : Int} : oIsi [.tstr] (.int x) = some (.bl false) := rfl
@[simp] theorem i_int_1 {x : Int} : oIsi [.tlist] (.int x) = some (.bl false) := rfl
@[simp] theorem i_int_2 {x : Int} : oIsi [.ttuple] (.int x) = some (.bl false) := rfl
@[simp] theorem i_int_3 {x : Int} : oIsi [.tlist, .ttuple] (.int x) = some (.bl false) := rfl
@[simp] theorem i_int_4 {x : Int} : oIsi [.tint] (.int x) = some (.bl true) := rfl
@[simp] theorem i_int_5 {x : Int} : oIsi [.tbool] (.int x) = some (.bl false) := rfl
@[simp] theorem i_int_6 {x : Int} : oIsi [.tbool, .tstr] (.int x) = some (.bl false) := rfl
@[simp] theorem i_bl_0 {x : Bool} : oIsi [.tstr] (.bl x) = some (.bl false) := rfl
@[simp] theorem i_bl_1 {x : Bool} : oIsi [.tlist] (.bl x) = some (.bl false) := rfl
@[simp] theorem i_bl_2 {x : Bool} : oIsi [.ttuple] (.bl x) = some (.bl false) := rfl
@[simp] theorem i_bl_3 {x : Bool} : oIsi [.tlist, .ttuple] (.bl x) = some (.bl false) := rfl
@[simp] theorem i_bl_4 {x : Bool} : oIsi [.tint] (.bl x) = some (.bl true) := rfl
@[simp] theorem i_bl_5 {x : Bool} : oIsi [.tbool] (.bl x) = some (.bl true) := rfl
@[simp] theorem i_bl_6 {x : Bool} : oIsi [.tbool, .tstr] (.bl x) = some (.bl true) := rfl
@[simp] theorem i_non_0  : oIsi [.tstr] (.non) = some (.bl false) := rfl
@[simp] theorem i_non_1  : oIsi [.tlist] (.non) = some (.bl false) := rfl
@[simp] theorem i_non_2  : oIsi [.ttuple] (.non) = some (.bl false) := rfl
@[simp] theorem i_non_3  : oIsi [.tlist, .ttuple] (.non) = some (.bl false) := rfl
@[simp] theorem i_non_4  : oIsi [.tint] (.non) = some (.bl false) := rfl
@[simp] theorem i_non_5  : oIsi [.tbool] (.non) = some (.bl false) := rfl
@[simp] theorem i_non_6  : oIsi [.tbool, .tstr] (.non) = some (.bl false) := rfl
@[simp] theorem i_lst_0 {o : Bool} {xs : List D} : oIsi [.tstr] (.lst o xs) = some (.bl false) := rfl
@[simp] theorem i_lst_1 {o : Bool} {xs : List D} : oIsi [.tlist] (.lst o xs) = some (.bl true) := rfl
@[simp] theorem i_lst_2 {o : Bool} {xs : List D} : oIsi [.ttuple] (.lst o xs) = some (.bl false) := rfl
@[simp] theorem i_lst_3 {o : Bool} {xs : List D} : oIsi [.tlist, .ttuple] (.lst o xs) = some (.bl true) := rfl
@[simp] theorem i_lst_4 {o : Bool} {xs : List D} : oIsi [.tint] (.lst o xs) = some (.bl false) := rfl
@[simp] theorem i_lst_5 {o : Bool} {xs : List D} : oIsi [.tbool] (.lst o xs) = some (.bl false) := rfl
@[simp] theorem i_lst_6 {o : Bool} {xs : List D} : oIsi [.tbool, .tstr] (.lst o xs) = some (.bl false) := rfl
@[simp] theorem i_tup_0 {xs : List D} : oIsi [.tstr] (.tup xs) = some (.bl false) := rfl
@[simp] theorem i_tup_1 {xs : List D} : oIsi [.tlist] (.tup xs) = some (.bl false) := rfl
@[simp] theorem i_tup_2 {xs : List D} : oIsi [.ttuple] (.tup xs) = some (.bl true) := rfl
@[simp] theorem i_tup_3 {xs : List D} : oIsi [.tlist, .ttuple] (.tup xs) = some (.bl true) := rfl
@[simp] theorem i_tup_4 {xs : List D} : oIsi [.tint] (.tup xs) = some (.bl false) := rfl
@[simp] theorem i_tup_5 {xs : List D} : oIsi [.tbool] (.tup xs) = some (.bl false) := rfl
@[simp] theorem i_tup_6 {xs : List D} : oIsi [.tbool, .tstr] (.tup xs) = some (.bl false) := rfl
@[simp] theorem dec_lt {a b : Nat} : decide ((a : Int) < (b : Int)) = decide (a < b) := by rw [decide_eq_decide]; omega
@[simp] theorem dec_le {a b : Nat} : decide ((a : Int) ≤ (b : Int)) = decide (a ≤ b) := by rw [decide_eq_decide]; omega
@[simp] theorem dec_eq {a b : Nat} : decide ((a : Int) = (b : Int)) = decide (a = b) := by rw [decide_eq_decide]; omega
@[simp] theorem isN_non : oIsN .non = some (.bl true) := rfl
@[simp] theorem isN_str {x : Str} : oIsN (.str x) = some (.bl false) := rfl
@[simp] theorem isN_int {x : Int} : oIsN (.int x) = some (.bl false) := rfl
@[simp] theorem isN_bl {x : Bool} : oIsN (.bl x) = some (.bl false) := rfl
@[simp] theorem isN_lst {o : Bool} {xs : List D} : oIsN (.lst o xs) = some (.bl false) := rfl
@[simp] theorem isN_tup {xs : List D} : oIsN (.tup xs) = some (.bl false) := rfl
theorem add_lst {o o' : Bool} {a b : List D} (h : a.length + b.length ≤ 16777216) : oAdd (.lst o a) (.lst o' b) = some (.lst true (a ++ b)) := oAdd_lst (by rw [PySem.sizeLine_eq]; exact h)
theorem add_tup {a b : List D} (h : a.length + b.length ≤ 16777216) : oAdd (.tup a) (.tup b) = some (.tup (a ++ b)) := if_pos (by rw [PySem.sizeLine_eq]; exact h)
theorem blsOf_map (bs : List Bool) : blsOf (bs.map D.bl) = some bs := by
  induction bs with
  | nil => rfl
  | cons b bs ih => show (blsOf (bs.map D.bl)).map (b :: ·) = _; rw [ih]; rfl
@[simp] theorem oAll_bls {o : Bool} {bs : List Bool} : oAll (.lst o (bs.map D.bl)) = some (.bl (bs.all id)) := by
  show (blsOf _).map _ = _
  rw [blsOf_map]; rfl
@[simp] theorem oAll_map {o : Bool} {xs : List α} {p : α → Bool} : oAll (.lst o (xs.map fun x => D.bl (p x))) = some (.bl (xs.all p)) := by
  have : xs.map (fun x => D.bl (p x)) = (xs.map p).map D.bl := by rw [List.map_map]; rfl
  rw [this, oAll_bls, List.all_map]; rfl
@[simp] theorem oAny_map {o : Bool} {xs : List α} {p : α → Bool} : oAny (.lst o (xs.map fun x => D.bl (p x))) = some (.bl (xs.any p)) := by
  have : xs.map (fun x => D.bl (p x)) = (xs.map p).map D.bl := by rw [List.map_map]; rfl
  rw [this]
  show (blsOf _).map _ = _
  rw [blsOf_map]
  show some (D.bl ((xs.map p).any id)) = _
  rw [List.any_map]; rfl
/-- a comprehension over what is printed so -/
theorem lc_if {tg : Tg} {r : Env} {c e : Ev} {g : α → D} (en : α → Env) (C : α → Bool) (F : α → D) : ∀ (xs : List α) (acc : List D), (∀ x ∈ xs, bindT tg (g x) r = some (en x) ∧ c (en x) = ret (.bl (C x)) ∧ (C x = true → e (en x) = ret (F x))) → acc.length + xs.length ≤ 16777216 →
    lcGo tg r (some c) e (xs.map g) acc = ret (.lst true (acc ++ (xs.filter C).map F))
  | [], acc, _, _ => by unfold lcGo; simp
  | x :: xs, acc, h, hl => by
    have szl := PySem.sizeLine_eq
    obtain ⟨e1, e2, e3⟩ := h x List.mem_cons_self
    rw [List.length_cons] at hl
    have ih := fun acc' => lc_if (F := F) en C xs acc' (fun y hy => h y (List.mem_cons_of_mem _ hy))
    rw [List.map_cons]
    unfold lcGo
    rw [e1]
    dsimp only
    rw [e2, bnd_ret]
    cases hc : C x with
    | true =>
      dsimp only
      rw [if_pos (by omega), e3 hc, bnd_ret, ih _ (by rw [List.length_append, List.length_singleton]; omega), List.filter_cons, if_pos hc]
      simp
    | false =>
      dsimp only
      rw [ih _ (by omega), List.filter_cons, if_neg (by rw [hc]; decide)]
theorem lc_all {tg : Tg} {r : Env} {e : Ev} {g : α → D} (en : α → Env) (F : α → D) : ∀ (xs : List α) (acc : List D), (∀ x ∈ xs, bindT tg (g x) r = some (en x) ∧ e (en x) = ret (F x)) → acc.length + xs.length ≤ 16777216 →
    lcGo tg r none e (xs.map g) acc = ret (.lst true (acc ++ xs.map F))
  | [], acc, _, _ => by unfold lcGo; simp
  | x :: xs, acc, h, hl => by
    have szl := PySem.sizeLine_eq
    obtain ⟨e1, e3⟩ := h x List.mem_cons_self
    rw [List.length_cons] at hl
    have ih := fun acc' => lc_all (F := F) en xs acc' (fun y hy => h y (List.mem_cons_of_mem _ hy))
    rw [List.map_cons]
    unfold lcGo
    rw [e1]
    dsimp only
    rw [if_pos (by omega), e3, bnd_ret, ih _ (by rw [List.length_append, List.length_singleton]; omega), List.map_cons]
    simp
/-! ### alike -/
/-- made of simple things, at most so deep, no part too long -/
def sameOk : Nat → D → Bool
  | 0, _ => false
  | n + 1, .lst _ xs => decide (xs.length ≤ 100000) && xs.all (sameOk n)
  | n + 1, .tup xs => decide (xs.length ≤ 100000) && xs.all (sameOk n)
  | _ + 1, .non => true
  | _ + 1, .bl _ => true
  | _ + 1, .int _ => true
  | _ + 1, .str _ => true
  | _ + 1, _ => false
theorem same_tup {m : Nat} {xs : List D} (h : ∀ x ∈ xs, pSame m [x, x] = ret (.bl true)) (hl : xs.length ≤ 100000) : pSame (m + 1) [.tup xs, .tup xs] = ret (.bl true) := by
  have szl := PySem.sizeLine_eq
  have e : lcGo (.two 2 3) [.sh (.tup xs), .sh (.tup xs), .no, .no] none (eCall (pSame m) [eV 2, eV 3]) ((xs.zip xs).map fun p => D.tup [p.1, p.2]) [] = ret (.lst true ([] ++ (xs.zip xs).map fun _ => D.bl true)) := by
    refine lc_all (fun p => [.sh (.tup xs), .sh (.tup xs), .sh p.1, .sh p.2]) (fun _ => .bl true) _ _ (fun p hp => ⟨rfl, ?_⟩) (by simp; omega)
    have e2 : p.1 = p.2 ∧ p.1 ∈ xs := by
      obtain ⟨i, hi, e⟩ := List.getElem_of_mem hp
      rw [List.getElem_zip] at e
      subst e
      exact ⟨rfl, List.getElem_mem _⟩
    show pSame m [p.1, p.2] = _
    rw [← e2.1]
    exact h _ e2.2
  have e1 : oEq (.int xs.length) (.int xs.length) = some (.bl true) := by simp
  have e3 := oAll_true (o := true) (xs := [] ++ (xs.zip xs).map fun _ => D.bl true) fun x hx => by
    rw [List.nil_append] at hx
    obtain ⟨_, _, rfl⟩ := List.mem_map.mp hx
    rfl
  exact q_fn (q_rt (q_ift (q_1 rfl rfl) (q_seq (q_iff (q_orf (q_2 rfl rfl rfl) (q_2 rfl rfl rfl)) rfl) (q_ret (q_andt (q_2 rfl rfl e1) (q_N (q_cons (q_lc (q_itN rfl rfl) e) q_nil) e3))))))
theorem same_bl (m : Nat) (b : Bool) : pSame (m + 1) [.bl b, .bl b] = ret (.bl true) := by
  have e : oEq (.bl b) (.bl b) = some (.bl true) := by simp
  exact q_fn (q_seq (q_iff (q_1 rfl rfl) rfl) (q_rt (q_ift (q_orf (q_2 rfl rfl rfl) (q_1 rfl rfl)) (q_ret (q_andt (q_2 rfl rfl e) (q_andt (q_2 (q_1 rfl rfl) (q_1 rfl rfl) rfl) (q_2 (q_2 rfl rfl rfl) (q_2 rfl rfl rfl) rfl)))))))
theorem same_str (m : Nat) (b : Str) : pSame (m + 1) [.str b, .str b] = ret (.bl true) := by
  have e : oEq (.str b) (.str b) = some (.bl true) := by simp
  exact q_fn (q_seq (q_iff (q_1 rfl rfl) rfl) (q_rt (q_ift (q_orf (q_2 rfl rfl rfl) (q_1 rfl rfl)) (q_ret (q_andt (q_2 rfl rfl e) (q_andt (q_2 (q_1 rfl rfl) (q_1 rfl rfl) rfl) (q_2 (q_2 rfl rfl rfl) (q_2 rfl rfl rfl) rfl)))))))
theorem oEq_non : oEq .non .non = some (.bl true) := by
  show some (D.bl (PyData.eqv .none .none)) = _
  unfold PyData.eqv
  rfl
theorem same_non (m : Nat) : pSame (m + 1) [.non, .non] = ret (.bl true) :=
  q_fn (q_seq (q_iff (q_1 rfl rfl) rfl) (q_rt (q_ift (q_ort (q_2 rfl rfl rfl)) (q_ret (q_andt (q_2 rfl rfl oEq_non) (q_andt (q_2 (q_1 rfl rfl) (q_1 rfl rfl) rfl) (q_2 (q_2 rfl rfl rfl) (q_2 rfl rfl rfl) rfl)))))))
theorem same_refl : ∀ (m : Nat) (d : D), sameOk m d = true → pSame m [d, d] = ret (.bl true)
  | 0, _, h => by cases h
  | m + 1, .lst o xs, h => by
    unfold sameOk at h
    rw [Bool.and_eq_true, decide_eq_true_iff, List.all_eq_true] at h
    exact same_list (fun x hx => same_refl m x (h.2 x hx)) h.1
  | m + 1, .tup xs, h => by
    unfold sameOk at h
    rw [Bool.and_eq_true, decide_eq_true_iff, List.all_eq_true] at h
    exact same_tup (fun x hx => same_refl m x (h.2 x hx)) h.1
  | m + 1, .non, _ => same_non m
  | m + 1, .bl b, _ => same_bl m b
  | m + 1, .int z, _ => same_int m z
  | m + 1, .str z, _ => same_str m z
@[simp] theorem so_lst {n : Nat} {o : Bool} {xs : List D} : sameOk (n + 1) (.lst o xs) = (decide (xs.length ≤ 100000) && xs.all (sameOk n)) := rfl
@[simp] theorem so_tup {n : Nat} {xs : List D} : sameOk (n + 1) (.tup xs) = (decide (xs.length ≤ 100000) && xs.all (sameOk n)) := rfl
@[simp] theorem so_non {n : Nat} : sameOk (n + 1) .non = true := rfl
@[simp] theorem so_bl {n : Nat} {b : Bool} : sameOk (n + 1) (.bl b) = true := rfl
@[simp] theorem so_int {n : Nat} {b : Int} : sameOk (n + 1) (.int b) = true := rfl
@[simp] theorem so_str {n : Nat} {b : Str} : sameOk (n + 1) (.str b) = true := rfl
end
end HF

/-! HF: the plain side: friends by draws. -/
namespace HF
open PySem (Str PyData sizeLine)
open L2 (Key)
local macro_rules | `(tactic| walk_at "z") => `(tactic| simp only [z_bnd, z_fail, z_some, z_none, z_V, z_B, z_I, z_C, z_Inn, z_Sh, z_1, z_2, z_nil, z_cons, z_N, z_And, z_Or, z_Ite, z_Chain, z_Call, z_CallS, z_CallK, z_Tup, z_Lst, z_pick0, z_pick, z_itD, z_itN, z_n1, z_n2, z_l1, z_l2, z_Lc, z_wipe0, z_wipe, z_b1, z_b2, z_b3, z_part0, z_part, z_Sl, z_seq, z_nx, z_sFail, z_set, z_setO, z_ret, z_retV, z_retN, z_if, z_pre, z_gives0, z_gives, z_give, z_mut, z_mutAt, z_par, z_unp, z_parN, z_unpN, z_putSs0, z_putSs, z_putO, z_putS, z_for, z_rep0, w_lst, w_tup, w_dct, w_non, w_bl, w_int, w_str, w_box, w_scr, w_nil, w_cons, w_app, v_lst, v_dct, v_tup, v_non, v_bl, v_int, v_str, v_box, w_strs, w_pr2, w_ls2, u_lst, u_tup, u_int, u_str, u_bl, u_non, u_nil, u_cons, u_strs, u_pr2, u_ls2, ui_lst, ui_tup, ui_int, ui_str, ui_bl, o1, o2, o3, o4, o5, o6, o7, o8, o9, o10, o11, o12, o13, o14, o15, o16, o17, o18, o19, o20, o21, o22, o23, o24, o25, o26, o27, o28, o31, o32, o35, i_str_0, i_str_1, i_str_2, i_str_3, i_str_4, i_str_5, i_str_6, i_int_0, i_int_1, i_int_2, i_int_3, i_int_4, i_int_5, i_int_6, i_bl_0, i_bl_1, i_bl_2, i_bl_3, i_bl_4, i_bl_5, i_bl_6, i_non_0, i_non_1, i_non_2, i_non_3, i_non_4, i_non_5, i_non_6, i_lst_0, i_lst_1, i_lst_2, i_lst_3, i_lst_4, i_lst_5, i_lst_6, i_tup_0, i_tup_1, i_tup_2, i_tup_3, i_tup_4, i_tup_5, i_tup_6, dec_lt, dec_le, dec_eq, isN_non, isN_str, isN_int, isN_bl, isN_lst, isN_tup, sc_bl, sc_int, sc_str, sc_non, oAll_map, oAny_map, List.getElem?_cons_succ, List.getElem?_cons_zero, List.set_cons_succ, List.set_cons_zero, List.map_cons, List.map_nil, List.cons_append, List.nil_append, List.replicate_succ, Option.bind_some, if_true, if_false, Bool.not_true, Bool.not_false, Bool.and_true, Bool.true_and, Bool.and_false, Bool.false_and, Bool.or_true, Bool.true_or, Bool.or_false, Bool.false_or, decide_true, decide_false, reduceIte])
local macro_rules | `(tactic| walk_at "zs") => `(tactic| simp only [*, z_bnd, z_fail, z_some, z_none, z_V, z_B, z_I, z_C, z_Inn, z_Sh, z_1, z_2, z_nil, z_cons, z_N, z_And, z_Or, z_Ite, z_Chain, z_Call, z_CallS, z_CallK, z_Tup, z_Lst, z_pick0, z_pick, z_itD, z_itN, z_n1, z_n2, z_l1, z_l2, z_Lc, z_wipe0, z_wipe, z_b1, z_b2, z_b3, z_part0, z_part, z_Sl, z_seq, z_nx, z_sFail, z_set, z_setO, z_ret, z_retV, z_retN, z_if, z_pre, z_gives0, z_gives, z_give, z_mut, z_mutAt, z_par, z_unp, z_parN, z_unpN, z_putSs0, z_putSs, z_putO, z_putS, z_for, z_rep0, w_lst, w_tup, w_dct, w_non, w_bl, w_int, w_str, w_box, w_scr, w_nil, w_cons, w_app, v_lst, v_dct, v_tup, v_non, v_bl, v_int, v_str, v_box, w_strs, w_pr2, w_ls2, u_lst, u_tup, u_int, u_str, u_bl, u_non, u_nil, u_cons, u_strs, u_pr2, u_ls2, ui_lst, ui_tup, ui_int, ui_str, ui_bl, o1, o2, o3, o4, o5, o6, o7, o8, o9, o10, o11, o12, o13, o14, o15, o16, o17, o18, o19, o20, o21, o22, o23, o24, o25, o26, o27, o28, o31, o32, o35, i_str_0, i_str_1, i_str_2, i_str_3, i_str_4, i_str_5, i_str_6, i_int_0, i_int_1, i_int_2, i_int_3, i_int_4, i_int_5, i_int_6, i_bl_0, i_bl_1, i_bl_2, i_bl_3, i_bl_4, i_bl_5, i_bl_6, i_non_0, i_non_1, i_non_2, i_non_3, i_non_4, i_non_5, i_non_6, i_lst_0, i_lst_1, i_lst_2, i_lst_3, i_lst_4, i_lst_5, i_lst_6, i_tup_0, i_tup_1, i_tup_2, i_tup_3, i_tup_4, i_tup_5, i_tup_6, dec_lt, dec_le, dec_eq, isN_non, isN_str, isN_int, isN_bl, isN_lst, isN_tup, sc_bl, sc_int, sc_str, sc_non, oAll_map, oAny_map, List.getElem?_cons_succ, List.getElem?_cons_zero, List.set_cons_succ, List.set_cons_zero, List.map_cons, List.map_nil, List.cons_append, List.nil_append, List.replicate_succ, Option.bind_some, if_true, if_false, Bool.not_true, Bool.not_false, Bool.and_true, Bool.true_and, Bool.and_false, Bool.false_and, Bool.or_true, Bool.true_or, Bool.or_false, Bool.false_or, decide_true, decide_false, reduceIte])
abbrev rw2 (p : Str × Str) : List Key := [.inr p.1, .inr p.2]
/-- pairs as they are ordered -/
def ltP (p q : Str × Str) : Bool := ltFs (rw2 p) (rw2 q)
theorem rw2_inj {p q : Str × Str} (h : rw2 p = rw2 q) : p = q := by
  simp at h
  exact Prod.ext h.1 h.2
theorem rows_pr2 : ∀ ps : List (Str × Str), rowsOf (ps.map pr2) = some (ps.map rw2)
  | [] => rfl
  | p :: ps => by
    show (rowsOf (ps.map pr2)).map (rw2 p :: ·) = _
    rw [rows_pr2 ps]; rfl
theorem rowD_pr2 (p : Str × Str) : rowD (rw2 p) = pr2 p := rfl
/-- rising, no pair twice -/
abbrev RisP (ps : List (Str × Str)) : Prop := ps.Pairwise fun p q => ltP p q = true
theorem RisP.nodup {ps : List (Str × Str)} (h : RisP ps) : ps.Nodup := List.Pairwise.imp (fun {p q} hl e => by
  subst e
  rw [ltP, ltFs_irrefl] at hl; cases hl) h
theorem sortR_rise {ps : List (Str × Str)} : ∃ qs : List (Str × Str), sortR (nub (ps.map rw2)) = qs.map rw2 ∧ RisP qs ∧ ∀ p, p ∈ qs ↔ p ∈ ps := by
  have pm := sortR_perm (nub (ps.map rw2))
  have sub : ∀ (l : List (List Key)), (∀ x ∈ l, x ∈ ps.map rw2) → ∃ qs : List (Str × Str), l = qs.map rw2 := by
    intro l
    induction l with
    | nil => exact fun _ => ⟨[], rfl⟩
    | cons x l ih =>
      intro h
      obtain ⟨p, _, rfl⟩ := List.mem_map.mp (h x List.mem_cons_self)
      obtain ⟨qs, rfl⟩ := ih fun y hy => h y (List.mem_cons_of_mem _ hy)
      exact ⟨p :: qs, rfl⟩
  obtain ⟨qs, e⟩ := sub (sortR (nub (ps.map rw2))) fun x hx => mem_nub.mp (pm.mem_iff.mp hx)
  refine ⟨qs, e, ?_, fun p => ?_⟩
  · have s := sortR_sorted (nub (ps.map rw2))
    have n := pm.nodup_iff.mpr (nub_nodup (ps.map rw2))
    rw [e] at s n
    have s' := List.pairwise_map.mp s
    have n' := List.pairwise_map.mp n
    refine (List.Pairwise.and s' n').imp fun {a b} ⟨h1, h2⟩ => ?_
    unfold leFs at h1
    rw [Bool.not_eq_true'] at h1
    exact (ltFs_total h2).resolve_right (by rw [h1]; decide)
  · have : rw2 p ∈ qs.map rw2 ↔ rw2 p ∈ ps.map rw2 := by rw [← e, pm.mem_iff, mem_nub]
    constructor
    · intro h
      obtain ⟨q, hq, e⟩ := List.mem_map.mp (this.mp (List.mem_map_of_mem h))
      rw [← rw2_inj e]; exact hq
    · intro h
      obtain ⟨q, hq, e⟩ := List.mem_map.mp (this.mpr (List.mem_map_of_mem h))
      rw [← rw2_inj e]; exact hq
theorem oSortSet_pr2 {o : Bool} {ps : List (Str × Str)} (h : ps.length < 300) : ∃ qs : List (Str × Str), oSortSet (.lst o (ps.map pr2)) = some (.lst true (qs.map pr2)) ∧ RisP qs ∧ ∀ p, p ∈ qs ↔ p ∈ ps := by
  obtain ⟨qs, e, r, m⟩ := sortR_rise (ps := ps)
  refine ⟨qs, ?_, r, m⟩
  unfold oSortSet
  dsimp only
  rw [rows_pr2]
  dsimp only
  rw [if_pos, e, List.map_map]
  · rfl
  · rw [Bool.and_eq_true, decide_eq_true_iff]
    refine ⟨?_, by rw [List.length_map]; exact h⟩
    unfold rowsT
    rw [List.all_eq_true]
    intro r hr
    obtain ⟨p, _, rfl⟩ := List.mem_map.mp hr
    rfl
def pTies : Fn := runFn 7
    (sSeq (sParN [(2, false), (3, false), (4, false)] [(eSh (eCall pTake [(eV 0), (eC (.int 7))])), (eSh (eLst [])), (eSh (eN (n1 oSort) [(eB 1)]))])
    (sSeq (sSet 5 (eSh (eIx (eInn (eLst [(eC (.int 0)), (eC (.int 6)), (eC (.int 3)), (eC (.int 2)), (eC (.int 4)), (eC (.int 6)), (eC (.int 4))])) (eB 2))))
    (sSeq (sFor (.one 6) (itD itSeq (eV 4))
    (sFor (.one 7) (itD itSeq (eV 4))
    (sIf (eAnd (e2 oNe (eB 6) (eB 7)) (e2 oGt (eB 5) (eC (.int 0))))
    (sSet 3 (eSh (e2 oAdd (eI 3) (eInn (e2 oMul (eInn (eLst [(eTup [(eV 6), (eV 7)])])) (eN (n1 oInt) [(e2 oNe (e2 oEq (eCall pTake [(eV 0), (eV 5)]) (eC (.int 0))) (e2 oEq (eB 2) (eC (.int 4))))]))))))
    sNx)))
    (sSeq (sIf (e2 oEq (eB 2) (eC (.int 5)))
    (sSeq (sSet 8 (eSh (eCall pStrewn [(eV 0), (eV 4)])))
    (sSet 3 (eSh (e2 oAdd (eI 3) (eInn (eLc [6, 7] (.two 6 7) (itN (l2 itZip) [(eV 8), (eSh (e2 oAdd (eInn (eSl (eI 8) (some (eC (.int 1))) none)) (eInn (eSl (eI 8) none (some (eC (.int 1)))))))]) (some (e2 oNe (eB 6) (eB 7))) (eTup [(eV 6), (eV 7)])))))))
    sNx)
    (sSeq (sIf (e2 oEq (eB 2) (eC (.int 6)))
    (sSet 3 (eSh (e2 oAdd (eI 3) (eInn (eLc [6, 7] (.two 6 7) (itD itSeq (eV 3)) none (eTup [(eV 7), (eV 6)]))))))
    sNx)
    (sRet (eN (n1 oTuple) [(eInn (eN (n1 oSortSet) [(eB 3)]))])))))))
/-- unlike books of the heap -/
def InSt (st : List Str) (ps : List (Str × Str)) : Prop := ∀ p ∈ ps, p.1 ∈ st ∧ p.2 ∈ st ∧ p.1 ≠ p.2
theorem rot_mem {l : List Str} : ∀ p ∈ l.zip (l.drop 1 ++ l.take 1), p.1 ∈ l ∧ p.2 ∈ l := fun p hp => by
  obtain ⟨h1, h2⟩ := List.of_mem_zip (a := p.1) (b := p.2) hp
  refine ⟨h1, ?_⟩
  rcases List.mem_append.mp h2 with h | h
  · exact List.mem_of_mem_drop h
  · exact List.mem_of_mem_take h
section
variable {L n t : Nat} {st : List Str}
theorem odds {r : Env} {k : Int} (hr : r[2]? = some (.sh (.int k))) (k0 : 0 ≤ k) (k7 : k < 7) : ∃ o : Nat, o ≤ 6 ∧ eSh (eIx (eInn (eLst [(eC (.int 0)), (eC (.int 6)), (eC (.int 3)), (eC (.int 2)), (eC (.int 4)), (eC (.int 6)), (eC (.int 4))])) (eB 2)) r = ret (.int o) := by
  have e1 : ∀ d : D, oIx (.lst true [.int 0, .int 6, .int 3, .int 2, .int 4, .int 6, .int 4]) (.int k) = some d → eSh (eIx (eInn (eLst [(eC (.int 0)), (eC (.int 6)), (eC (.int 3)), (eC (.int 2)), (eC (.int 4)), (eC (.int 6)), (eC (.int 4))])) (eB 2)) r = ret (share d) := fun d e => q_sh (q_ix (x := .lst true [.int 0, .int 6, .int 3, .int 2, .int 4, .int 6, .int 4]) (y := .int k) (by simp) (by simp [hr]) (fun n e => by cases e) e)
  have : k = 0 ∨ k = 1 ∨ k = 2 ∨ k = 3 ∨ k = 4 ∨ k = 5 ∨ k = 6 := by omega
  rcases this with rfl | rfl | rfl | rfl | rfl | rfl | rfl
  · exact ⟨0, by decide, by rw [e1 _ rfl]; simp⟩
  · exact ⟨6, by decide, by rw [e1 _ rfl]; simp⟩
  · exact ⟨3, by decide, by rw [e1 _ rfl]; simp⟩
  · exact ⟨2, by decide, by rw [e1 _ rfl]; simp⟩
  · exact ⟨4, by decide, by rw [e1 _ rfl]; simp⟩
  · exact ⟨6, by decide, by rw [e1 _ rfl]; simp⟩
  · exact ⟨4, by decide, by rw [e1 _ rfl]; simp⟩
theorem InSt.app {ps qs : List (Str × Str)} (h : InSt st ps) (h' : InSt st qs) : InSt st (ps ++ qs) := fun p hp => (List.mem_append.mp hp).elim (h p) (h' p)
theorem ties_wp {R : D → Nat → Prop} (hn : n < L) (hl : st.length ≤ 12) (ht : t + 400 < 1099511627776) (h : ∀ ps : List (Str × Str), RisP ps → InSt st ps → ps.length < 300 → R (.tup (ps.map pr2)) (t + 300)) : Wp L (pTies [.box n, .tup (st.map D.str)]) t R := by
  have szl := PySem.sizeLine_eq
  have hs : (sortT st).Perm st := List.mergeSort_perm ..
  have es := oSort_strs (.tup (st.map D.str)) st rfl
  generalize sortT st = ws at hs es
  have wl : ws.length ≤ 12 := by rw [hs.length_eq]; exact hl
  refine .up (runFn_wp ?_)
  refine sSeq_wp (.bnd (evs_cons_wp (eSh_wp (take_call (bd := 7) rfl rfl hn (by decide) (by decide) (by omega) fun k k0 k7 => ?_))))
  refine evs_cons_wp (.of (a := .lst false []) (by simp) (evs_cons_wp (.of (a := .lst false (ws.map D.str)) (by simp [es]) (evs_nil_wp ?_))))
  refine .of (a := (.nx, [.sh (.box n), .sh (.tup (st.map D.str)), .sh (.int k), .sh (.lst false []), .sh (.lst false (ws.map D.str)), .no, .no, .no, .no])) (by simp) ⟨_, rfl, ?_⟩
  obtain ⟨o, o6, eo⟩ := odds (r := [.sh (.box n), .sh (.tup (st.map D.str)), .sh (.int k), .sh (.lst false []), .sh (.lst false (ws.map D.str)), .no, .no, .no, .no]) (k := k) rfl k0 k7
  refine sSeq_wp (sSet_wp (.of eo ⟨_, rfl, ?_⟩))
  have env : ∀ (P : Env → Prop), P = P := fun _ => rfl
  -- the two walks
  refine sSeq_wp (sFor_wp (itD_wp (.of (a := .lst false (ws.map D.str)) rfl ⟨_, rfl, ?_⟩)))
  refine (forGo_wp (fun rest r u => ∃ (ps : List (Str × Str)) (v6 v7 : Sl) (xs : List Str), rest = xs.map D.str ∧ (∀ x ∈ xs, x ∈ st) ∧ xs.length ≤ 12 ∧ r = [.sh (.box n), .sh (.tup (st.map D.str)), .sh (.int k), .sh (.lst false (ps.map pr2)), .sh (.lst false (ws.map D.str)), .sh (.int o), v6, v7, .no] ∧ InSt st ps ∧ ps.length + xs.length * 12 ≤ 144 ∧ u + xs.length * 12 ≤ t + 1 + 144) ?_ _ _ _ ⟨[], .no, .no, ws, rfl, fun x hx => hs.mem_iff.mp hx, wl, rfl, fun _ z => (nomatch z), by simp; omega, by omega⟩).mono ?_
  · rintro x rest r u ⟨ps, v6, v7, xs, ex, hx, hxl, rfl, hps, hpl, hu⟩
    cases xs with
    | nil => cases ex
    | cons y xs =>
      rw [List.map_cons] at ex
      injection ex with ex1 ex2
      subst ex1 ex2
      have hy : y ∈ st := hx y List.mem_cons_self
      rw [List.length_cons] at hpl hu hxl
      refine ⟨_, rfl, sFor_wp (itD_wp (.of (a := .lst false (ws.map D.str)) rfl ⟨_, rfl, ?_⟩))⟩
      refine (forGo_wp (fun rest r u => ∃ (ps : List (Str × Str)) (v7 : Sl) (zs : List Str), rest = zs.map D.str ∧ (∀ x ∈ zs, x ∈ st) ∧ r = [.sh (.box n), .sh (.tup (st.map D.str)), .sh (.int k), .sh (.lst false (ps.map pr2)), .sh (.lst false (ws.map D.str)), .sh (.int o), .sh (.str y), v7, .no] ∧ InSt st ps ∧ ps.length + zs.length + xs.length * 12 ≤ 144 ∧ u + zs.length + xs.length * 12 ≤ t + 1 + 144) ?_ _ _ _ ⟨ps, v7, ws, rfl, fun x hx => hs.mem_iff.mp hx, rfl, hps, by omega, by omega⟩).mono ?_
      · rintro x rest r u ⟨ps, v7, zs, ex, hz, rfl, hps, hpl, hu⟩
        cases zs with
        | nil => cases ex
        | cons z zs =>
          rw [List.map_cons] at ex
          injection ex with ex1 ex2
          subst ex1 ex2
          have hzs : z ∈ st := hz z List.mem_cons_self
          rw [List.length_cons] at hpl hu
          refine ⟨_, rfl, sIf_wp ?_⟩
          by_cases hc : y ≠ z ∧ 0 < o
          · refine .of (a := .bl true) (by simp [hc.1, hc.2]) (.inl ⟨rfl, ?_⟩)
            refine sSet_wp (eSh_wp (e2_wp (.of (a := .lst false (ps.map pr2)) (by simp) (eInn_wp (e2_wp (.of (a := .lst true [pr2 (y, z)]) (by simp) (eN_wp (evs_cons_wp (e2_wp (e2_wp (take_call (bd := (o : Int)) (by simp) (by simp) hn (by omega) (by omega) (by omega) fun q q0 q1 => .of (a := .int 0) rfl ⟨_, o23, .of (a := .bl (decide (k = 4))) (by simp) ⟨_, o28, evs_nil_wp ⟨_, o16, ?_⟩⟩⟩)))))))))))
            generalize hb : (decide (q = 0) != decide (k = 4)) = b
            have em : oMul (.lst true [pr2 (y, z)]) (.int (if b then 1 else 0)) = some (.lst true ((if b then [(y, z)] else []).map pr2)) := by cases b <;> rfl
            refine ⟨_, em, ?_⟩
            have ea : oAdd (.lst false (ps.map pr2)) (shareIn (.lst true ((if b then [(y, z)] else []).map pr2))) = some (.lst true ((ps ++ if b then [(y, z)] else []).map pr2)) := by
              rw [v_lst, w_pr2, add_lst (by cases b <;> simp <;> omega), List.map_append]
            refine ⟨_, ea, _, rfl, ps ++ (if b then [(y, z)] else []), .sh (.str z), zs, rfl, fun x hx => hz x (List.mem_cons_of_mem _ hx), by simp, hps.app ?_, ?_, by omega⟩
            · intro p hp
              cases b with
              | false => cases hp
              | true =>
                obtain rfl := List.mem_singleton.mp hp
                exact ⟨hy, hzs, hc.1⟩
            · cases b <;> simp <;> omega
          · refine .of (a := .bl false) ?_ (.inr ⟨rfl, .of (a := (.nx, _)) rfl ⟨_, rfl, ps, .sh (.str z), zs, rfl, fun x hx => hz x (List.mem_cons_of_mem _ hx), by simp, hps, by omega, by omega⟩⟩)
            by_cases e : y = z
            · simp [e]
            · have : o = 0 := by
                by_cases q : 0 < o
                · exact absurd ⟨e, q⟩ hc
                · omega
              simp [e, this]
      · rintro p u ⟨r2, rfl, ps, v7, zs, ez, _, rfl, hps, hpl, hu⟩
        exact ⟨_, rfl, ps, _, _, xs, rfl, fun x hx' => hx x (List.mem_cons_of_mem _ hx'), by omega, rfl, hps, by omega, by omega⟩
  · rintro p u ⟨r2, rfl, ps, v6, v7, xs, ex, _, _, rfl, hps, hpl, hu⟩
    refine ⟨_, rfl, ?_⟩
    clear ex
    have hpl' : ps.length ≤ 144 := by omega
    have hu' : u ≤ t + 145 := by omega
    clear hpl hu
    -- a ring through all
    refine sSeq_wp ((show Wp L _ u fun p u' => ∃ (ps : List (Str × Str)) (w6 w7 w8 : Sl), p = (Fl.nx, [Sl.sh (.box n), .sh (.tup (st.map D.str)), .sh (.int k), .sh (.lst false (ps.map pr2)), .sh (.lst false (ws.map D.str)), .sh (.int o), w6, w7, w8]) ∧ InSt st ps ∧ ps.length ≤ 156 ∧ (k = 6 → ps.length ≤ 144) ∧ u' ≤ t + 200 from ?_).mono ?_)
    · by_cases k5 : k = 5
      · subst k5
        refine sIf_wp (.of (a := .bl true) (by simp) (.inl ⟨rfl, ?_⟩))
        refine sSeq_wp (sSet_wp (eSh_wp (eCall_wp (evs_cons_wp (.of (a := .box n) rfl (evs_cons_wp (.of (a := .lst false (ws.map D.str)) rfl (evs_nil_wp ?_))))))))
        refine strewn_wp (xs := ws.map D.str) hn rfl (by rw [List.length_map]; omega) (stillL_strs _) (by rw [List.length_map]; omega) fun ys hp => ?_
        obtain ⟨vs, rfl, hv⟩ := perm_strs hp
        rw [w_lst, w_strs, List.length_map]
        have vl : vs.length ≤ 12 := by rw [hv.length_eq]; exact wl
        have c1 : oSl (some 1) none (.lst false (vs.map D.str)) = some (.lst true ((vs.drop 1).map D.str)) := by
          show some (D.lst true (cutL _ (some ((1 : Nat) : Int)) none)) = _
          rw [cutL_from, List.map_drop]
        have c2 : oSl none (some 1) (.lst false (vs.map D.str)) = some (.lst true ((vs.take 1).map D.str)) := by
          show some (D.lst true (cutL _ none (some ((1 : Nat) : Int)))) = _
          rw [cutL_to, List.map_take]
        have ea : oAdd (.lst true ((vs.drop 1).map D.str)) (.lst true ((vs.take 1).map D.str)) = some (.lst true ((vs.drop 1 ++ vs.take 1).map D.str)) := add_lsts (by rw [List.length_drop, List.length_take]; omega)
        have ee : oAdd (.lst false (ps.map pr2)) (.lst true (((vs.zip (vs.drop 1 ++ vs.take 1)).filter fun p => !decide (p.1 = p.2)).map pr2)) = some (.lst true ((ps ++ (vs.zip (vs.drop 1 ++ vs.take 1)).filter fun p => !decide (p.1 = p.2)).map pr2)) := by
          have lf := List.length_filter_le (fun p : Str × Str => !decide (p.1 = p.2)) (vs.zip (vs.drop 1 ++ vs.take 1))
          have lz : (vs.zip (vs.drop 1 ++ vs.take 1)).length ≤ 12 := by rw [List.length_zip]; omega
          rw [add_lst (by rw [List.length_map, List.length_map]; omega), List.map_append]
        have go := lc_if (tg := .two 6 7) (r := [.sh (.box n), .sh (.tup (st.map D.str)), .sh (.int 5), .sh (.lst false (ps.map pr2)), .sh (.lst false (ws.map D.str)), .sh (.int o), .no, .no, .sh (.lst false (vs.map D.str))]) (c := e2 oNe (eB 6) (eB 7)) (e := eTup [eV 6, eV 7]) (g := pr2)
          (fun p => [.sh (.box n), .sh (.tup (st.map D.str)), .sh (.int 5), .sh (.lst false (ps.map pr2)), .sh (.lst false (ws.map D.str)), .sh (.int o), .sh (.str p.1), .sh (.str p.2), .sh (.lst false (vs.map D.str))]) (fun p => !decide (p.1 = p.2)) pr2 (vs.zip (vs.drop 1 ++ vs.take 1)) [] (fun p _ => ⟨rfl, by simp, fun _ => by simp⟩) (by rw [List.length_nil, List.length_zip]; omega)
        have ez := itZip_strs (d := .lst false (vs.map D.str)) (e := .lst false ((vs.drop 1 ++ vs.take 1).map D.str)) (.inr ⟨_, rfl⟩) (.inr ⟨_, rfl⟩)
        refine ⟨_, rfl, sSet_wp (.of (a := .lst false ((ps ++ (vs.zip (vs.drop 1 ++ vs.take 1)).filter fun p => !decide (p.1 = p.2)).map pr2)) ?_ ⟨ps ++ (vs.zip (vs.drop 1 ++ vs.take 1)).filter (fun p => !decide (p.1 = p.2)), v6, v7, _, rfl, hps.app fun p hp => ?_, ?_, fun z => absurd z (by decide), by omega⟩)⟩
        · walk_at "z"
          rw [c1]
          walk_at "z"
          rw [c2]
          walk_at "z"
          rw [ea]
          walk_at "z"
          rw [ez]
          walk_at "z"
          rw [go]
          walk_at "z"
          rw [ee]
          walk_at "z"
        · obtain ⟨h1, h2⟩ := List.mem_filter.mp hp
          obtain ⟨h3, h4⟩ := rot_mem p h1
          exact ⟨hs.mem_iff.mp (hv.mem_iff.mp h3), hs.mem_iff.mp (hv.mem_iff.mp h4), by simpa using h2⟩
        · have lf := List.length_filter_le (fun p : Str × Str => !decide (p.1 = p.2)) (vs.zip (vs.drop 1 ++ vs.take 1))
          have lz : (vs.zip (vs.drop 1 ++ vs.take 1)).length ≤ 12 := by rw [List.length_zip]; omega
          rw [List.length_append]
          omega
      · exact sIf_wp (.of (a := .bl false) (by simp [k5]) (.inr ⟨rfl, .of (a := (.nx, _)) rfl ⟨ps, v6, v7, _, rfl, hps, by omega, fun _ => hpl', by omega⟩⟩))
    · rintro p u' ⟨ps, w6, w7, w8, rfl, hps, hpl, hp6, hu⟩
      refine ⟨_, rfl, ?_⟩
      refine sSeq_wp ((show Wp L _ u' fun p u2 => ∃ (qs : List (Str × Str)) (r2 : Env), p = (Fl.nx, Sl.sh (.box n) :: .sh (.tup (st.map D.str)) :: .sh (.int k) :: .sh (.lst false (qs.map pr2)) :: r2) ∧ InSt st qs ∧ qs.length < 300 ∧ u2 ≤ t + 200 from ?_).mono ?_)
      · by_cases k6 : k = 6
        · subst k6
          have go := lc_all (tg := .two 6 7) (r := [.sh (.box n), .sh (.tup (st.map D.str)), .sh (.int 6), .sh (.lst false (ps.map pr2)), .sh (.lst false (ws.map D.str)), .sh (.int o), .no, .no, w8]) (e := eTup [eV 7, eV 6]) (g := pr2)
            (fun p => [.sh (.box n), .sh (.tup (st.map D.str)), .sh (.int 6), .sh (.lst false (ps.map pr2)), .sh (.lst false (ws.map D.str)), .sh (.int o), .sh (.str p.1), .sh (.str p.2), w8]) (fun p => pr2 (p.2, p.1)) ps [] (fun p _ => ⟨rfl, by simp⟩) (by rw [List.length_nil]; omega)
          have em : (ps.map fun p => pr2 (p.2, p.1)) = (ps.map Prod.swap).map pr2 := by rw [List.map_map]; rfl
          have ee : oAdd (.lst false (ps.map pr2)) (.lst true ((ps.map Prod.swap).map pr2)) = some (.lst true ((ps ++ ps.map Prod.swap).map pr2)) := by
            rw [add_lst (by simp; omega), List.map_append]
          refine sIf_wp (.of (a := .bl true) (by simp) (.inl ⟨rfl, sSet_wp (.of (a := .lst false ((ps ++ ps.map Prod.swap).map pr2)) ?_ ⟨_, _, rfl, hps.app fun p hp => ?_, ?_, by omega⟩)⟩))
          · walk_at "z"
            rw [go, List.nil_append, em]
            walk_at "z"
            rw [ee]
            walk_at "z"
          · obtain ⟨q, hq, rfl⟩ := List.mem_map.mp hp
            obtain ⟨h1, h2, h3⟩ := hps q hq
            exact ⟨h2, h1, fun e => h3 e.symm⟩
          · have := hp6 rfl
            rw [List.length_append, List.length_map]; omega
        · exact sIf_wp (.of (a := .bl false) (by simp [k6]) (.inr ⟨rfl, .of (a := (.nx, _)) rfl ⟨ps, _, rfl, hps, by omega, by omega⟩⟩))
      · rintro p u2 ⟨qs, r2, rfl, hqs, hql, hu2⟩
        obtain ⟨zs, ez, rz, mz⟩ := oSortSet_pr2 (o := false) hql
        have zl : zs.length ≤ qs.length := by
          have sub : zs ⊆ qs := fun p hp => (mz p).mp hp
          exact rz.nodup.length_le_of_subset sub
        exact ⟨_, rfl, sRet_wp (.of (a := .tup (zs.map pr2)) (by simp [ez]) ⟨_, _, rfl, t + 300, by omega, h zs rz (fun p hp => hqs p ((mz p).mp hp)) (by omega)⟩)⟩
end
end HF

/-! HF: the plain side: repr of anything simple. -/
namespace HF
open PySem (Str PyData sizeLine)
open PySem.PyData
/-- simple things within, at most so deep -/
def lfOk : Nat → D → Bool
  | _, .non => true
  | _, .bl _ => true
  | _, .int z => decide ((shown (.int z)).length ≤ 13) && decide (z.natAbs.log2 < 1920)
  | _, .str x => strOk x
  | n + 1, .lst _ xs => xs.all (lfOk n)
  | n + 1, .tup xs => xs.all (lfOk n)
  | _, _ => false
abbrev wt (d : D) : Nat := weight (toPD d)
structure Lf (n : Nat) (d : D) : Prop where
  lay : canLay0 (toPD d) = true
  dep : depth (toPD d) ≤ n
  int : intsShort 13 (toPD d) = true
  sho : showable (toPD d) = true
  pla : plainD n d = true
theorem lf_all {n : Nat} : ∀ {xs : List D}, (∀ x ∈ xs, Lf n x) → canLayAll0 (toPDL xs) = true ∧ depthAll (toPDL xs) ≤ n ∧ intsShortAll 13 (toPDL xs) = true ∧ showableAll (toPDL xs) = true ∧ xs.all (plainD n) = true
  | [], _ => ⟨rfl, Nat.zero_le _, rfl, rfl, rfl⟩
  | x :: xs, h => by
    obtain ⟨a, b, c, d, e⟩ := lf_all fun y hy => h y (List.mem_cons_of_mem _ hy)
    have q := h x List.mem_cons_self
    unfold toPDL
    refine ⟨?_, ?_, ?_, ?_, ?_⟩
    · unfold canLayAll0; rw [q.lay, a]; rfl
    · unfold depthAll; exact Nat.max_le.mpr ⟨q.dep, b⟩
    · unfold intsShortAll; rw [q.int, c]; rfl
    · unfold showableAll; rw [q.sho, d]; rfl
    · rw [List.all_cons, q.pla, e]; rfl
theorem lf_of : ∀ (n : Nat) (d : D), lfOk n d = true → Lf n d
  | n, .non, _ => ⟨rfl, Nat.zero_le _, rfl, rfl, by cases n <;> rfl⟩
  | n, .bl _, _ => ⟨rfl, Nat.zero_le _, rfl, rfl, by cases n <;> rfl⟩
  | n, .int z, h => by
    have h' : (decide ((shown (.int z)).length ≤ 13) && decide (z.natAbs.log2 < 1920)) = true := by cases n <;> exact h
    rw [Bool.and_eq_true] at h'
    exact ⟨rfl, Nat.zero_le _, h'.1, h'.2, by cases n <;> rfl⟩
  | n, .str x, h => ⟨by cases n <;> exact h, Nat.zero_le _, rfl, rfl, by cases n <;> rfl⟩
  | n + 1, .lst o xs, h => by
    have h' : xs.all (lfOk n) = true := h
    rw [List.all_eq_true] at h'
    obtain ⟨a, b, c, d, e⟩ := lf_all fun x hx => lf_of n x (h' x hx)
    have q : toPD (.lst o xs) = .list (toPDL xs) := by rw [toPD]
    refine ⟨?_, ?_, ?_, ?_, e⟩
    · rw [q]; unfold canLay0; exact a
    · rw [q]; unfold depth; omega
    · rw [q]; unfold intsShort; exact c
    · rw [q]; unfold showable; exact d
  | n + 1, .tup xs, h => by
    have h' : xs.all (lfOk n) = true := h
    rw [List.all_eq_true] at h'
    obtain ⟨a, b, c, d, e⟩ := lf_all fun x hx => lf_of n x (h' x hx)
    have q : toPD (.tup xs) = .tuple (toPDL xs) := by rw [toPD]
    refine ⟨?_, ?_, ?_, ?_, e⟩
    · rw [q]; unfold canLay0; exact a
    · rw [q]; unfold depth; omega
    · rw [q]; unfold intsShort; exact c
    · rw [q]; unfold showable; exact d
  | 0, .lst _ _, h => by cases h
  | 0, .tup _, h => by cases h
  | 0, .dct _ _, h => by cases h
  | 0, .box _, h => by cases h
  | 0, .scr _, h => by cases h
  | _ + 1, .dct _ _, h => by cases h
  | _ + 1, .box _, h => by cases h
  | _ + 1, .scr _, h => by cases h
theorem oShow_ok {d : D} {xs : List D} (hi : itemsD d = some xs) (h : lfOk 40 d = true) (w : wt d ≤ 1048576) : ∃ z : Str, oShow d = some (.str z) := by
  have q := lf_of 40 d h
  have ly : layable0 (toPD d) = true := by
    unfold layable0
    rw [q.lay, decide_eq_true (show depth (toPD d) ≤ 64 from Nat.le_trans q.dep (by decide)), decide_eq_true (show weight (toPD d) ≤ 2 ^ 20 from w)]
    rfl
  have fit := shown_fits_of_layable0 (B := 13) (by decide) (by decide) ly q.int
  refine ⟨(toPD d).shown, ?_⟩
  unfold oShow
  rw [hi]
  dsimp only
  rw [if_pos]
  rw [q.pla, q.sho, decide_eq_true fit, strOk_shown _ q.lay]
  rfl
theorem oEq_refl {d : D} (h : lfOk 40 d = true) : oEq d d = some (.bl true) := by
  have q := lf_of 40 d h
  have e : eqvD d d = true := PySem.SeqAt.eqv_refl _ q.lay
  unfold oEq
  rw [q.pla, e]; rfl
/-! how long -/
@[simp] theorem wt_lst {o : Bool} {xs : List D} : wt (.lst o xs) = weightAll (toPDL xs) := by unfold wt; rw [toPD, weight]
@[simp] theorem wt_tup {xs : List D} : wt (.tup xs) = weightAll (toPDL xs) := by unfold wt; rw [toPD, weight]
@[simp] theorem wt_nil : weightAll (toPDL []) = 0 := by rw [toPDL, weightAll]
@[simp] theorem wt_cons {x : D} {xs : List D} : weightAll (toPDL (x :: xs)) = wt x + 1 + weightAll (toPDL xs) := by rw [toPDL, weightAll]
@[simp] theorem wt_str {x : Str} : wt (.str x) = x.length := by unfold wt; rw [toPD, weight]; rfl
theorem wt_map {α : Type} {g : α → D} {c : Nat} : ∀ {xs : List α}, (∀ x ∈ xs, wt (g x) ≤ c) → weightAll (toPDL (xs.map g)) ≤ xs.length * (c + 1)
  | [], _ => by simp
  | x :: xs, h => by
    have := wt_map (g := g) fun y hy => h y (List.mem_cons_of_mem _ hy)
    have h1 := h x List.mem_cons_self
    rw [List.map_cons, wt_cons, List.length_cons, Nat.succ_mul]
    omega
theorem wt_strs {ys : List Str} (h : Nms ys) : weightAll (toPDL (ys.map D.str)) ≤ ys.length * 7 := wt_map fun y hy => by rw [wt_str]; exact (h y hy).len
/-- names of the heap's -/
abbrev NmP (ps : List (Str × Str)) : Prop := ∀ p ∈ ps, NameOk p.1 ∧ NameOk p.2
theorem InSt.nm {st : List Str} {ps : List (Str × Str)} (h : InSt st ps) (n : Nms st) : NmP ps := fun p hp => ⟨n _ (h p hp).1, n _ (h p hp).2.1⟩
theorem wt_pr2 {ps : List (Str × Str)} (h : NmP ps) : weightAll (toPDL (ps.map pr2)) ≤ ps.length * 15 := wt_map fun p hp => by
  have h1 := (h p hp).1.len
  have h2 := (h p hp).2.len
  simp
  omega
theorem lf_strs {n : Nat} {ys : List Str} (h : Nms ys) : (ys.map D.str).all (lfOk n) = true := by
  rw [List.all_map, List.all_eq_true]
  intro y hy
  show lfOk n (.str y) = true
  have := (h y hy).strOk
  cases n <;> exact this
theorem lf_pr2 {n : Nat} {ps : List (Str × Str)} (h : NmP ps) : (ps.map pr2).all (lfOk (n + 1)) = true := by
  rw [List.all_map, List.all_eq_true]
  intro p hp
  show [D.str p.1, D.str p.2].all (lfOk n) = true
  have h1 := (h p hp).1.strOk
  have h2 := (h p hp).2.strOk
  have e1 : lfOk n (.str p.1) = true := by cases n <;> exact h1
  have e2 : lfOk n (.str p.2) = true := by cases n <;> exact h2
  rw [List.all_cons, List.all_cons, e1, e2]; rfl
@[simp] theorem lf_lst {n : Nat} {o : Bool} {xs : List D} : lfOk (n + 1) (.lst o xs) = xs.all (lfOk n) := rfl
@[simp] theorem lf_tup {n : Nat} {xs : List D} : lfOk (n + 1) (.tup xs) = xs.all (lfOk n) := rfl
/-- repr([heap, ties]) -/
theorem show_hp {o : Bool} {st : List Str} {ps : List (Str × Str)} (h : Nms st) (h2 : NmP ps) (l1 : st.length ≤ 1000) (l2 : ps.length ≤ 1000) : ∃ z : Str, oShow (.lst o [.tup (st.map D.str), .tup (ps.map pr2)]) = some (.str z) := by
  refine oShow_ok rfl ?_ ?_
  · rw [lf_lst, List.all_cons, List.all_cons, lf_tup, lf_tup, lf_strs h, lf_pr2 h2]; rfl
  · have a := wt_strs h
    have b := wt_pr2 h2
    simp only [wt_lst, wt_cons, wt_tup, wt_nil]
    omega
end HF

/-! HF: the plain side: friends, fans, who lies above; lists for tuples; walks that only reckon. -/
namespace HF
open PySem (Str PyData sizeLine)
local macro_rules | `(tactic| walk_at "z") => `(tactic| simp only [z_bnd, z_fail, z_some, z_none, z_V, z_B, z_I, z_C, z_Inn, z_Sh, z_1, z_2, z_nil, z_cons, z_N, z_And, z_Or, z_Ite, z_Chain, z_Call, z_CallS, z_CallK, z_Tup, z_Lst, z_pick0, z_pick, z_itD, z_itN, z_n1, z_n2, z_l1, z_l2, z_Lc, z_wipe0, z_wipe, z_b1, z_b2, z_b3, z_part0, z_part, z_Sl, z_seq, z_nx, z_sFail, z_set, z_setO, z_ret, z_retV, z_retN, z_if, z_pre, z_gives0, z_gives, z_give, z_mut, z_mutAt, z_par, z_unp, z_parN, z_unpN, z_putSs0, z_putSs, z_putO, z_putS, z_for, z_rep0, w_lst, w_tup, w_dct, w_non, w_bl, w_int, w_str, w_box, w_scr, w_nil, w_cons, w_app, v_lst, v_dct, v_tup, v_non, v_bl, v_int, v_str, v_box, w_strs, w_pr2, w_ls2, u_lst, u_tup, u_int, u_str, u_bl, u_non, u_nil, u_cons, u_strs, u_pr2, u_ls2, ui_lst, ui_tup, ui_int, ui_str, ui_bl, o1, o2, o3, o4, o5, o6, o7, o8, o9, o10, o11, o12, o13, o14, o15, o16, o17, o18, o19, o20, o21, o22, o23, o24, o25, o26, o27, o28, o31, o32, o35, i_str_0, i_str_1, i_str_2, i_str_3, i_str_4, i_str_5, i_str_6, i_int_0, i_int_1, i_int_2, i_int_3, i_int_4, i_int_5, i_int_6, i_bl_0, i_bl_1, i_bl_2, i_bl_3, i_bl_4, i_bl_5, i_bl_6, i_non_0, i_non_1, i_non_2, i_non_3, i_non_4, i_non_5, i_non_6, i_lst_0, i_lst_1, i_lst_2, i_lst_3, i_lst_4, i_lst_5, i_lst_6, i_tup_0, i_tup_1, i_tup_2, i_tup_3, i_tup_4, i_tup_5, i_tup_6, dec_lt, dec_le, dec_eq, isN_non, isN_str, isN_int, isN_bl, isN_lst, isN_tup, sc_bl, sc_int, sc_str, sc_non, oAll_map, oAny_map, List.getElem?_cons_succ, List.getElem?_cons_zero, List.set_cons_succ, List.set_cons_zero, List.map_cons, List.map_nil, List.cons_append, List.nil_append, List.replicate_succ, Option.bind_some, if_true, if_false, Bool.not_true, Bool.not_false, Bool.and_true, Bool.true_and, Bool.and_false, Bool.false_and, Bool.or_true, Bool.true_or, Bool.or_false, Bool.false_or, decide_true, decide_false, reduceIte])
local macro_rules | `(tactic| walk_at "zs") => `(tactic| simp only [*, z_bnd, z_fail, z_some, z_none, z_V, z_B, z_I, z_C, z_Inn, z_Sh, z_1, z_2, z_nil, z_cons, z_N, z_And, z_Or, z_Ite, z_Chain, z_Call, z_CallS, z_CallK, z_Tup, z_Lst, z_pick0, z_pick, z_itD, z_itN, z_n1, z_n2, z_l1, z_l2, z_Lc, z_wipe0, z_wipe, z_b1, z_b2, z_b3, z_part0, z_part, z_Sl, z_seq, z_nx, z_sFail, z_set, z_setO, z_ret, z_retV, z_retN, z_if, z_pre, z_gives0, z_gives, z_give, z_mut, z_mutAt, z_par, z_unp, z_parN, z_unpN, z_putSs0, z_putSs, z_putO, z_putS, z_for, z_rep0, w_lst, w_tup, w_dct, w_non, w_bl, w_int, w_str, w_box, w_scr, w_nil, w_cons, w_app, v_lst, v_dct, v_tup, v_non, v_bl, v_int, v_str, v_box, w_strs, w_pr2, w_ls2, u_lst, u_tup, u_int, u_str, u_bl, u_non, u_nil, u_cons, u_strs, u_pr2, u_ls2, ui_lst, ui_tup, ui_int, ui_str, ui_bl, o1, o2, o3, o4, o5, o6, o7, o8, o9, o10, o11, o12, o13, o14, o15, o16, o17, o18, o19, o20, o21, o22, o23, o24, o25, o26, o27, o28, o31, o32, o35, i_str_0, i_str_1, i_str_2, i_str_3, i_str_4, i_str_5, i_str_6, i_int_0, i_int_1, i_int_2, i_int_3, i_int_4, i_int_5, i_int_6, i_bl_0, i_bl_1, i_bl_2, i_bl_3, i_bl_4, i_bl_5, i_bl_6, i_non_0, i_non_1, i_non_2, i_non_3, i_non_4, i_non_5, i_non_6, i_lst_0, i_lst_1, i_lst_2, i_lst_3, i_lst_4, i_lst_5, i_lst_6, i_tup_0, i_tup_1, i_tup_2, i_tup_3, i_tup_4, i_tup_5, i_tup_6, dec_lt, dec_le, dec_eq, isN_non, isN_str, isN_int, isN_bl, isN_lst, isN_tup, sc_bl, sc_int, sc_str, sc_non, oAll_map, oAny_map, List.getElem?_cons_succ, List.getElem?_cons_zero, List.set_cons_succ, List.set_cons_zero, List.map_cons, List.map_nil, List.cons_append, List.nil_append, List.replicate_succ, Option.bind_some, if_true, if_false, Bool.not_true, Bool.not_false, Bool.and_true, Bool.true_and, Bool.and_false, Bool.false_and, Bool.or_true, Bool.true_or, Bool.or_false, Bool.false_or, decide_true, decide_false, reduceIte])
theorem forGo_pure {tg : Tg} {body : Sv} (I : Env → Prop) : ∀ (xs : List D), (∀ x ∈ xs, ∀ r, I r → ∃ r1 r2, bindT tg x r = some r1 ∧ body r1 = ret (.nx, r2) ∧ I r2) → ∀ r, I r → ∃ r2, forGo tg body xs r = ret (.nx, r2) ∧ I r2
  | [], _, r, h => ⟨r, rfl, h⟩
  | x :: xs, hs, r, h => by
    obtain ⟨r1, r2, e1, e2, h2⟩ := hs x List.mem_cons_self r h
    obtain ⟨r3, e3, h3⟩ := forGo_pure I xs (fun y hy => hs y (List.mem_cons_of_mem _ hy)) r2 h2
    refine ⟨r3, ?_, h3⟩
    unfold forGo
    rw [e1]
    dsimp only
    rw [e2, bnd_ret]
    exact e3
theorem enum_strs (st : List Str) : itEnumD (.tup (st.map D.str)) = some (st.zipIdx.map fun p => D.tup [.int p.2, .str p.1]) := by
  rw [o34, List.zipIdx_map, List.map_map]
  rfl
theorem mem_enum {st : List Str} {p : Str × Nat} (h : p ∈ st.zipIdx) : st[p.2]? = some p.1 := by
  have := List.mem_zipIdx h
  simp at this
  obtain ⟨h1, h2⟩ := this
  rw [List.getElem?_eq_getElem h1, h2]
theorem first_pos : ∀ {st : List Str} {i : Nat}, st.Nodup → (hi : i < st.length) → pos st st[i] = i
  | x :: st, 0, _, _ => pos_self x st
  | x :: st, i + 1, nd, hi => by
    obtain ⟨n1, n2⟩ := List.nodup_cons.mp nd
    have hi' : i < st.length := by simpa using hi
    have hm : st[i] ∈ st := List.getElem_mem hi'
    rw [List.getElem_cons_succ, pos_next (fun e => n1 (by rw [e]; exact hm)) hm, first_pos n2 hi']
theorem pos_at {st : List Str} (nd : st.Nodup) {i : Nat} {x : Str} (h : st[i]? = some x) : pos st x = i := by
  obtain ⟨hi, rfl⟩ := List.getElem?_eq_some_iff.mp h
  exact (first_pos nd hi)
theorem so_strs {n : Nat} (ys : List Str) : (ys.map D.str).all (sameOk (n + 1)) = true := by
  rw [List.all_map, List.all_eq_true]
  exact fun _ _ => rfl
/-! friends, fans -/
/-- the pairs as they are handed in -/
def Prs (d : D) (ps : List (Str × Str)) : Prop := ∃ g : Str × Str → D, (itSeq d = some (ps.map g)) ∧ ∀ p r i j, bindT (.two i j) (g p) r = some ((r.set i (.sh (.str p.1))).set j (.sh (.str p.2)))
theorem Prs.tup (ps : List (Str × Str)) : Prs (.tup (ps.map pr2)) ps := ⟨pr2, rfl, fun _ _ _ _ => rfl⟩
theorem Prs.lst (o : Bool) (ps : List (Str × Str)) : Prs (.lst o (ps.map pr2)) ps := ⟨pr2, rfl, fun _ _ _ _ => rfl⟩
theorem Prs.ls2 (o : Bool) (ps : List (Str × Str)) : Prs (.lst o (ps.map HF.ls2)) ps := ⟨HF.ls2, rfl, fun _ _ _ _ => rfl⟩
def frs (ps : List (Str × Str)) (b : Str) : List Str := sortT ((ps.filter fun p => decide (p.1 = b)).map (·.2))
def fans (ps : List (Str × Str)) (b : Str) : List Str := sortT ((ps.filter fun p => decide (p.2 = b)).map (·.1))
def pFriendsOf : Fn := runFn 2
    (sRet (eN (n1 oSort) [(eLc [2, 3] (.two 2 3) (itD itSeq (eV 0)) (some (e2 oEq (eB 2) (eB 1))) (eV 3))]))
def pFansOf : Fn := runFn 2
    (sRet (eN (n1 oSort) [(eLc [2, 3] (.two 2 3) (itD itSeq (eV 0)) (some (e2 oEq (eB 3) (eB 1))) (eV 2))]))
theorem friends_of {d : D} {ps : List (Str × Str)} (h : Prs d ps) (b : Str) (hl : ps.length ≤ 100000) : pFriendsOf [d, .str b] = ret (.lst true ((frs ps b).map D.str)) := by
  obtain ⟨g, e1, hb⟩ := h
  have go := lc_if (tg := .two 2 3) (r := [.sh d, .sh (.str b), .no, .no]) (c := e2 oEq (eB 2) (eB 1)) (e := eV 3) (g := g) (fun p => [.sh d, .sh (.str b), .sh (.str p.1), .sh (.str p.2)]) (fun p => decide (p.1 = b)) (fun p => .str p.2) ps [] (fun p _ => ⟨hb p _ _ _, by walk_at "z", fun _ => by walk_at "z"⟩) (by rw [List.length_nil]; omega)
  have eo := oSort_strs (.lst true ((ps.filter fun p => decide (p.1 = b)).map fun p => D.str p.2)) ((ps.filter fun p => decide (p.1 = b)).map (·.2)) (by rw [List.map_map]; rfl)
  unfold pFriendsOf
  rw [z_fn]
  walk_at "z"
  rw [e1]
  walk_at "z"
  rw [go]
  walk_at "z"
  rw [eo]
  walk_at "z"
  rfl
theorem fans_of {d : D} {ps : List (Str × Str)} (h : Prs d ps) (b : Str) (hl : ps.length ≤ 100000) : pFansOf [d, .str b] = ret (.lst true ((fans ps b).map D.str)) := by
  obtain ⟨g, e1, hb⟩ := h
  have go := lc_if (tg := .two 2 3) (r := [.sh d, .sh (.str b), .no, .no]) (c := e2 oEq (eB 3) (eB 1)) (e := eV 2) (g := g) (fun p => [.sh d, .sh (.str b), .sh (.str p.1), .sh (.str p.2)]) (fun p => decide (p.2 = b)) (fun p => .str p.1) ps [] (fun p _ => ⟨hb p _ _ _, by walk_at "z", fun _ => by walk_at "z"⟩) (by rw [List.length_nil]; omega)
  have eo := oSort_strs (.lst true ((ps.filter fun p => decide (p.2 = b)).map fun p => D.str p.1)) ((ps.filter fun p => decide (p.2 = b)).map (·.1)) (by rw [List.map_map]; rfl)
  unfold pFansOf
  rw [z_fn]
  walk_at "z"
  rw [e1]
  walk_at "z"
  rw [go]
  walk_at "z"
  rw [eo]
  walk_at "z"
  rfl
theorem firstIx_strs (a : Str) : ∀ ys : List Str, firstIx (fun y => eqvD y (.str a)) (ys.map D.str) = firstIxS a ys
  | [] => rfl
  | y :: ys => by
    rw [List.map_cons]
    unfold firstIx firstIxS
    rw [eqv_str, firstIx_strs a ys]
    by_cases e : y = a
    · rw [if_pos e, if_pos (by simp [e])]
    · rw [if_neg e, if_neg (by simp [e])]
theorem oIndex_lst {o : Bool} {st : List Str} {y : Str} (h : y ∈ st) : oIndex (.lst o (st.map D.str)) (.str y) = some (.int (pos st y)) := by
  have e := oIndex_tup h
  unfold oIndex at e ⊢
  dsimp only at e ⊢
  rw [strsOf_map] at e
  rw [firstIx_strs, plain_strs]
  exact e
def pLiesAbove : Fn := runFn 0
    (sRet (e2 oLt (e2 oIndex (eN (n1 oList) [(eI 0)]) (eB 1)) (e2 oIndex (eN (n1 oList) [(eI 0)]) (eB 2))))
theorem lies_above {d : D} {st : List Str} (h : Sq d st) {a b : Str} (ha : a ∈ st) (hb : b ∈ st) : pLiesAbove [d, .str a, .str b] = ret (.bl (decide (pos st a < pos st b))) := by
  have e1 := h.list
  have e2 := oIndex_lst (o := true) ha
  have e3 := oIndex_lst (o := true) hb
  unfold pLiesAbove
  rw [z_fn]
  walk_at "zs"
/-! lists for tuples -/
def pListedB (fn : Fn) : Sv :=
    (sRet (eIte (e1 (oIsi [.tlist, .ttuple]) (eB 0)) (eLc [1] (.one 1) (itD itSeq (eV 0)) none (eCall fn [(eV 1)])) (eV 0)))
def pListed : Nat → Fn
  | 0 => fun _ => fail
  | m + 1 => runFn 1 (pListedB (pListed m))
theorem listed_str (m : Nat) (x : Str) : pListed (m + 1) [.str x] = ret (.str x) := rfl
theorem listed_tup {α : Type} {m : Nat} {g F : α → D} {xs : List α} (h : ∀ x ∈ xs, pListed m [g x] = ret (F x)) (hl : xs.length ≤ 100000) : pListed (m + 1) [.tup (xs.map g)] = ret (.lst true (xs.map F)) := by
  have go := lc_all (tg := .one 1) (r := [.sh (.tup (xs.map g)), .no]) (e := eCall (pListed m) [eV 1]) (g := g) (fun x => [.sh (.tup (xs.map g)), .sh (g x)]) F xs [] (fun x hx => ⟨rfl, h x hx⟩) (by rw [List.length_nil]; omega)
  rw [List.nil_append] at go
  exact q_fn (q_ret (by
    unfold eIte
    rw [q_1 (f := eB 0) (x := .tup (xs.map g)) rfl (z := .bl true) rfl, bnd_ret]
    exact q_lc (q_itD rfl rfl) go))
theorem listed_pr2 {m : Nat} {ps : List (Str × Str)} (hl : ps.length ≤ 100000) : pListed (m + 3) [.tup (ps.map pr2)] = ret (.lst true (ps.map fun p => .lst true [.str p.1, .str p.2])) :=
  listed_tup (fun p _ => listed_tup (α := Str) (g := D.str) (F := D.str) (xs := [p.1, p.2]) (fun x _ => listed_str m x) (by show 2 ≤ 100000; decide)) hl
theorem w_listed {ps : List (Str × Str)} : share (.lst true (ps.map fun p => .lst true [.str p.1, .str p.2])) = .lst false (ps.map ls2) := by
  rw [w_lst, shareL_eq, List.map_map]
  refine congrArg _ (List.map_congr_left fun p _ => ?_)
  simp only [Function.comp, w_lst, w_cons, w_str, w_nil]
end HF

/-! HF: the plain side: who may go, goings, rows. -/
namespace HF
open PySem (Str PyData sizeLine)
local macro_rules | `(tactic| walk_at "z") => `(tactic| simp only [z_bnd, z_fail, z_some, z_none, z_V, z_B, z_I, z_C, z_Inn, z_Sh, z_1, z_2, z_nil, z_cons, z_N, z_And, z_Or, z_Ite, z_Chain, z_Call, z_CallS, z_CallK, z_Tup, z_Lst, z_pick0, z_pick, z_itD, z_itN, z_n1, z_n2, z_l1, z_l2, z_Lc, z_wipe0, z_wipe, z_b1, z_b2, z_b3, z_part0, z_part, z_Sl, z_seq, z_nx, z_sFail, z_set, z_setO, z_ret, z_retV, z_retN, z_if, z_pre, z_gives0, z_gives, z_give, z_mut, z_mutAt, z_par, z_unp, z_parN, z_unpN, z_putSs0, z_putSs, z_putO, z_putS, z_for, z_rep0, w_lst, w_tup, w_dct, w_non, w_bl, w_int, w_str, w_box, w_scr, w_nil, w_cons, w_app, v_lst, v_dct, v_tup, v_non, v_bl, v_int, v_str, v_box, w_strs, w_pr2, w_ls2, u_lst, u_tup, u_int, u_str, u_bl, u_non, u_nil, u_cons, u_strs, u_pr2, u_ls2, ui_lst, ui_tup, ui_int, ui_str, ui_bl, o1, o2, o3, o4, o5, o6, o7, o8, o9, o10, o11, o12, o13, o14, o15, o16, o17, o18, o19, o20, o21, o22, o23, o24, o25, o26, o27, o28, o31, o32, o35, i_str_0, i_str_1, i_str_2, i_str_3, i_str_4, i_str_5, i_str_6, i_int_0, i_int_1, i_int_2, i_int_3, i_int_4, i_int_5, i_int_6, i_bl_0, i_bl_1, i_bl_2, i_bl_3, i_bl_4, i_bl_5, i_bl_6, i_non_0, i_non_1, i_non_2, i_non_3, i_non_4, i_non_5, i_non_6, i_lst_0, i_lst_1, i_lst_2, i_lst_3, i_lst_4, i_lst_5, i_lst_6, i_tup_0, i_tup_1, i_tup_2, i_tup_3, i_tup_4, i_tup_5, i_tup_6, dec_lt, dec_le, dec_eq, isN_non, isN_str, isN_int, isN_bl, isN_lst, isN_tup, sc_bl, sc_int, sc_str, sc_non, oAll_map, oAny_map, List.getElem?_cons_succ, List.getElem?_cons_zero, List.set_cons_succ, List.set_cons_zero, List.map_cons, List.map_nil, List.cons_append, List.nil_append, List.replicate_succ, Option.bind_some, if_true, if_false, Bool.not_true, Bool.not_false, Bool.and_true, Bool.true_and, Bool.and_false, Bool.false_and, Bool.or_true, Bool.true_or, Bool.or_false, Bool.false_or, decide_true, decide_false, reduceIte])
local macro_rules | `(tactic| walk_at "zs") => `(tactic| simp only [*, z_bnd, z_fail, z_some, z_none, z_V, z_B, z_I, z_C, z_Inn, z_Sh, z_1, z_2, z_nil, z_cons, z_N, z_And, z_Or, z_Ite, z_Chain, z_Call, z_CallS, z_CallK, z_Tup, z_Lst, z_pick0, z_pick, z_itD, z_itN, z_n1, z_n2, z_l1, z_l2, z_Lc, z_wipe0, z_wipe, z_b1, z_b2, z_b3, z_part0, z_part, z_Sl, z_seq, z_nx, z_sFail, z_set, z_setO, z_ret, z_retV, z_retN, z_if, z_pre, z_gives0, z_gives, z_give, z_mut, z_mutAt, z_par, z_unp, z_parN, z_unpN, z_putSs0, z_putSs, z_putO, z_putS, z_for, z_rep0, w_lst, w_tup, w_dct, w_non, w_bl, w_int, w_str, w_box, w_scr, w_nil, w_cons, w_app, v_lst, v_dct, v_tup, v_non, v_bl, v_int, v_str, v_box, w_strs, w_pr2, w_ls2, u_lst, u_tup, u_int, u_str, u_bl, u_non, u_nil, u_cons, u_strs, u_pr2, u_ls2, ui_lst, ui_tup, ui_int, ui_str, ui_bl, o1, o2, o3, o4, o5, o6, o7, o8, o9, o10, o11, o12, o13, o14, o15, o16, o17, o18, o19, o20, o21, o22, o23, o24, o25, o26, o27, o28, o31, o32, o35, i_str_0, i_str_1, i_str_2, i_str_3, i_str_4, i_str_5, i_str_6, i_int_0, i_int_1, i_int_2, i_int_3, i_int_4, i_int_5, i_int_6, i_bl_0, i_bl_1, i_bl_2, i_bl_3, i_bl_4, i_bl_5, i_bl_6, i_non_0, i_non_1, i_non_2, i_non_3, i_non_4, i_non_5, i_non_6, i_lst_0, i_lst_1, i_lst_2, i_lst_3, i_lst_4, i_lst_5, i_lst_6, i_tup_0, i_tup_1, i_tup_2, i_tup_3, i_tup_4, i_tup_5, i_tup_6, dec_lt, dec_le, dec_eq, isN_non, isN_str, isN_int, isN_bl, isN_lst, isN_tup, sc_bl, sc_int, sc_str, sc_non, oAll_map, oAny_map, List.getElem?_cons_succ, List.getElem?_cons_zero, List.set_cons_succ, List.set_cons_zero, List.map_cons, List.map_nil, List.cons_append, List.nil_append, List.replicate_succ, Option.bind_some, if_true, if_false, Bool.not_true, Bool.not_false, Bool.and_true, Bool.true_and, Bool.and_false, Bool.false_and, Bool.or_true, Bool.true_or, Bool.or_false, Bool.false_or, decide_true, decide_false, reduceIte])
/-! in lists of texts -/
theorem any_strs (b : Str) : ∀ ys : List Str, ((ys.map D.str).any fun y => eqvD y (.str b)) = decide (b ∈ ys)
  | [] => rfl
  | y :: ys => by
    rw [List.map_cons, List.any_cons, any_strs b ys, eqv_str]
    by_cases e : y = b
    · subst e; simp
    · have : b ≠ y := fun q => e q.symm
      simp [e, this]
theorem isIn_sq {d : D} {st : List Str} (h : Sq d st) (b : Str) : isIn (.str b) d = some (decide (b ∈ st)) := by
  rcases h with rfl | ⟨o, rfl⟩ <;>
  · unfold isIn
    dsimp only
    rw [plain_strs, any_strs]
    rfl
theorem in_strs {d : D} {st : List Str} (h : Sq d st) (b : Str) : oIn (.str b) d = some (.bl (decide (b ∈ st))) := by unfold oIn; rw [isIn_sq h]; rfl
theorem nin_strs {d : D} {st : List Str} (h : Sq d st) (b : Str) : oNotIn (.str b) d = some (.bl (!decide (b ∈ st))) := by unfold oNotIn; rw [isIn_sq h]; rfl
theorem lc_strs {tg : Nat} {r : Env} {c e : Ev} (C : Str → Bool) (F : Str → D) (st : List Str) (h : ∀ x ∈ st, c (r.set tg (.sh (.str x))) = ret (.bl (C x)) ∧ (C x = true → e (r.set tg (.sh (.str x))) = ret (F x))) (hl : st.length ≤ 16777216) : lcGo (.one tg) r (some c) e (st.map D.str) [] = ret (.lst true ((st.filter C).map F)) :=
  lc_if (fun x => r.set tg (.sh (.str x))) C F st [] (fun x hx => ⟨rfl, h x hx⟩) (by rw [List.length_nil]; omega)
theorem lc_strs0 {tg : Nat} {r : Env} {e : Ev} (F : Str → D) (st : List Str) (h : ∀ x ∈ st, e (r.set tg (.sh (.str x))) = ret (F x)) (hl : st.length ≤ 16777216) : lcGo (.one tg) r none e (st.map D.str) [] = ret (.lst true (st.map F)) :=
  lc_all (fun x => r.set tg (.sh (.str x))) F st [] (fun x hx => ⟨rfl, h x hx⟩) (by rw [List.length_nil]; omega)
/-! where each lies -/
def pPlacesIn : Fn := runFn 2 (sRet (eDc [1, 2] (.two 1 2) (itN (l1 itEnumD) [(eV 0)]) none (eV 2) (eV 1)))
section
variable {d e : D} {st : List Str} {ps : List (Str × Str)}
theorem places_in (h : Sq d st) (hl : st.length ≤ 1000) : pPlacesIn [d] = ret (.dct true (putAll st 0 [])) := by
  have e1 : itEnumD d = some (((st.map D.str).zipIdx 0).map fun p => D.tup [.int p.2, p.1]) := by
    unfold itEnumD
    rw [h.items]
    rfl
  refine q_fn (r' := [.sh d, .no, .no]) (q_ret ?_)
  unfold eDc
  rw [q_itN (op := l1 itEnumD) (q_cons (d := d) rfl q_nil) e1, bnd_ret]
  exact dc_places (.sh d) st 0 [] (by rw [List.length_nil]; omega)
theorem look_place (hn : st.Nodup) {y : Str} (hy : y ∈ st) : look (.s y) (shareK (putAll st 0 [])) = some (.int (pos st y)) := by
  rw [look_share, putAll_look st 0 [] hn y hy, Nat.zero_add]
  rfl
theorem ix_place (hn : st.Nodup) {y : Str} (hy : y ∈ st) {o : Bool} : oIx (.dct o (shareK (putAll st 0 []))) (.str y) = some (.int (pos st y)) := look_place hn hy
def letB (st : List Str) (ps : List (Str × Str)) (b : Str) : Bool := (frs ps b).all fun f => decide (pos st f < pos st b)
theorem mem_frs {b f : Str} : f ∈ frs ps b ↔ (b, f) ∈ ps := by
  have pm : (frs ps b).Perm ((ps.filter fun p => decide (p.1 = b)).map (·.2)) := List.mergeSort_perm ..
  rw [pm.mem_iff, List.mem_map]
  constructor
  · rintro ⟨⟨x, y⟩, h, rfl⟩
    obtain ⟨h1, h2⟩ := List.mem_filter.mp h
    have : x = b := by simpa using h2
    subst this
    exact h1
  · intro h
    exact ⟨(b, f), List.mem_filter.mpr ⟨h, by simp⟩, rfl⟩
theorem letB_iff {b : Str} : letB st ps b = true ↔ ∀ f, (b, f) ∈ ps → pos st f < pos st b := by
  unfold letB
  rw [List.all_eq_true]
  constructor
  · intro h f hf
    exact of_decide_eq_true (h f (mem_frs.mpr hf))
  · intro h f hf
    exact decide_eq_true (h f (mem_frs.mp hf))
def pIsLet : Fn := runFn 2
    (sSeq (sSet 3 (eSh (eCall pPlacesIn [(eV 0)])))
    (sRet (eN (n1 oAll) [(eLc [4] (.one 4) (itD itSeq (eSh (eCall pFriendsOf [(eV 1), (eV 2)]))) none (e2 oLt (eIx (eI 3) (eB 4)) (eIx (eI 3) (eB 2))))])))
theorem frs_le (b : Str) : (frs ps b).length ≤ ps.length := by
  unfold frs sortT
  rw [List.length_mergeSort, List.length_map]
  exact List.length_filter_le _ _
theorem is_let (h : Sq d st) (hn : st.Nodup) (hl : st.length ≤ 1000) (h2 : Prs e ps) (hl2 : ps.length ≤ 100000) (ip : InSt st ps) {b : Str} (hb : b ∈ st) : pIsLet [d, e, .str b] = ret (.bl (letB st ps b)) := by
  have e1 := places_in h hl
  have e2 := friends_of h2 b hl2
  have go := lc_strs0 (tg := 4) (r := [.sh d, .sh e, .sh (.str b), .sh (.dct false (shareK (putAll st 0 []))), .no]) (e := HF.e2 oLt (eIx (eI 3) (eB 4)) (eIx (eI 3) (eB 2))) (fun f => .bl (decide (pos st f < pos st b))) (frs ps b) (fun f hf => by
    have hf' := (ip _ (mem_frs.mp hf)).2.1
    refine q_2 (q_ix rfl rfl (fun n e => (by cases e)) (ix_place hn hf')) (q_ix rfl rfl (fun n e => (by cases e)) (ix_place hn hb)) ?_
    rw [o3, dec_lt]) (by have := frs_le (ps := ps) b; omega)
  unfold pIsLet
  rw [z_fn]
  walk_at "z"
  rw [e1]
  walk_at "z"
  rw [e2]
  walk_at "z"
  rw [go]
  walk_at "z"
  rfl
/-! a going -/
def mvd (st : List Str) (b : Str) : List Str := b :: st.filter fun y => !decide (y = b)
def pMoved : Fn := runFn 1
    (sRet (e2 oAdd (eInn (eTup [(eV 1)])) (eInn (eN (n1 oTuple) [(eInn (eLc [2] (.one 2) (itD itSeq (eV 0)) (some (e2 oNe (eB 2) (eB 1))) (eV 2)))]))))
theorem moved_ok (h : Sq d st) (hl : st.length ≤ 1000) (b : Str) : pMoved [d, .str b] = ret (.tup ((mvd st b).map D.str)) := by
  have e1 := h.seq
  have go := lc_strs (tg := 2) (r := [.sh d, .sh (.str b), .no]) (c := e2 oNe (eB 2) (eB 1)) (e := eV 2) (fun y => !decide (y = b)) D.str st (fun x _ => ⟨by walk_at "z", fun _ => by walk_at "z"⟩) (by omega)
  have lf := List.length_filter_le (fun y => !decide (y = b)) st
  have ea : oAdd (.tup [.str b]) (.tup ((st.filter fun y => !decide (y = b)).map D.str)) = some (.tup ((mvd st b).map D.str)) := add_tup (by rw [List.length_map]; show 1 + _ ≤ _; omega)
  unfold pMoved
  rw [z_fn]
  walk_at "z"
  rw [e1]
  walk_at "z"
  rw [go]
  walk_at "z"
  rw [ea]
  walk_at "z"
theorem mvd_perm (hn : st.Nodup) {b : Str} (hb : b ∈ st) : (mvd st b).Perm st := by
  unfold mvd
  refine (List.perm_ext_iff_of_nodup ?_ hn).mpr fun y => ?_
  · refine List.nodup_cons.mpr ⟨fun h => ?_, hn.sublist List.filter_sublist⟩
    have := (List.mem_filter.mp h).2
    simp at this
  · rw [List.mem_cons, List.mem_filter]
    by_cases e : y = b
    · subst e; simp [hb]
    · simp [e]
def pLaid : Fn := runFn 0
    (sSeq (sIf (eOr (e1 oNot (e1 (oIsi [.tstr]) (eB 2))) (e2 oNotIn (eB 2) (eB 0)))
    sFail
    sNx)
    (sSeq (sIf (e1 oNot (eCall pIsLet [(eV 0), (eV 1), (eV 2)]))
    sFail
    sNx)
    (sRet (eCall pMoved [(eV 0), (eV 2)]))))
theorem isi_str (b : Str) : oIsi [.tstr] (.str b) = some (.bl true) := rfl
theorem laid_ok (h : Sq d st) (hn : st.Nodup) (hl : st.length ≤ 1000) (h2 : Prs e ps) (hl2 : ps.length ≤ 100000) (ip : InSt st ps) {b : Str} (hb : b ∈ st) (ok : letB st ps b = true) : pLaid [d, e, .str b] = ret (.tup ((mvd st b).map D.str)) := by
  have e2 := nin_strs h b
  have e3 := is_let h hn hl h2 hl2 ip hb
  have e4 := moved_ok h hl b
  have e5 := decide_eq_true hb
  rw [ok] at e3
  rw [e5] at e2
  unfold pLaid
  rw [z_fn]
  walk_at "z"
  rw [e2]
  walk_at "z"
  rw [e3]
  walk_at "z"
  rw [e4]
  walk_at "z"
/-! rows -/
def leftBy (st : List Str) (row : List Str) : List Str := row.foldl mvd st
/-- each is a book, and let in its turn -/
def letAll (st : List Str) (ps : List (Str × Str)) : List Str → Bool
  | [] => true
  | x :: xs => decide (x ∈ st) && letB st ps x && letAll (mvd st x) ps xs
/-- the place of the first that isn't -/
def refAt (ps : List (Str × Str)) : List Str → List Str → Nat → Option Nat
  | _, [], _ => none
  | st, x :: xs, i => if decide (x ∈ st) && letB st ps x then refAt ps (mvd st x) xs (i + 1) else some i
theorem InSt.perm {st st' : List Str} (p : st'.Perm st) (h : InSt st ps) : InSt st' ps := fun q hq => let ⟨a, b, c⟩ := h q hq; ⟨p.mem_iff.mpr a, p.mem_iff.mpr b, c⟩
def pDone : Fn := runFn 2
    (sSeq (sSet 3 (eSh (eN (n1 oTuple) [(eI 0)])))
    (sSeq (sFor (.one 4) (itD itSeq (eV 2))
    (sSet 3 (eSh (eCall pLaid [(eV 3), (eV 1), (eV 4)]))))
    (sRetV 3)))
theorem done_go {x0 x2 : D} (h2 : Prs e ps) (hl2 : ps.length ≤ 100000) : ∀ (row st : List Str) (v4 : Sl), st.Nodup → st.length ≤ 1000 → InSt st ps → letAll st ps row = true → ∃ w4, forGo (.one 4) (sSet 3 (eSh (eCall pLaid [(eV 3), (eV 1), (eV 4)]))) (row.map D.str) [.sh x0, .sh e, .sh x2, .sh (.tup (st.map D.str)), v4] = ret (.nx, [.sh x0, .sh e, .sh x2, .sh (.tup ((leftBy st row).map D.str)), w4])
  | [], st, v4, _, _, _, _ => ⟨v4, rfl⟩
  | x :: row, st, v4, hn, hl, ip, ok => by
    unfold letAll at ok
    rw [Bool.and_eq_true, Bool.and_eq_true, decide_eq_true_iff] at ok
    obtain ⟨⟨hx, hlet⟩, ok⟩ := ok
    have pm := mvd_perm hn hx
    have e1 := laid_ok (d := .tup (st.map D.str)) (.inl rfl) hn hl h2 hl2 ip hx hlet
    obtain ⟨w4, e3⟩ := done_go h2 hl2 row (mvd st x) (.sh (.str x)) (pm.nodup_iff.mpr hn) (by rw [pm.length_eq]; exact hl) (ip.perm pm) ok
    refine ⟨w4, ?_⟩
    rw [List.map_cons]
    unfold forGo
    walk_at "z"
    rw [e1]
    walk_at "z"
    exact e3
theorem done_ok (h : Sq d st) (hn : st.Nodup) (hl : st.length ≤ 1000) (h2 : Prs e ps) (hl2 : ps.length ≤ 100000) (ip : InSt st ps) {r : D} {row : List Str} (hr : itSeq r = some (row.map D.str)) (ok : letAll st ps row = true) : pDone [d, e, r] = ret (.tup ((leftBy st row).map D.str)) := by
  have e1 := h.tuple
  obtain ⟨w4, e2⟩ := done_go (x0 := d) (x2 := r) h2 hl2 row st .no hn hl ip ok
  unfold pDone
  rw [z_fn]
  walk_at "z"
  rw [e1]
  walk_at "z"
  rw [hr]
  walk_at "z"
  rw [e2]
  walk_at "z"
end
end HF

/-! HF: the plain side: rows left, rows refused; the law's own goings. -/
namespace HF
open PySem (Str PyData sizeLine)
local macro_rules | `(tactic| walk_at "z") => `(tactic| simp only [z_bnd, z_fail, z_some, z_none, z_V, z_B, z_I, z_C, z_Inn, z_Sh, z_1, z_2, z_nil, z_cons, z_N, z_And, z_Or, z_Ite, z_Chain, z_Call, z_CallS, z_CallK, z_Tup, z_Lst, z_pick0, z_pick, z_itD, z_itN, z_n1, z_n2, z_l1, z_l2, z_Lc, z_wipe0, z_wipe, z_b1, z_b2, z_b3, z_part0, z_part, z_Sl, z_seq, z_nx, z_sFail, z_set, z_setO, z_ret, z_retV, z_retN, z_if, z_pre, z_gives0, z_gives, z_give, z_mut, z_mutAt, z_par, z_unp, z_parN, z_unpN, z_putSs0, z_putSs, z_putO, z_putS, z_for, z_rep0, w_lst, w_tup, w_dct, w_non, w_bl, w_int, w_str, w_box, w_scr, w_nil, w_cons, w_app, v_lst, v_dct, v_tup, v_non, v_bl, v_int, v_str, v_box, w_strs, w_pr2, w_ls2, u_lst, u_tup, u_int, u_str, u_bl, u_non, u_nil, u_cons, u_strs, u_pr2, u_ls2, ui_lst, ui_tup, ui_int, ui_str, ui_bl, o1, o2, o3, o4, o5, o6, o7, o8, o9, o10, o11, o12, o13, o14, o15, o16, o17, o18, o19, o20, o21, o22, o23, o24, o25, o26, o27, o28, o31, o32, o35, i_str_0, i_str_1, i_str_2, i_str_3, i_str_4, i_str_5, i_str_6, i_int_0, i_int_1, i_int_2, i_int_3, i_int_4, i_int_5, i_int_6, i_bl_0, i_bl_1, i_bl_2, i_bl_3, i_bl_4, i_bl_5, i_bl_6, i_non_0, i_non_1, i_non_2, i_non_3, i_non_4, i_non_5, i_non_6, i_lst_0, i_lst_1, i_lst_2, i_lst_3, i_lst_4, i_lst_5, i_lst_6, i_tup_0, i_tup_1, i_tup_2, i_tup_3, i_tup_4, i_tup_5, i_tup_6, dec_lt, dec_le, dec_eq, isN_non, isN_str, isN_int, isN_bl, isN_lst, isN_tup, sc_bl, sc_int, sc_str, sc_non, oAll_map, oAny_map, List.getElem?_cons_succ, List.getElem?_cons_zero, List.set_cons_succ, List.set_cons_zero, List.map_cons, List.map_nil, List.cons_append, List.nil_append, List.replicate_succ, Option.bind_some, if_true, if_false, Bool.not_true, Bool.not_false, Bool.and_true, Bool.true_and, Bool.and_false, Bool.false_and, Bool.or_true, Bool.true_or, Bool.or_false, Bool.false_or, decide_true, decide_false, reduceIte])
local macro_rules | `(tactic| walk_at "zs") => `(tactic| simp only [*, z_bnd, z_fail, z_some, z_none, z_V, z_B, z_I, z_C, z_Inn, z_Sh, z_1, z_2, z_nil, z_cons, z_N, z_And, z_Or, z_Ite, z_Chain, z_Call, z_CallS, z_CallK, z_Tup, z_Lst, z_pick0, z_pick, z_itD, z_itN, z_n1, z_n2, z_l1, z_l2, z_Lc, z_wipe0, z_wipe, z_b1, z_b2, z_b3, z_part0, z_part, z_Sl, z_seq, z_nx, z_sFail, z_set, z_setO, z_ret, z_retV, z_retN, z_if, z_pre, z_gives0, z_gives, z_give, z_mut, z_mutAt, z_par, z_unp, z_parN, z_unpN, z_putSs0, z_putSs, z_putO, z_putS, z_for, z_rep0, w_lst, w_tup, w_dct, w_non, w_bl, w_int, w_str, w_box, w_scr, w_nil, w_cons, w_app, v_lst, v_dct, v_tup, v_non, v_bl, v_int, v_str, v_box, w_strs, w_pr2, w_ls2, u_lst, u_tup, u_int, u_str, u_bl, u_non, u_nil, u_cons, u_strs, u_pr2, u_ls2, ui_lst, ui_tup, ui_int, ui_str, ui_bl, o1, o2, o3, o4, o5, o6, o7, o8, o9, o10, o11, o12, o13, o14, o15, o16, o17, o18, o19, o20, o21, o22, o23, o24, o25, o26, o27, o28, o31, o32, o35, i_str_0, i_str_1, i_str_2, i_str_3, i_str_4, i_str_5, i_str_6, i_int_0, i_int_1, i_int_2, i_int_3, i_int_4, i_int_5, i_int_6, i_bl_0, i_bl_1, i_bl_2, i_bl_3, i_bl_4, i_bl_5, i_bl_6, i_non_0, i_non_1, i_non_2, i_non_3, i_non_4, i_non_5, i_non_6, i_lst_0, i_lst_1, i_lst_2, i_lst_3, i_lst_4, i_lst_5, i_lst_6, i_tup_0, i_tup_1, i_tup_2, i_tup_3, i_tup_4, i_tup_5, i_tup_6, dec_lt, dec_le, dec_eq, isN_non, isN_str, isN_int, isN_bl, isN_lst, isN_tup, sc_bl, sc_int, sc_str, sc_non, oAll_map, oAny_map, List.getElem?_cons_succ, List.getElem?_cons_zero, List.set_cons_succ, List.set_cons_zero, List.map_cons, List.map_nil, List.cons_append, List.nil_append, List.replicate_succ, Option.bind_some, if_true, if_false, Bool.not_true, Bool.not_false, Bool.and_true, Bool.true_and, Bool.and_false, Bool.false_and, Bool.or_true, Bool.true_or, Bool.or_false, Bool.false_or, decide_true, decide_false, reduceIte])
section
variable {d e : D} {st : List Str} {ps : List (Str × Str)}
def pLeftBy : Fn := runFn 2
    (sSeq (sSet 2 (eSh (eN (n1 oTuple) [(eI 0)])))
    (sSeq (sFor (.one 3) (itD itSeq (eV 1))
    (sSet 2 (eSh (eCall pMoved [(eV 2), (eV 3)]))))
    (sRetV 2)))
theorem left_go {x0 x1 : D} : ∀ (row st : List Str) (v4 : Sl), st.Nodup → (∀ x ∈ row, x ∈ st) → st.length ≤ 1000 → ∃ w4, forGo (.one 3) (sSet 2 (eSh (eCall pMoved [(eV 2), (eV 3)]))) (row.map D.str) [.sh x0, .sh x1, .sh (.tup (st.map D.str)), v4] = ret (.nx, [.sh x0, .sh x1, .sh (.tup ((leftBy st row).map D.str)), w4])
  | [], st, v4, _, _, _ => ⟨v4, rfl⟩
  | x :: row, st, v4, hn, hx, hl => by
    have pm := mvd_perm hn (hx x List.mem_cons_self)
    have e1 := moved_ok (d := .tup (st.map D.str)) (.inl rfl) hl x
    obtain ⟨w4, e3⟩ := left_go row (mvd st x) (.sh (.str x)) (pm.nodup_iff.mpr hn) (fun y hy => pm.mem_iff.mpr (hx y (List.mem_cons_of_mem _ hy))) (by rw [pm.length_eq]; exact hl)
    refine ⟨w4, ?_⟩
    rw [List.map_cons]
    unfold forGo
    walk_at "z"
    rw [e1]
    walk_at "z"
    exact e3
theorem left_by (h : Sq d st) (hn : st.Nodup) (hl : st.length ≤ 1000) {r : D} {row : List Str} (hr : itSeq r = some (row.map D.str)) (hx : ∀ x ∈ row, x ∈ st) : pLeftBy [d, r] = ret (.tup ((leftBy st row).map D.str)) := by
  have e1 := h.tuple
  obtain ⟨w4, e2⟩ := left_go (x0 := d) (x1 := r) row st .no hn hx hl
  unfold pLeftBy
  rw [z_fn]
  walk_at "z"
  rw [e1]
  walk_at "z"
  rw [hr]
  walk_at "z"
  rw [e2]
  walk_at "z"
def pFirstRefused : Fn := runFn 3
    (sSeq (sSet 3 (eSh (eN (n1 oTuple) [(eI 0)])))
    (sSeq (sFor (.two 4 5) (itN (l1 itEnumD) [(eV 2)])
    (sSeq (sIf (eOr (e2 oNotIn (eB 5) (eB 3)) (e1 oNot (eCall pIsLet [(eV 3), (eV 1), (eV 5)])))
    (sRetV 4)
    sNx)
    (sSet 3 (eSh (eCall pMoved [(eV 3), (eV 5)])))))
    (sRet (eC .non))))
def optI : Option Nat → D
  | none => .non
  | some i => .int i
theorem ref_go {x0 x2 : D} (h2 : Prs e ps) (hl2 : ps.length ≤ 100000) : ∀ (row st : List Str) (i : Nat) (v4 v5 : Sl), st.Nodup → st.length ≤ 1000 → InSt st ps → ∃ r', forGo (.two 4 5) (sSeq (sIf (eOr (e2 oNotIn (eB 5) (eB 3)) (e1 oNot (eCall pIsLet [(eV 3), (eV 1), (eV 5)]))) (sRetV 4) sNx) (sSet 3 (eSh (eCall pMoved [(eV 3), (eV 5)])))) (((row.map D.str).zipIdx i).map fun p => D.tup [.int p.2, p.1]) [.sh x0, .sh e, .sh x2, .sh (.tup (st.map D.str)), v4, v5] = ret (match refAt ps st row i with | none => (.nx, r') | some j => (.rt (.int j), r'))
  | [], st, i, v4, v5, _, _, _ => ⟨_, rfl⟩
  | x :: row, st, i, v4, v5, hn, hl, ip => by
    have e0 := nin_strs (d := .tup (st.map D.str)) (.inl rfl) x
    have e4 := moved_ok (d := .tup (st.map D.str)) (.inl rfl) hl x
    by_cases hx : x ∈ st
    · have pm := mvd_perm hn hx
      have e1 := is_let (d := .tup (st.map D.str)) (.inl rfl) hn hl h2 hl2 ip hx
      rw [decide_eq_true hx] at e0
      cases hlet : letB st ps x with
      | true =>
        rw [hlet] at e1
        obtain ⟨r', e3⟩ := ref_go h2 hl2 row (mvd st x) (i + 1) (.sh (.int i)) (.sh (.str x)) (pm.nodup_iff.mpr hn) (by rw [pm.length_eq]; exact hl) (ip.perm pm)
        refine ⟨r', ?_⟩
        rw [List.map_cons, List.zipIdx_cons, List.map_cons]
        unfold forGo refAt
        rw [decide_eq_true hx, hlet]
        walk_at "z"
        rw [e0]
        walk_at "z"
        rw [e1]
        walk_at "z"
        rw [e4]
        walk_at "z"
        exact e3
      | false =>
        rw [hlet] at e1
        refine ⟨[.sh x0, .sh e, .sh x2, .sh (.tup (st.map D.str)), .sh (.int i), .sh (.str x)], ?_⟩
        rw [List.map_cons, List.zipIdx_cons, List.map_cons]
        unfold forGo refAt
        rw [decide_eq_true hx, hlet]
        walk_at "z"
        rw [e0]
        walk_at "z"
        rw [e1]
        walk_at "z"
        rfl
    · rw [decide_eq_false hx] at e0
      refine ⟨[.sh x0, .sh e, .sh x2, .sh (.tup (st.map D.str)), .sh (.int i), .sh (.str x)], ?_⟩
      rw [List.map_cons, List.zipIdx_cons, List.map_cons]
      unfold forGo refAt
      rw [decide_eq_false hx]
      walk_at "z"
      rw [e0]
      walk_at "z"
      rfl
theorem first_refused (h : Sq d st) (hn : st.Nodup) (hl : st.length ≤ 1000) (h2 : Prs e ps) (hl2 : ps.length ≤ 100000) (ip : InSt st ps) {r : D} {row : List Str} (hr : itemsD r = some (row.map D.str)) : pFirstRefused [d, e, r] = ret (optI (refAt ps st row 0)) := by
  have e1 := h.tuple
  have e0 : itEnumD r = some (((row.map D.str).zipIdx 0).map fun p => D.tup [.int p.2, p.1]) := by unfold itEnumD; rw [hr]; rfl
  obtain ⟨r', e2⟩ := ref_go (x0 := d) (x2 := r) h2 hl2 row st 0 .no .no hn hl ip
  unfold pFirstRefused
  rw [z_fn]
  walk_at "z"
  rw [e1]
  walk_at "z"
  rw [e0]
  walk_at "z"
  rw [e2]
  cases refAt ps st row 0 with
  | none => walk_at "z"; rfl
  | some j => walk_at "z"; rfl
/-! ### the law's own -/
def pAbove : Fn := runFn 0 (sRet (e2 oLt (e2 oIndex (eB 0) (eB 1)) (e2 oIndex (eB 0) (eB 2))))
theorem above_ok {a b : Str} (ha : a ∈ st) (hb : b ∈ st) : pAbove [.tup (st.map D.str), .str a, .str b] = ret (.bl (decide (pos st a < pos st b))) := by
  have e1 := oIndex_tup ha
  have e2 := oIndex_tup hb
  unfold pAbove
  rw [z_fn]
  walk_at "zs"
def frl (ps : List (Str × Str)) (b : Str) : List Str := (ps.filter fun p => decide (p.1 = b)).map (·.2)
theorem mem_frl {b f : Str} : f ∈ frl ps b ↔ (b, f) ∈ ps := by
  rw [← mem_frs (ps := ps)]
  exact (List.mergeSort_perm (frl ps b) leS).mem_iff.symm
def pFriendsL : Fn := runFn 2 (sRet (eLc [2, 3] (.two 2 3) (itD itSeq (eV 0)) (some (e2 oEq (eB 2) (eB 1))) (eV 3)))
theorem friendsL {d : D} (h : Prs d ps) (b : Str) (hl : ps.length ≤ 100000) : pFriendsL [d, .str b] = ret (.lst true ((frl ps b).map D.str)) := by
  obtain ⟨g, e1, hb⟩ := h
  have go := lc_if (tg := .two 2 3) (r := [.sh d, .sh (.str b), .no, .no]) (c := e2 oEq (eB 2) (eB 1)) (e := eV 3) (g := g) (fun p => [.sh d, .sh (.str b), .sh (.str p.1), .sh (.str p.2)]) (fun p => decide (p.1 = b)) (fun p => .str p.2) ps [] (fun p _ => ⟨hb p _ _ _, by walk_at "z", fun _ => by walk_at "z"⟩) (by rw [List.length_nil]; omega)
  unfold pFriendsL
  rw [z_fn]
  walk_at "z"
  rw [e1]
  walk_at "z"
  rw [go]
  walk_at "z"
  unfold frl
  rw [List.map_map]
  rfl
def pLet : Fn := runFn 1 (sRet (eN (n1 oAll) [(eLc [3] (.one 3) (itD itSeq (eSh (eCall pFriendsL [(eV 1), (eV 2)]))) none (eCall pAbove [(eV 0), (eV 3), (eV 2)]))]))
theorem let_ok (h2 : Prs e ps) (hl2 : ps.length ≤ 100000) (ip : InSt st ps) {b : Str} (hb : b ∈ st) : pLet [.tup (st.map D.str), e, .str b] = ret (.bl (letB st ps b)) := by
  have e2 := friendsL h2 b hl2
  have ll : (frl ps b).length ≤ ps.length := by unfold frl; rw [List.length_map]; exact List.length_filter_le _ _
  have go := lc_strs0 (tg := 3) (r := [.sh (.tup (st.map D.str)), .sh e, .sh (.str b), .no]) (e := eCall pAbove [(eV 0), (eV 3), (eV 2)]) (fun f => .bl (decide (pos st f < pos st b))) (frl ps b) (fun f hf => by
    have hf' := (ip _ (mem_frl.mp hf)).2.1
    have e1 := above_ok hf' hb
    walk_at "z"
    exact e1) (by omega)
  have ea : ((frl ps b).all fun f => decide (pos st f < pos st b)) = letB st ps b := by
    unfold letB
    exact (List.Perm.all_eq (List.mergeSort_perm (frl ps b) leS)).symm
  unfold pLet
  rw [z_fn]
  walk_at "z"
  rw [e2]
  walk_at "z"
  rw [go]
  walk_at "z"
  rw [ea]
def mays (st : List Str) (ps : List (Str × Str)) : List Str := (sortT st).filter fun b => letB st ps b
def pMay : Fn := runFn 1 (sRet (eLc [2] (.one 2) (itD itSeq (eSh (eN (n1 oSort) [(eB 0)]))) (some (eCall pLet [(eV 0), (eV 1), (eV 2)])) (eV 2)))
theorem sortT_perm (st : List Str) : (sortT st).Perm st := List.mergeSort_perm ..
theorem may_ok (hl : st.length ≤ 1000) (h2 : Prs e ps) (hl2 : ps.length ≤ 100000) (ip : InSt st ps) : pMay [.tup (st.map D.str), e] = ret (.lst true ((mays st ps).map D.str)) := by
  have e1 := oSort_strs (.tup (st.map D.str)) st rfl
  have go := lc_strs (tg := 2) (r := [.sh (.tup (st.map D.str)), .sh e, .no]) (c := eCall pLet [(eV 0), (eV 1), (eV 2)]) (e := eV 2) (fun b => letB st ps b) D.str (sortT st) (fun x hx => ⟨by
    have e2 := let_ok h2 hl2 ip ((sortT_perm st).mem_iff.mp hx)
    walk_at "z"
    exact e2, fun _ => by walk_at "z"⟩) (by rw [(sortT_perm st).length_eq]; omega)
  unfold pMay
  rw [z_fn]
  walk_at "z"
  rw [e1]
  walk_at "z"
  rw [go]
  walk_at "z"
  rfl
theorem mem_mays {b : Str} : b ∈ mays st ps ↔ b ∈ st ∧ letB st ps b = true := by
  unfold mays
  rw [List.mem_filter, (sortT_perm st).mem_iff]
/-- the lowest book may always go -/
theorem mays_ne (hn : st.Nodup) (hs : st ≠ []) (ip : InSt st ps) : mays st ps ≠ [] := by
  have hm : st.getLast hs ∈ st := List.getLast_mem hs
  have : st.getLast hs ∈ mays st ps := mem_mays.mpr ⟨hm, letB_iff.mpr fun f hf => by
    obtain ⟨_, h2, h3⟩ := ip _ hf
    replace h2 : f ∈ st := h2
    have hl : pos st (st.getLast hs) = st.length - 1 := pos_at hn (by
      rw [List.getLast_eq_getElem, List.getElem?_eq_getElem])
    have hf1 := first_get (first_of h2)
    have lt := (List.getElem?_eq_some_iff.mp hf1).1
    have ne : pos st f ≠ pos st (st.getLast hs) := fun e => h3 (pos_inj _ hm _ h2 e.symm)
    omega⟩
  exact List.ne_nil_of_mem this
def pPick : Fn := runFn 0 (sRet (eIx (eI 1) (eCall pTake [(eV 0), (eSh (eN (n1 oLen) [(eB 1)]))])))
theorem pick_wp {L n t : Nat} {R : D → Nat → Prop} {α : Type} {g : α → D} {xs : List α} {x : D} (hx : itemsD x = some (xs.map g)) (hn : n < L) (h0 : xs ≠ []) (hl : xs.length ≤ 100000) (ht : t < 1099511627776) (h : ∀ y ∈ xs, R (g y) (t + 1)) : Wp L (pPick [.box n, x]) t R := by
  have ln : 0 < xs.length := List.length_pos_iff.mpr h0
  have e1 : oLen x = some (.int xs.length) := by
    cases x <;> first | cases hx | skip
    · rw [o9]; rw [List.length_map]
    · rw [o10]; rw [List.length_map]
  have e2 : ∀ i : Nat, oIx x (.int i) = (xs.map g)[i]? := fun i => by
    cases x <;> first | cases hx | skip
    · exact o32
    · exact o31
  have nb : ∀ n, x ≠ .box n := fun n e => by subst e; cases hx
  refine runFn_wp (sRet_wp (eIx_wp (.of (a := x) rfl ?_)))
  refine take_call (bd := (xs.length : Int)) rfl (by walk_at "z"; rw [e1]; walk_at "z") hn (by omega) (by omega) ht fun i i0 i1 => ⟨nb, ?_⟩
  obtain ⟨k, rfl⟩ := Int.eq_ofNat_of_zero_le i0
  have hk : k < xs.length := by omega
  exact ⟨g xs[k], by rw [e2, List.getElem?_map, List.getElem?_eq_getElem hk]; rfl, _, _, rfl, h _ (List.getElem_mem hk)⟩
def pRun : Fn := runFn 2
    (sSeq (sSetO 4 (eLst []))
    (sSeq (sFor (.one 5) (itN (l1 itRange) [(eB 3)])
    (sSeq (sMut 4 mAppend [(eCall pPick [(eV 0), (eSh (eCall pMay [(eV 1), (eV 2)]))])])
    (sSet 1 (eSh (eCall pMoved [(eV 1), (eSh (eIx (eI 4) (e1 oNeg (eC (.int 1)))))])))))
    (sPre [4] (sRet (eTup [(eV 4), (eV 1)])))))
theorem leftBy_snoc (st row : List Str) (x : Str) : leftBy st (row ++ [x]) = mvd (leftBy st row) x := by
  unfold leftBy; rw [List.foldl_append]; rfl
theorem letAll_snoc {x : Str} : ∀ {row st : List Str}, letAll st ps row = true → x ∈ leftBy st row → letB (leftBy st row) ps x = true → letAll st ps (row ++ [x]) = true
  | [], st, _, h1, h2 => by
    have h1' : x ∈ st := h1
    have h2' : letB st ps x = true := h2
    simp [letAll, h1', h2']
  | y :: row, st, h, h1, h2 => by
    unfold letAll at h
    rw [Bool.and_eq_true] at h
    rw [List.cons_append]
    unfold letAll
    rw [Bool.and_eq_true]
    exact ⟨h.1, letAll_snoc h.2 h1 h2⟩
theorem letAll_perm (hn : st.Nodup) : ∀ {row : List Str}, letAll st ps row = true → (leftBy st row).Perm st := by
  intro row
  induction row generalizing st with
  | nil => exact fun _ => .refl _
  | cons x row ih =>
    intro h
    unfold letAll at h
    rw [Bool.and_eq_true, Bool.and_eq_true, decide_eq_true_iff] at h
    have pm := mvd_perm hn h.1.1
    exact (ih (pm.nodup_iff.mpr hn) h.2).trans pm
theorem run_wp {L n t m : Nat} {R : D → Nat → Prop} (hn : n < L) (hm : m ≤ 1000) (nd : st.Nodup) (hs : st ≠ []) (hl : st.length ≤ 1000) (h2 : Prs e ps) (hl2 : ps.length ≤ 100000) (ip : InSt st ps) (ht : t + m < 1099511627776)
    (h : ∀ row : List Str, row.length = m → letAll st ps row = true → R (.tup [.lst false (row.map D.str), .tup ((leftBy st row).map D.str)]) (t + m)) : Wp L (pRun [.box n, .tup (st.map D.str), e, .int m]) t R := by
  have er : itRange (.int (m : Int)) = some ((List.range m).map fun (i : Nat) => D.int (i : Int)) := by
    show (if (m : Int).natAbs < 2 ^ 60 then some ((List.range (m : Int).toNat).map fun (i : Nat) => D.int (i : Int)) else none) = _
    rw [if_pos (by omega)]
    rfl
  refine runFn_wp (sSeq_wp (.of (a := (.nx, [.sh (.box n), .sh (.tup (st.map D.str)), .sh e, .sh (.int m), .ow (.lst true []), .no])) (by walk_at "z") ⟨_, rfl, ?_⟩))
  refine sSeq_wp (sFor_wp (.of (a := (List.range m).map fun (i : Nat) => D.int (i : Int)) (by walk_at "z"; rw [er]; walk_at "z") ?_))
  refine (forGo_wp (fun rest r u => ∃ (row : List Str) (v5 : Sl), r = [.sh (.box n), .sh (.tup ((leftBy st row).map D.str)), .sh e, .sh (.int m), .ow (.lst true (row.map D.str)), v5] ∧ letAll st ps row = true ∧ row.length + rest.length = m ∧ u = t + row.length) ?_ _ _ _ ⟨[], .no, rfl, rfl, by simp, rfl⟩).mono ?_
  · rintro x rest r u ⟨row, v5, rfl, ok, hlen, rfl⟩
    rw [List.length_cons] at hlen
    have pm := letAll_perm nd ok
    have nd' := pm.nodup_iff.mpr nd
    have ip' := ip.perm pm
    have e1 := may_ok (e := e) (by rw [pm.length_eq]; exact hl) h2 hl2 ip'
    have hne := mays_ne nd' (fun z => hs (by rw [z] at pm; exact List.Perm.eq_nil pm.symm)) ip'
    have ml : (mays (leftBy st row) ps).length ≤ 1000 := by
      have := List.length_filter_le (fun b => letB (leftBy st row) ps b) (sortT (leftBy st row))
      have e2 := (sortT_perm (leftBy st row)).length_eq
      have e3 := pm.length_eq
      unfold mays
      omega
    refine ⟨_, rfl, sSeq_wp (.bnd (evs_cons_wp (eCall_wp (evs_cons_wp (.of (a := .box n) rfl (evs_cons_wp (.of (a := .lst false ((mays (leftBy st row) ps).map D.str)) (by walk_at "z"; rw [e1]; walk_at "z") (evs_nil_wp ?_))))))))⟩
    refine pick_wp (xs := mays (leftBy st row) ps) (g := D.str) rfl hn hne (by omega) (by omega) fun y hy => evs_nil_wp ?_
    obtain ⟨y1, y2⟩ := mem_mays.mp hy
    have ea := app_lst (xs := row.map D.str) (x := .str y) (by rw [List.length_map]; omega)
    have e4 := moved_ok (d := .tup ((leftBy st row).map D.str)) (.inl rfl) (by rw [pm.length_eq]; exact hl) y
    refine .of (a := (.nx, [.sh (.box n), .sh (.tup ((leftBy st row).map D.str)), .sh e, .sh (.int m), .ow (.lst true ((row ++ [y]).map D.str)), .sh x])) ?_ ⟨_, rfl, ?_⟩
    · simp only [List.set_cons_succ, List.set_cons_zero, List.getElem?_cons_succ, List.getElem?_cons_zero]
      rw [ea, List.map_append]
      walk_at "z"
    · have ei : oIx (.lst true ((row ++ [y]).map D.str)) (.int (-1)) = some (.str y) := by
        show L2.atI _ (-1) = _
        unfold L2.atI L2.ixN
        rw [List.length_map, List.length_append, List.length_singleton, if_neg (by omega), if_pos (by omega)]
        have : ((-1 : Int) + ((row.length + 1 : Nat) : Int)).toNat = row.length := by omega
        rw [Option.bind_some, this, List.getElem?_map]
        simp
      refine .of (a := (.nx, [.sh (.box n), .sh (.tup ((mvd (leftBy st row) y).map D.str)), .sh e, .sh (.int m), .ow (.lst true ((row ++ [y]).map D.str)), .sh x])) ?_ ⟨_, rfl, row ++ [y], .sh x, by rw [leftBy_snoc], letAll_snoc ok y1 y2, by rw [List.length_append, List.length_singleton]; omega, by rw [List.length_append, List.length_singleton]; omega⟩
      have ex : (eIx (eI 4) (HF.e1 oNeg (eC (.int 1)))) [.sh (.box n), .sh (.tup ((leftBy st row).map D.str)), .sh e, .sh (.int m), .ow (.lst true ((row ++ [y]).map D.str)), .sh x] = ret (.str y) := q_ix (x := .lst true ((row ++ [y]).map D.str)) (y := .int (-1)) (by walk_at "z") (by walk_at "z") (fun n e => by cases e) ei
      simp only [z_set, z_Sh, z_Call, z_cons, z_nil, z_V, ex]
      walk_at "z"
      rw [e4]
      walk_at "z"
  · rintro p u ⟨r2, rfl, row, v5, rfl, ok, hlen, rfl⟩
    have hlen' : row.length = m := by simpa using hlen
    exact ⟨_, rfl, .of (a := (.rt (.tup [.lst false (row.map D.str), .tup ((leftBy st row).map D.str)]), _)) (by walk_at "z"; rfl) ⟨_, _, rfl, by rw [hlen']; exact h row hlen' ok⟩⟩
end
end HF

/-! HF: the plain side: what a row leaves, by last goings; who lies above whom, by sublists; loops that only reckon. -/
namespace HF
open PySem (Str PyData sizeLine)
local macro_rules | `(tactic| walk_at "z") => `(tactic| simp only [z_bnd, z_fail, z_some, z_none, z_V, z_B, z_I, z_C, z_Inn, z_Sh, z_1, z_2, z_nil, z_cons, z_N, z_And, z_Or, z_Ite, z_Chain, z_Call, z_CallS, z_CallK, z_Tup, z_Lst, z_pick0, z_pick, z_itD, z_itN, z_n1, z_n2, z_l1, z_l2, z_Lc, z_wipe0, z_wipe, z_b1, z_b2, z_b3, z_part0, z_part, z_Sl, z_seq, z_nx, z_sFail, z_set, z_setO, z_ret, z_retV, z_retN, z_if, z_pre, z_gives0, z_gives, z_give, z_mut, z_mutAt, z_par, z_unp, z_parN, z_unpN, z_putSs0, z_putSs, z_putO, z_putS, z_for, z_rep0, w_lst, w_tup, w_dct, w_non, w_bl, w_int, w_str, w_box, w_scr, w_nil, w_cons, w_app, v_lst, v_dct, v_tup, v_non, v_bl, v_int, v_str, v_box, w_strs, w_pr2, w_ls2, u_lst, u_tup, u_int, u_str, u_bl, u_non, u_nil, u_cons, u_strs, u_pr2, u_ls2, ui_lst, ui_tup, ui_int, ui_str, ui_bl, o1, o2, o3, o4, o5, o6, o7, o8, o9, o10, o11, o12, o13, o14, o15, o16, o17, o18, o19, o20, o21, o22, o23, o24, o25, o26, o27, o28, o31, o32, o35, i_str_0, i_str_1, i_str_2, i_str_3, i_str_4, i_str_5, i_str_6, i_int_0, i_int_1, i_int_2, i_int_3, i_int_4, i_int_5, i_int_6, i_bl_0, i_bl_1, i_bl_2, i_bl_3, i_bl_4, i_bl_5, i_bl_6, i_non_0, i_non_1, i_non_2, i_non_3, i_non_4, i_non_5, i_non_6, i_lst_0, i_lst_1, i_lst_2, i_lst_3, i_lst_4, i_lst_5, i_lst_6, i_tup_0, i_tup_1, i_tup_2, i_tup_3, i_tup_4, i_tup_5, i_tup_6, dec_lt, dec_le, dec_eq, isN_non, isN_str, isN_int, isN_bl, isN_lst, isN_tup, sc_bl, sc_int, sc_str, sc_non, oAll_map, oAny_map, List.getElem?_cons_succ, List.getElem?_cons_zero, List.set_cons_succ, List.set_cons_zero, List.map_cons, List.map_nil, List.cons_append, List.nil_append, List.replicate_succ, Option.bind_some, if_true, if_false, Bool.not_true, Bool.not_false, Bool.and_true, Bool.true_and, Bool.and_false, Bool.false_and, Bool.or_true, Bool.true_or, Bool.or_false, Bool.false_or, decide_true, decide_false, reduceIte])
local macro_rules | `(tactic| walk_at "zs") => `(tactic| simp only [*, z_bnd, z_fail, z_some, z_none, z_V, z_B, z_I, z_C, z_Inn, z_Sh, z_1, z_2, z_nil, z_cons, z_N, z_And, z_Or, z_Ite, z_Chain, z_Call, z_CallS, z_CallK, z_Tup, z_Lst, z_pick0, z_pick, z_itD, z_itN, z_n1, z_n2, z_l1, z_l2, z_Lc, z_wipe0, z_wipe, z_b1, z_b2, z_b3, z_part0, z_part, z_Sl, z_seq, z_nx, z_sFail, z_set, z_setO, z_ret, z_retV, z_retN, z_if, z_pre, z_gives0, z_gives, z_give, z_mut, z_mutAt, z_par, z_unp, z_parN, z_unpN, z_putSs0, z_putSs, z_putO, z_putS, z_for, z_rep0, w_lst, w_tup, w_dct, w_non, w_bl, w_int, w_str, w_box, w_scr, w_nil, w_cons, w_app, v_lst, v_dct, v_tup, v_non, v_bl, v_int, v_str, v_box, w_strs, w_pr2, w_ls2, u_lst, u_tup, u_int, u_str, u_bl, u_non, u_nil, u_cons, u_strs, u_pr2, u_ls2, ui_lst, ui_tup, ui_int, ui_str, ui_bl, o1, o2, o3, o4, o5, o6, o7, o8, o9, o10, o11, o12, o13, o14, o15, o16, o17, o18, o19, o20, o21, o22, o23, o24, o25, o26, o27, o28, o31, o32, o35, i_str_0, i_str_1, i_str_2, i_str_3, i_str_4, i_str_5, i_str_6, i_int_0, i_int_1, i_int_2, i_int_3, i_int_4, i_int_5, i_int_6, i_bl_0, i_bl_1, i_bl_2, i_bl_3, i_bl_4, i_bl_5, i_bl_6, i_non_0, i_non_1, i_non_2, i_non_3, i_non_4, i_non_5, i_non_6, i_lst_0, i_lst_1, i_lst_2, i_lst_3, i_lst_4, i_lst_5, i_lst_6, i_tup_0, i_tup_1, i_tup_2, i_tup_3, i_tup_4, i_tup_5, i_tup_6, dec_lt, dec_le, dec_eq, isN_non, isN_str, isN_int, isN_bl, isN_lst, isN_tup, sc_bl, sc_int, sc_str, sc_non, oAll_map, oAny_map, List.getElem?_cons_succ, List.getElem?_cons_zero, List.set_cons_succ, List.set_cons_zero, List.map_cons, List.map_nil, List.cons_append, List.nil_append, List.replicate_succ, Option.bind_some, if_true, if_false, Bool.not_true, Bool.not_false, Bool.and_true, Bool.true_and, Bool.and_false, Bool.false_and, Bool.or_true, Bool.true_or, Bool.or_false, Bool.false_or, decide_true, decide_false, reduceIte])
/-! ### a while loop that only reckons -/
theorem while_pure {c : Ev} {body : Sv} (I : Nat → Env → Prop) (Done : Env → Prop) (h : ∀ k r, I k r → (c r = ret (.bl false) ∧ Done r) ∨ (c r = ret (.bl true) ∧ ∃ r' k', k' < k ∧ body r = ret (.nx, r') ∧ I k' r')) : ∀ (n k : Nat) (r : Env), I k r → k < n → ∃ r', whileGo c body n r = ret (.nx, r') ∧ Done r'
  | 0, _, _, _, hk => absurd hk (Nat.not_lt_zero _)
  | n + 1, k, r, hI, hk => by
    unfold whileGo
    rcases h k r hI with ⟨e, d⟩ | ⟨e, r', k', hk', e2, hI'⟩
    · exact ⟨r, by rw [e, bnd_ret], d⟩
    · obtain ⟨r2, e3, d⟩ := while_pure I Done h n k' r' hI' (by omega)
      refine ⟨r2, ?_, d⟩
      rw [e, bnd_ret]
      dsimp only
      rw [e2, bnd_ret]
      exact e3
/-! ### above, by sublists -/
theorem pos_sub : ∀ {l : List Str} {x y : Str}, l.Nodup → [x, y].Sublist l → pos l x < pos l y
  | [], _, _, _, h => by cases h
  | z :: l, x, y, nd, h => by
    obtain ⟨n1, n2⟩ := List.nodup_cons.mp nd
    cases h with
    | cons _ h =>
      have hx : x ∈ l := h.subset List.mem_cons_self
      have hy : y ∈ l := h.subset (List.mem_cons_of_mem _ List.mem_cons_self)
      rw [pos_next (fun e => n1 (by rw [e]; exact hx)) hx, pos_next (fun e => n1 (by rw [e]; exact hy)) hy]
      exact Nat.succ_lt_succ (pos_sub n2 h)
    | cons_cons _ h =>
      have hy : y ∈ l := h.subset List.mem_cons_self
      rw [pos_self, pos_next (fun e => n1 (by rw [e]; exact hy)) hy]
      exact Nat.succ_pos _
theorem sub_pos : ∀ {l : List Str} {x y : Str}, x ∈ l → y ∈ l → pos l x < pos l y → [x, y].Sublist l
  | z :: l, x, y, hx, hy, h => by
    by_cases ex : z = x
    · subst ex
      have ey : z ≠ y := fun e => by subst e; omega
      have hy' : y ∈ l := (List.mem_cons.mp hy).resolve_left fun e => ey e.symm
      exact (List.singleton_sublist.mpr hy').cons_cons z
    · have hx' : x ∈ l := (List.mem_cons.mp hx).resolve_left fun e => ex e.symm
      by_cases ey : z = y
      · subst ey
        rw [pos_self] at h
        exact absurd h (Nat.not_lt_zero _)
      · have hy' : y ∈ l := (List.mem_cons.mp hy).resolve_left fun e => ey e.symm
        rw [pos_next ex hx', pos_next ey hy'] at h
        exact (sub_pos hx' hy' (Nat.lt_of_succ_lt_succ h)).cons z
theorem pos_tri {l : List Str} {x y : Str} (hx : x ∈ l) (hy : y ∈ l) (ne : x ≠ y) : pos l x < pos l y ∨ pos l y < pos l x := by
  have h : pos l x ≠ pos l y := fun e => ne (pos_inj x hx y hy e)
  omega
/-! ### rows -/
theorem leftBy_nd (st : List Str) : ∀ row : List Str, row.Nodup → leftBy st row = row.reverse ++ st.filter fun y => !decide (y ∈ row) := by
  intro row
  have h : ∀ l : List Str, l.Nodup → leftBy st l.reverse = l ++ st.filter fun y => !decide (y ∈ l) := by
    intro l
    induction l with
    | nil =>
      intro _
      have : (st.filter fun y => !decide (y ∈ ([] : List Str))) = st := List.filter_eq_self.mpr fun _ _ => by simp
      rw [this]; rfl
    | cons x l ih =>
      intro nd
      obtain ⟨n1, n2⟩ := List.nodup_cons.mp nd
      rw [List.reverse_cons, leftBy_snoc, ih n2]
      unfold mvd
      rw [List.filter_append, List.filter_filter, List.cons_append]
      have e1 : (l.filter fun y => !decide (y = x)) = l := List.filter_eq_self.mpr fun y hy => by
        have : y ≠ x := fun e => n1 (e ▸ hy)
        simp [this]
      rw [e1]
      congr 2
      refine List.filter_congr fun y _ => ?_
      by_cases e : y = x
      · subst e; simp
      · simp [e]
  intro nd
  have := h row.reverse ((List.reverse_perm row).nodup_iff.mpr nd)
  rw [List.reverse_reverse] at this
  rw [this]
  congr 1
  refine List.filter_congr fun y _ => ?_
  simp
/-- a row whose each book is let where the ones ahead of it went -/
theorem letAll_of {ps : List (Str × Str)} {st : List Str} (nd : st.Nodup) : ∀ (row pre : List Str), (∀ x ∈ pre ++ row, x ∈ st) → letAll st ps pre = true →
    (∀ p x q, pre ++ row = p ++ x :: q → letB (leftBy st p) ps x = true) → letAll st ps (pre ++ row) = true
  | [], pre, _, h, _ => by rw [List.append_nil]; exact h
  | x :: row, pre, hm, h, hl => by
    have pm := letAll_perm nd h
    have hx : x ∈ leftBy st pre := pm.mem_iff.mpr (hm x (List.mem_append_right _ List.mem_cons_self))
    have h' := letAll_snoc h hx (hl pre x row rfl)
    have e : pre ++ x :: row = (pre ++ [x]) ++ row := by simp
    rw [e] at hm hl ⊢
    exact letAll_of nd row (pre ++ [x]) hm h' hl
end HF

/-! HF: the plain side: who must go, by the program. -/
namespace HF
open PySem (Str PyData sizeLine)
local macro_rules | `(tactic| walk_at "z") => `(tactic| simp only [z_bnd, z_fail, z_some, z_none, z_V, z_B, z_I, z_C, z_Inn, z_Sh, z_1, z_2, z_nil, z_cons, z_N, z_And, z_Or, z_Ite, z_Chain, z_Call, z_CallS, z_CallK, z_Tup, z_Lst, z_pick0, z_pick, z_itD, z_itN, z_n1, z_n2, z_l1, z_l2, z_Lc, z_wipe0, z_wipe, z_b1, z_b2, z_b3, z_part0, z_part, z_Sl, z_seq, z_nx, z_sFail, z_set, z_setO, z_ret, z_retV, z_retN, z_if, z_pre, z_gives0, z_gives, z_give, z_mut, z_mutAt, z_par, z_unp, z_parN, z_unpN, z_putSs0, z_putSs, z_putO, z_putS, z_for, z_rep0, w_lst, w_tup, w_dct, w_non, w_bl, w_int, w_str, w_box, w_scr, w_nil, w_cons, w_app, v_lst, v_dct, v_tup, v_non, v_bl, v_int, v_str, v_box, w_strs, w_pr2, w_ls2, u_lst, u_tup, u_int, u_str, u_bl, u_non, u_nil, u_cons, u_strs, u_pr2, u_ls2, ui_lst, ui_tup, ui_int, ui_str, ui_bl, o1, o2, o3, o4, o5, o6, o7, o8, o9, o10, o11, o12, o13, o14, o15, o16, o17, o18, o19, o20, o21, o22, o23, o24, o25, o26, o27, o28, o31, o32, o35, i_str_0, i_str_1, i_str_2, i_str_3, i_str_4, i_str_5, i_str_6, i_int_0, i_int_1, i_int_2, i_int_3, i_int_4, i_int_5, i_int_6, i_bl_0, i_bl_1, i_bl_2, i_bl_3, i_bl_4, i_bl_5, i_bl_6, i_non_0, i_non_1, i_non_2, i_non_3, i_non_4, i_non_5, i_non_6, i_lst_0, i_lst_1, i_lst_2, i_lst_3, i_lst_4, i_lst_5, i_lst_6, i_tup_0, i_tup_1, i_tup_2, i_tup_3, i_tup_4, i_tup_5, i_tup_6, dec_lt, dec_le, dec_eq, isN_non, isN_str, isN_int, isN_bl, isN_lst, isN_tup, sc_bl, sc_int, sc_str, sc_non, oAll_map, oAny_map, List.getElem?_cons_succ, List.getElem?_cons_zero, List.set_cons_succ, List.set_cons_zero, List.map_cons, List.map_nil, List.cons_append, List.nil_append, List.replicate_succ, Option.bind_some, if_true, if_false, Bool.not_true, Bool.not_false, Bool.and_true, Bool.true_and, Bool.and_false, Bool.false_and, Bool.or_true, Bool.true_or, Bool.or_false, Bool.false_or, decide_true, decide_false, reduceIte])
local macro_rules | `(tactic| walk_at "zs") => `(tactic| simp only [*, z_bnd, z_fail, z_some, z_none, z_V, z_B, z_I, z_C, z_Inn, z_Sh, z_1, z_2, z_nil, z_cons, z_N, z_And, z_Or, z_Ite, z_Chain, z_Call, z_CallS, z_CallK, z_Tup, z_Lst, z_pick0, z_pick, z_itD, z_itN, z_n1, z_n2, z_l1, z_l2, z_Lc, z_wipe0, z_wipe, z_b1, z_b2, z_b3, z_part0, z_part, z_Sl, z_seq, z_nx, z_sFail, z_set, z_setO, z_ret, z_retV, z_retN, z_if, z_pre, z_gives0, z_gives, z_give, z_mut, z_mutAt, z_par, z_unp, z_parN, z_unpN, z_putSs0, z_putSs, z_putO, z_putS, z_for, z_rep0, w_lst, w_tup, w_dct, w_non, w_bl, w_int, w_str, w_box, w_scr, w_nil, w_cons, w_app, v_lst, v_dct, v_tup, v_non, v_bl, v_int, v_str, v_box, w_strs, w_pr2, w_ls2, u_lst, u_tup, u_int, u_str, u_bl, u_non, u_nil, u_cons, u_strs, u_pr2, u_ls2, ui_lst, ui_tup, ui_int, ui_str, ui_bl, o1, o2, o3, o4, o5, o6, o7, o8, o9, o10, o11, o12, o13, o14, o15, o16, o17, o18, o19, o20, o21, o22, o23, o24, o25, o26, o27, o28, o31, o32, o35, i_str_0, i_str_1, i_str_2, i_str_3, i_str_4, i_str_5, i_str_6, i_int_0, i_int_1, i_int_2, i_int_3, i_int_4, i_int_5, i_int_6, i_bl_0, i_bl_1, i_bl_2, i_bl_3, i_bl_4, i_bl_5, i_bl_6, i_non_0, i_non_1, i_non_2, i_non_3, i_non_4, i_non_5, i_non_6, i_lst_0, i_lst_1, i_lst_2, i_lst_3, i_lst_4, i_lst_5, i_lst_6, i_tup_0, i_tup_1, i_tup_2, i_tup_3, i_tup_4, i_tup_5, i_tup_6, dec_lt, dec_le, dec_eq, isN_non, isN_str, isN_int, isN_bl, isN_lst, isN_tup, sc_bl, sc_int, sc_str, sc_non, oAll_map, oAny_map, List.getElem?_cons_succ, List.getElem?_cons_zero, List.set_cons_succ, List.set_cons_zero, List.map_cons, List.map_nil, List.cons_append, List.nil_append, List.replicate_succ, Option.bind_some, if_true, if_false, Bool.not_true, Bool.not_false, Bool.and_true, Bool.true_and, Bool.and_false, Bool.false_and, Bool.or_true, Bool.true_or, Bool.or_false, Bool.false_or, decide_true, decide_false, reduceIte])
/-- a friend that lies beneath -/
def Bn (st : List Str) (ps : List (Str × Str)) (x y : Str) : Prop := (x, y) ∈ ps ∧ pos st x < pos st y
/-- come to from some by friends beneath -/
inductive Dn (st : List Str) (ps : List (Str × Str)) (some : List Str) : Str → Prop where
  | base {x : Str} : x ∈ some → Dn st ps some x
  | step {x y : Str} : Dn st ps some x → Bn st ps x y → Dn st ps some y
theorem Dn.mem {st : List Str} {ps : List (Str × Str)} {some : List Str} (ip : InSt st ps) (hs : ∀ x ∈ some, x ∈ st) : ∀ {y : Str}, Dn st ps some y → y ∈ st
  | _, .base h => hs _ h
  | _, .step _ h => (ip _ h.1).2.1
/-- a set of books that holds just these -/
structure Shut (st : List Str) (ps : List (Str × Str)) (some K : List Str) : Prop where
  nd : K.Nodup
  all : ∀ y, y ∈ K ↔ Dn st ps some y
theorem Shut.of {st : List Str} {ps : List (Str × Str)} {some K : List Str} (nd : K.Nodup) (h1 : ∀ x ∈ some, x ∈ K) (h2 : ∀ x ∈ K, Dn st ps some x) (h3 : ∀ x ∈ K, ∀ y, Bn st ps x y → y ∈ K) : Shut st ps some K :=
  ⟨nd, fun y => ⟨h2 y, fun h => by
    induction h with
    | base h => exact h1 _ h
    | step _ hb ih => exact h3 _ ih _ hb⟩⟩
theorem Shut.perm {st : List Str} {ps : List (Str × Str)} {some K K' : List Str} (h : Shut st ps some K) (h' : Shut st ps some K') : K.Perm K' := (List.perm_ext_iff_of_nodup h.nd h'.nd).mpr fun y => by rw [h.all, h'.all]
/-! ### dicts of ways -/
abbrev wkv (w : Str × List Str) : DK × D := (.s w.1, .lst false (w.2.map D.str))
theorem look_w : ∀ {ws : List (Str × List Str)} {b : Str}, b ∈ ws.map (·.1) → ∃ zs, (b, zs) ∈ ws ∧ look (.s b) (ws.map wkv) = some (.lst false (zs.map D.str))
  | [], b, h => by cases h
  | (k, z) :: ws, b, h => by
    rw [List.map_cons]
    unfold look
    by_cases e : k = b
    · subst e
      exact ⟨z, List.mem_cons_self, by rw [if_pos rfl]⟩
    · have h' : b ∈ ws.map (·.1) := (List.mem_cons.mp h).resolve_left fun q => e q.symm
      obtain ⟨zs, h1, h2⟩ := look_w h'
      exact ⟨zs, List.mem_cons_of_mem _ h1, by rw [if_neg (by simp [e])]; exact h2⟩
theorem look_no : ∀ {ws : List (Str × List Str)} {b : Str}, b ∉ ws.map (·.1) → look (.s b) (ws.map wkv) = none
  | [], b, h => rfl
  | (k, z) :: ws, b, h => by
    rw [List.map_cons]
    unfold look
    have e : k ≠ b := fun q => h (by rw [q]; exact List.mem_cons_self)
    rw [if_neg (by simp [e])]
    exact look_no fun q => h (List.mem_cons_of_mem _ q)
theorem isIn_w (ws : List (Str × List Str)) (o : Bool) (b : Str) : isIn (.str b) (.dct o (ws.map wkv)) = some (decide (b ∈ ws.map (·.1))) := by
  show (keyOf (.str b)).map (fun k => (look k (ws.map wkv)).isSome) = _
  show some ((look (.s b) (ws.map wkv)).isSome) = _
  by_cases h : b ∈ ws.map (·.1)
  · obtain ⟨zs, _, e⟩ := look_w h
    rw [e, decide_eq_true h]; rfl
  · rw [look_no h, decide_eq_false h]; rfl
theorem put_w {ws : List (Str × List Str)} {b : Str} (h : b ∉ ws.map (·.1)) (d : D) : putD (ws.map wkv) (.s b) d = ws.map wkv ++ [(.s b, d)] := by
  unfold putD
  rw [if_neg]
  intro q
  obtain ⟨p, hp, e⟩ := List.any_eq_true.mp q
  obtain ⟨w, hw, rfl⟩ := List.mem_map.mp hp
  have e' : (DK.s w.1) = DK.s b := of_decide_eq_true e
  injection e' with e'
  exact h (by rw [← e']; exact List.mem_map_of_mem hw)
theorem still_w : ∀ ws : List (Str × List Str), stillK (ws.map wkv) = true
  | [] => by rw [List.map_nil, stillK]
  | w :: ws => by rw [List.map_cons, stillK, still_w ws]; simp
theorem share_w : ∀ ws : List (Str × List Str), shareK (ws.map wkv) = ws.map wkv
  | [] => by rw [List.map_nil, shareK]
  | w :: ws => by rw [List.map_cons, shareK, share_w ws]; simp
theorem dc_ways {r : Env} (h5 : ∀ x : Str, (r.set 5 (.sh (.str x)))[5]? = some (.sh (.str x))) : ∀ (xs : List Str) (ws : List (Str × List Str)), (ws.map (·.1) ++ xs).Nodup → ws.length + xs.length ≤ 100000 → dcGo (.one 5) r none (eV 5) (eSh (eLst [(eV 5)])) (xs.map D.str) (ws.map wkv) = ret (.dct true ((ws ++ xs.map fun x => (x, [x])).map wkv))
  | [], ws, _, _ => by unfold dcGo; simp
  | x :: xs, ws, nd, hl => by
    have szl := PySem.sizeLine_eq
    rw [List.length_cons] at hl
    have hx : x ∉ ws.map (·.1) := fun h => by
      have := List.nodup_append.mp nd
      exact this.2.2 x h x List.mem_cons_self rfl
    have e1 : eV 5 (r.set 5 (.sh (.str x))) = ret (.str x) := by rw [z_V, h5 x]
    have ih := dc_ways h5 xs (ws ++ [(x, [x])]) (by simpa using nd) (by simp; omega)
    rw [List.map_cons]
    unfold dcGo
    rw [z_b1]
    dsimp only
    rw [if_pos (by rw [List.length_map]; omega), e1, z_bnd, z_Sh, z_Lst, z_cons, e1, z_nil]
    simp only [z_bnd, w_lst, w_cons, w_str, w_nil]
    have ek : keyOf (.str x) = some (.s x) := rfl
    rw [ek]
    dsimp only
    rw [put_w hx]
    have ec : ws.map wkv ++ [(DK.s x, D.lst false [D.str x])] = (ws ++ [(x, [x])]).map wkv := by rw [List.map_append]; rfl
    rw [ec, ih]
    congr 2
    simp
end HF

/-! HF: the plain side: ways down; who must go; in which order they are lifted. -/
namespace HF
open PySem (Str PyData sizeLine)
local macro_rules | `(tactic| walk_at "z") => `(tactic| simp only [z_bnd, z_fail, z_some, z_none, z_V, z_B, z_I, z_C, z_Inn, z_Sh, z_1, z_2, z_nil, z_cons, z_N, z_And, z_Or, z_Ite, z_Chain, z_Call, z_CallS, z_CallK, z_Tup, z_Lst, z_pick0, z_pick, z_itD, z_itN, z_n1, z_n2, z_l1, z_l2, z_Lc, z_wipe0, z_wipe, z_b1, z_b2, z_b3, z_part0, z_part, z_Sl, z_seq, z_nx, z_sFail, z_set, z_setO, z_ret, z_retV, z_retN, z_if, z_pre, z_gives0, z_gives, z_give, z_mut, z_mutAt, z_par, z_unp, z_parN, z_unpN, z_putSs0, z_putSs, z_putO, z_putS, z_for, z_rep0, w_lst, w_tup, w_dct, w_non, w_bl, w_int, w_str, w_box, w_scr, w_nil, w_cons, w_app, v_lst, v_dct, v_tup, v_non, v_bl, v_int, v_str, v_box, w_strs, w_pr2, w_ls2, u_lst, u_tup, u_int, u_str, u_bl, u_non, u_nil, u_cons, u_strs, u_pr2, u_ls2, ui_lst, ui_tup, ui_int, ui_str, ui_bl, o1, o2, o3, o4, o5, o6, o7, o8, o9, o10, o11, o12, o13, o14, o15, o16, o17, o18, o19, o20, o21, o22, o23, o24, o25, o26, o27, o28, o31, o32, o35, i_str_0, i_str_1, i_str_2, i_str_3, i_str_4, i_str_5, i_str_6, i_int_0, i_int_1, i_int_2, i_int_3, i_int_4, i_int_5, i_int_6, i_bl_0, i_bl_1, i_bl_2, i_bl_3, i_bl_4, i_bl_5, i_bl_6, i_non_0, i_non_1, i_non_2, i_non_3, i_non_4, i_non_5, i_non_6, i_lst_0, i_lst_1, i_lst_2, i_lst_3, i_lst_4, i_lst_5, i_lst_6, i_tup_0, i_tup_1, i_tup_2, i_tup_3, i_tup_4, i_tup_5, i_tup_6, dec_lt, dec_le, dec_eq, isN_non, isN_str, isN_int, isN_bl, isN_lst, isN_tup, sc_bl, sc_int, sc_str, sc_non, oAll_map, oAny_map, List.getElem?_cons_succ, List.getElem?_cons_zero, List.set_cons_succ, List.set_cons_zero, List.map_cons, List.map_nil, List.cons_append, List.nil_append, List.replicate_succ, Option.bind_some, if_true, if_false, Bool.not_true, Bool.not_false, Bool.and_true, Bool.true_and, Bool.and_false, Bool.false_and, Bool.or_true, Bool.true_or, Bool.or_false, Bool.false_or, decide_true, decide_false, reduceIte])
local macro_rules | `(tactic| walk_at "zs") => `(tactic| simp only [*, z_bnd, z_fail, z_some, z_none, z_V, z_B, z_I, z_C, z_Inn, z_Sh, z_1, z_2, z_nil, z_cons, z_N, z_And, z_Or, z_Ite, z_Chain, z_Call, z_CallS, z_CallK, z_Tup, z_Lst, z_pick0, z_pick, z_itD, z_itN, z_n1, z_n2, z_l1, z_l2, z_Lc, z_wipe0, z_wipe, z_b1, z_b2, z_b3, z_part0, z_part, z_Sl, z_seq, z_nx, z_sFail, z_set, z_setO, z_ret, z_retV, z_retN, z_if, z_pre, z_gives0, z_gives, z_give, z_mut, z_mutAt, z_par, z_unp, z_parN, z_unpN, z_putSs0, z_putSs, z_putO, z_putS, z_for, z_rep0, w_lst, w_tup, w_dct, w_non, w_bl, w_int, w_str, w_box, w_scr, w_nil, w_cons, w_app, v_lst, v_dct, v_tup, v_non, v_bl, v_int, v_str, v_box, w_strs, w_pr2, w_ls2, u_lst, u_tup, u_int, u_str, u_bl, u_non, u_nil, u_cons, u_strs, u_pr2, u_ls2, ui_lst, ui_tup, ui_int, ui_str, ui_bl, o1, o2, o3, o4, o5, o6, o7, o8, o9, o10, o11, o12, o13, o14, o15, o16, o17, o18, o19, o20, o21, o22, o23, o24, o25, o26, o27, o28, o31, o32, o35, i_str_0, i_str_1, i_str_2, i_str_3, i_str_4, i_str_5, i_str_6, i_int_0, i_int_1, i_int_2, i_int_3, i_int_4, i_int_5, i_int_6, i_bl_0, i_bl_1, i_bl_2, i_bl_3, i_bl_4, i_bl_5, i_bl_6, i_non_0, i_non_1, i_non_2, i_non_3, i_non_4, i_non_5, i_non_6, i_lst_0, i_lst_1, i_lst_2, i_lst_3, i_lst_4, i_lst_5, i_lst_6, i_tup_0, i_tup_1, i_tup_2, i_tup_3, i_tup_4, i_tup_5, i_tup_6, dec_lt, dec_le, dec_eq, isN_non, isN_str, isN_int, isN_bl, isN_lst, isN_tup, sc_bl, sc_int, sc_str, sc_non, oAll_map, oAny_map, List.getElem?_cons_succ, List.getElem?_cons_zero, List.set_cons_succ, List.set_cons_zero, List.map_cons, List.map_nil, List.cons_append, List.nil_append, List.replicate_succ, Option.bind_some, if_true, if_false, Bool.not_true, Bool.not_false, Bool.and_true, Bool.true_and, Bool.and_false, Bool.false_and, Bool.or_true, Bool.true_or, Bool.or_false, Bool.false_or, decide_true, decide_false, reduceIte])
def pWdIf : Sv :=
    (sIf (eAnd (e2 oGt (eIx (eI 3) (eB 7)) (eIx (eI 3) (eB 5))) (e2 oNotIn (eB 7) (eB 4)))
    (sSeq (sPut 4 (eB 7) (eSh (e2 oAdd (eInn (eIx (eI 4) (eB 5))) (eInn (eLst [(eV 7)])))))
    (sMut 6 mAppend [(eV 7)]))
    sNx)
def pWdC : Ev := e2 oGt (eN (n1 oLen) [(eB 6)]) (eC (.int 0))
def pWdB : Sv :=
    (sSeq (sPop0 5 6)
    (sFor (.one 7) (itD itSeq (eSh (eCall pFriendsOf [(eV 1), (eV 5)]))) pWdIf))
def pWaysDown : Fn := runFn 5
    (sSeq (sSet 3 (eSh (eCall pPlacesIn [(eV 0)])))
    (sSeq (sSetO 4 (eDc [5] (.one 5) (itD itSeq (eV 2)) none (eV 5) (eSh (eLst [(eV 5)]))))
    (sSeq (sSetO 6 (eN (n1 oListA) [(eI 4)]))
    (sSeq (sWhile 10000 pWdC pWdB)
    (sRetV 4)))))
abbrev wdE (d e b : D) (st : List Str) (ws : List (Str × List Str)) (v5 : Sl) (W : List Str) (v7 : Sl) : Env := [.sh d, .sh e, .sh b, .sh (.dct false (shareK (putAll st 0 []))), .ow (.dct true (ws.map wkv)), v5, .ow (.lst true (W.map D.str)), v7]
section
variable {st : List Str} {ps : List (Str × Str)} {some_ : List Str} {d e b : D}
theorem nin_w (ws : List (Str × List Str)) (x : Str) : oNotIn (.str x) (.dct true (ws.map wkv)) = some (.bl (!decide (x ∈ ws.map (·.1)))) := by unfold oNotIn; rw [isIn_w]; rfl
theorem wd_step (nd : st.Nodup) {book f : Str} (hb : book ∈ st) (hf : f ∈ st) {ws : List (Str × List Str)} {W : List Str} (hk : book ∈ ws.map (·.1)) (hl : ∀ w ∈ ws, w.2.length ≤ ws.length) (l1 : ws.length ≤ 1000) (l2 : W.length ≤ 100000) :
    ∃ ws2 W2, pWdIf (wdE d e b st ws (.sh (.str book)) W (.sh (.str f))) = ret (.nx, wdE d e b st ws2 (.sh (.str book)) W2 (.sh (.str f))) ∧
      ((ws2 = ws ∧ W2 = W ∧ (pos st book < pos st f → f ∈ ws.map (·.1))) ∨ (∃ z, ws2 = ws ++ [(f, z)] ∧ z.length ≤ ws.length + 1 ∧ W2 = W ++ [f] ∧ f ∉ ws.map (·.1) ∧ pos st book < pos st f)) := by
  have szl := PySem.sizeLine_eq
  have i1 := ix_place nd hf (o := false)
  have i2 := ix_place nd hb (o := false)
  have c1 : (e2 oGt (eIx (eI 3) (eB 7)) (eIx (eI 3) (eB 5))) (wdE d e b st ws (.sh (.str book)) W (.sh (.str f))) = ret (.bl (decide (pos st book < pos st f))) := q_2 (q_ix rfl rfl (fun n e => by cases e) i1) (q_ix rfl rfl (fun n e => by cases e) i2) (by rw [o5, dec_lt])
  have c2 : (e2 oNotIn (eB 7) (eB 4)) (wdE d e b st ws (.sh (.str book)) W (.sh (.str f))) = ret (.bl (!decide (f ∈ ws.map (·.1)))) := q_2 rfl rfl (nin_w ws f)
  by_cases h : pos st book < pos st f
  · rw [decide_eq_true h] at c1
    by_cases h2 : f ∈ ws.map (·.1)
    · rw [decide_eq_true h2] at c2
      exact ⟨ws, W, q_iff (q_andt c1 c2) rfl, .inl ⟨rfl, rfl, fun _ => h2⟩⟩
    · rw [decide_eq_false h2] at c2
      obtain ⟨zs, hz, ez⟩ := look_w hk
      have hz' := hl _ hz
      have ui : stillIn (.dct true (ws.map wkv)) = true := still_w ws
      have e4 : eI 4 (wdE d e b st ws (.sh (.str book)) W (.sh (.str f))) = ret (.dct true (ws.map wkv)) := by
        rw [z_I]
        show (if stillIn (.dct true (ws.map wkv)) then _ else _) = _
        rw [if_pos ui]
      have e5 : eIx (eI 4) (eB 5) (wdE d e b st ws (.sh (.str book)) W (.sh (.str f))) = ret (.lst false (zs.map D.str)) := q_ix e4 rfl (fun n e => by cases e) ez
      have ea : oAdd (.lst false (zs.map D.str)) (.lst true [.str f]) = some (.lst true ((zs ++ [f]).map D.str)) := by
        rw [add_lst (by rw [List.length_map]; show _ + 1 ≤ _; replace hz' : zs.length ≤ ws.length := hz'; omega), List.map_append]; rfl
      have e6 : eSh (e2 oAdd (eInn (eIx (eI 4) (eB 5))) (eInn (eLst [(eV 7)]))) (wdE d e b st ws (.sh (.str book)) W (.sh (.str f))) = ret (.lst false ((zs ++ [f]).map D.str)) := by
        refine q_sh' (q_2 (q_inn' e5 (by rw [v_lst, w_strs])) (q_inn' (show eLst [(eV 7)] _ = ret (.lst true [.str f]) from rfl) (by rw [v_lst, w_cons, w_str, w_nil])) ea) (by rw [w_lst, w_strs])
      have ep : sPut 4 (eB 7) (eSh (e2 oAdd (eInn (eIx (eI 4) (eB 5))) (eInn (eLst [(eV 7)])))) (wdE d e b st ws (.sh (.str book)) W (.sh (.str f))) = ret (.nx, wdE d e b st (ws ++ [(f, zs ++ [f])]) (.sh (.str book)) W (.sh (.str f))) := by
        unfold sPut
        rw [e6, bnd_ret]
        show (if stillK (ws.map wkv) && decide ((ws.map wkv).length < sizeLine) then _ else _) = _
        rw [still_w, decide_eq_true (by rw [List.length_map, szl]; omega), if_pos (show (true && true) = true from rfl), put_w h2]
        have : ws.map wkv ++ [(DK.s f, D.lst false ((zs ++ [f]).map D.str))] = (ws ++ [(f, zs ++ [f])]).map wkv := (List.map_append (f := wkv) (l₁ := ws) (l₂ := [(f, zs ++ [f])])).symm
        rw [this]
        rfl
      have em : sMut 6 mAppend [(eV 7)] (wdE d e b st (ws ++ [(f, zs ++ [f])]) (.sh (.str book)) W (.sh (.str f))) = ret (.nx, wdE d e b st (ws ++ [(f, zs ++ [f])]) (.sh (.str book)) (W ++ [f]) (.sh (.str f))) := by
        have ea := app_lst (xs := W.map D.str) (x := .str f) (by rw [List.length_map]; omega)
        walk_at "z"
        rw [ea]
        walk_at "z"
        rw [show List.map D.str W ++ [D.str f] = (W ++ [f]).map D.str by rw [List.map_append]; rfl]
      exact ⟨_, _, q_ift (q_andt c1 c2) (q_seq ep em), .inr ⟨_, rfl, by rw [List.length_append]; show _ + 1 ≤ _; replace hz' : zs.length ≤ ws.length := hz'; omega, rfl, h2, h⟩⟩
  · rw [decide_eq_false h] at c1
    exact ⟨ws, W, q_iff (q_andf c1) rfl, .inl ⟨rfl, rfl, fun q => absurd q h⟩⟩
/-- what holds while the books wait; `book` is being looked at -/
structure WI (st : List Str) (ps : List (Str × Str)) (some_ : List Str) (book : Option Str) (ws : List (Str × List Str)) (W : List Str) : Prop where
  nd : (ws.map (·.1)).Nodup
  dn : ∀ x ∈ ws.map (·.1), Dn st ps some_ x
  base : ∀ x ∈ some_, x ∈ ws.map (·.1)
  wait : ∀ x ∈ W, x ∈ ws.map (·.1)
  len : ∀ w ∈ ws, w.2.length ≤ ws.length
  cl : ∀ x ∈ ws.map (·.1), x ∉ W → some x = book ∨ ∀ y, Bn st ps x y → y ∈ ws.map (·.1)
theorem WI.le {bk : Option Str} {ws : List (Str × List Str)} {W : List Str} (h : WI st ps some_ bk ws W) (ip : InSt st ps) (hs : ∀ x ∈ some_, x ∈ st) : ws.length ≤ st.length := by
  have := h.nd.length_le_of_subset (fun x hx => (h.dn x hx).mem ip hs)
  rwa [List.length_map] at this
theorem wd_go (nd : st.Nodup) (sl : st.length ≤ 1000) (ip : InSt st ps) (hs : ∀ x ∈ some_, x ∈ st) {book : Str} : ∀ (fs : List Str) (ws : List (Str × List Str)) (W : List Str) (v7 : Sl), (∀ f ∈ fs, (book, f) ∈ ps) → WI st ps some_ (some book) ws W → book ∈ ws.map (·.1) → W.length + fs.length ≤ 100000 →
    ∃ ws2 W2 v7', forGo (.one 7) pWdIf (fs.map D.str) (wdE d e b st ws (.sh (.str book)) W v7) = ret (.nx, wdE d e b st ws2 (.sh (.str book)) W2 v7') ∧ WI st ps some_ (some book) ws2 W2 ∧ (∀ x ∈ ws.map (·.1), x ∈ ws2.map (·.1)) ∧ (∀ f ∈ fs, Bn st ps book f → f ∈ ws2.map (·.1)) ∧ W2.length + ws.length = W.length + ws2.length ∧ ws.length ≤ ws2.length
  | [], ws, W, v7, _, h, _, _ => ⟨ws, W, v7, rfl, h, fun _ q => q, (fun _ q => absurd q List.not_mem_nil), rfl, Nat.le_refl _⟩
  | f :: fs, ws, W, v7, hf, h, hk, hl => by
    rw [List.length_cons] at hl
    have hp := hf f List.mem_cons_self
    obtain ⟨m1, m2, _⟩ := ip _ hp
    have wl := h.le ip hs
    obtain ⟨ws1, W1, e1, q⟩ := wd_step (d := d) (e := e) (b := b) nd m1 m2 (W := W) hk h.len (by omega) (by omega)
    have key : WI st ps some_ (some book) ws1 W1 ∧ (∀ x ∈ ws.map (·.1), x ∈ ws1.map (·.1)) ∧ (Bn st ps book f → f ∈ ws1.map (·.1)) ∧ W1.length + ws.length = W.length + ws1.length ∧ ws.length ≤ ws1.length ∧ W1.length ≤ W.length + 1 := by
      rcases q with ⟨rfl, rfl, q⟩ | ⟨z, rfl, hz, rfl, hn, hlt⟩
      · exact ⟨h, fun _ q => q, fun hb => q hb.2, rfl, Nat.le_refl _, by omega⟩
      · have ek : (ws ++ [(f, z)]).map (·.1) = ws.map (·.1) ++ [f] := by rw [List.map_append]; rfl
        refine ⟨⟨?_, ?_, ?_, ?_, ?_, ?_⟩, ?_, ?_, by simp; omega, by simp, by simp⟩
        · rw [ek]; exact List.nodup_append.mpr ⟨h.nd, by simp, fun a ha c hc e => hn (by rw [← List.mem_singleton.mp hc, ← e]; exact ha)⟩
        · rw [ek]; intro x hx
          rcases List.mem_append.mp hx with hx | hx
          · exact h.dn x hx
          · rw [List.mem_singleton.mp hx]; exact .step (h.dn book hk) ⟨hp, hlt⟩
        · rw [ek]; exact fun x hx => List.mem_append_left _ (h.base x hx)
        · rw [ek]; intro x hx
          rcases List.mem_append.mp hx with hx | hx
          · exact List.mem_append_left _ (h.wait x hx)
          · exact List.mem_append_right _ hx
        · intro w hw
          rw [List.length_append]
          rcases List.mem_append.mp hw with hw | hw
          · exact Nat.le_succ_of_le (h.len w hw)
          · rw [List.mem_singleton.mp hw]; exact hz
        · rw [ek]; intro x hx hx2
          rcases List.mem_append.mp hx with hx | hx
          · rcases h.cl x hx (fun q => hx2 (List.mem_append_left _ q)) with q | q
            · exact .inl q
            · exact .inr fun y hy => List.mem_append_left _ (q y hy)
          · exact absurd (List.mem_append_right _ hx) hx2
        · rw [ek]; exact fun x hx => List.mem_append_left _ hx
        · rw [ek]; exact fun _ => List.mem_append_right _ (List.mem_singleton.mpr rfl)
    obtain ⟨k1, k2, k3, k4, k5, k6⟩ := key
    obtain ⟨ws2, W2, v7', e2, g1, g2, g3, g4, g5⟩ := wd_go nd sl ip hs (book := book) fs ws1 W1 (.sh (.str f)) (fun g hg => hf g (List.mem_cons_of_mem _ hg)) k1 (k2 _ hk) (by omega)
    refine ⟨ws2, W2, v7', ?_, g1, fun x hx => g2 x (k2 x hx), fun g hg hb => ?_, by omega, by omega⟩
    · rw [List.map_cons]
      unfold forGo
      rw [z_b1]
      dsimp only
      show bnd (pWdIf (wdE d e b st ws (.sh (.str book)) W (.sh (.str f)))) _ = _
      rw [e1, bnd_ret]
      exact e2
    · rcases List.mem_cons.mp hg with rfl | hg
      · exact g2 _ (k3 hb)
      · exact g3 g hg hb
theorem keys_w (ws : List (Str × List Str)) : (ws.map wkv).map (fun p => keyD p.1) = (ws.map (·.1)).map D.str := by rw [List.map_map, List.map_map]; rfl
theorem ways_down (hd : Sq d st) (nd : st.Nodup) (sl : st.length ≤ 1000) (he : Prs e ps) (hl2 : ps.length ≤ 50000) (ip : InSt st ps) (hb : Sq b some_) (sn : some_.Nodup) (hs : ∀ x ∈ some_, x ∈ st) :
    ∃ ws : List (Str × List Str), pWaysDown [d, e, b] = ret (.dct true (ws.map wkv)) ∧ Shut st ps some_ (ws.map (·.1)) := by
  have szl := PySem.sizeLine_eq
  have e1 := places_in hd sl
  have ml : some_.length ≤ st.length := sn.length_le_of_subset hs
  have dc := dc_ways (r := [.sh d, .sh e, .sh b, .sh (.dct false (shareK (putAll st 0 []))), .no, .no, .no, .no]) (fun _ => rfl) some_ [] (by simpa using sn) (by simp; omega)
  rw [List.nil_append, List.map_nil] at dc
  have e0 := hb.seq
  have key0 : (some_.map fun x => (x, [x])).map (·.1) = some_ := by rw [List.map_map]; exact List.map_id' _
  have i0 : WI st ps some_ none (some_.map fun x => (x, [x])) some_ := by
    refine ⟨by rw [key0]; exact sn, ?_, ?_, ?_, ?_, ?_⟩
    · rw [key0]; exact fun x hx => .base hx
    · rw [key0]; exact fun x hx => hx
    · rw [key0]; exact fun x hx => hx
    · intro w hw
      obtain ⟨x, hx, rfl⟩ := List.mem_map.mp hw
      rw [List.length_map]
      exact List.length_pos_of_mem hx
    · rw [key0]; exact fun x hx q => absurd hx q
  obtain ⟨r', ew, ws, W, v5, v7, er, hW, hi⟩ := while_pure (c := pWdC) (body := pWdB)
    (fun k r => ∃ (ws : List (Str × List Str)) (W : List Str) (v5 v7 : Sl), r = wdE d e b st ws v5 W v7 ∧ k = 2 * (st.length - ws.length) + W.length ∧ WI st ps some_ none ws W ∧ W.length ≤ ws.length)
    (fun r => ∃ (ws : List (Str × List Str)) (W : List Str) (v5 v7 : Sl), r = wdE d e b st ws v5 W v7 ∧ W = [] ∧ WI st ps some_ none ws W)
    (fun k r => by
      rintro ⟨ws, W, v5, v7, rfl, rfl, hi, hwl⟩
      have wl := hi.le ip hs
      have c1 : pWdC (wdE d e b st ws v5 W v7) = ret (.bl (decide (0 < W.length))) := by
        unfold pWdC
        walk_at "z"
        rw [List.length_map]
        congr 2
        rw [decide_eq_decide]; omega
      cases W with
      | nil => exact .inl ⟨c1, ws, [], v5, v7, rfl, rfl, hi⟩
      | cons book W =>
        refine .inr ⟨c1, ?_⟩
        have hk := hi.wait book List.mem_cons_self
        have i1 : WI st ps some_ (some book) ws W := ⟨hi.nd, hi.dn, hi.base, fun x hx => hi.wait x (List.mem_cons_of_mem _ hx), hi.len, fun x hx hx2 => by
          by_cases ex : x = book
          · exact .inl (by rw [ex])
          · refine .inr ?_
            rcases hi.cl x hx (fun q => by rcases List.mem_cons.mp q with q | q; exact ex q; exact hx2 q) with q | q
            · cases q
            · exact q⟩
        have fl := frs_le (ps := ps) book
        rw [List.length_cons] at hwl
        obtain ⟨ws2, W2, v7', e2, g1, g2, g3, g4, g5⟩ := wd_go (d := d) (e := e) (b := b) nd sl ip hs (book := book) (frs ps book) ws W v7 (fun f hf => mem_frs.mp hf) i1 hk (by omega)
        have wl2 := g1.le ip hs
        have ef := friends_of he book (by omega)
        refine ⟨_, 2 * (st.length - ws2.length) + W2.length, by rw [List.length_cons]; omega, ?_, ws2, W2, .sh (.str book), v7', rfl, rfl, ?_, ?_⟩
        · refine q_seq (r' := wdE d e b st ws (.sh (.str book)) W v7) ?_ ?_
          · show (if stillL ((book :: W).map D.str) then _ else _) = _
            rw [u_strs, if_pos rfl]
            rfl
          · walk_at "z"
            rw [ef]
            walk_at "z"
            exact e2
        · refine ⟨g1.nd, g1.dn, g1.base, g1.wait, g1.len, fun x hx hx2 => .inr ?_⟩
          rcases g1.cl x hx hx2 with q | q
          · cases q
            exact fun y hy => g3 y (mem_frs.mpr hy.1) hy
          · exact q
        · omega) 10000 _ _ ⟨_, _, .no, .no, rfl, rfl, i0, by rw [List.length_map]; exact Nat.le_refl _⟩ (by rw [List.length_map]; omega)
  subst er hW
  refine ⟨ws, ?_, Shut.of hi.nd hi.base hi.dn fun x hx y hy => ?_⟩
  · have ui : stillIn (.dct true ((some_.map fun x => (x, [x])).map wkv)) = true := still_w _
    unfold pWaysDown
    rw [z_fn]
    walk_at "z"
    rw [e1]
    walk_at "z"
    unfold eDc
    walk_at "z"
    rw [e0]
    walk_at "z"
    rw [dc]
    walk_at "z"
    rw [if_pos ui]
    have el : oListA (.dct true ((some_.map fun x => (x, [x])).map wkv)) = some (.lst true (some_.map D.str)) := by
      show some (D.lst true _) = _
      rw [keys_w, key0]
    walk_at "z"
    rw [el]
    walk_at "z"
    have ew' : sWhile 10000 pWdC pWdB (wdE d e b st (some_.map fun x => (x, [x])) .no some_ .no) = _ := ew
    rw [ew']
    walk_at "z"
  · rcases hi.cl x hx (fun q => by cases q) with q | q
    · cases q
    · exact q y hy
end
end HF

/-! HF: the plain side: who must go, what is lifted; the law's own reckoning beneath; rows that lift. -/
namespace HF
open PySem (Str PyData sizeLine)
local macro_rules | `(tactic| walk_at "z") => `(tactic| simp only [z_bnd, z_fail, z_some, z_none, z_V, z_B, z_I, z_C, z_Inn, z_Sh, z_1, z_2, z_nil, z_cons, z_N, z_And, z_Or, z_Ite, z_Chain, z_Call, z_CallS, z_CallK, z_Tup, z_Lst, z_pick0, z_pick, z_itD, z_itN, z_n1, z_n2, z_l1, z_l2, z_Lc, z_wipe0, z_wipe, z_b1, z_b2, z_b3, z_part0, z_part, z_Sl, z_seq, z_nx, z_sFail, z_set, z_setO, z_ret, z_retV, z_retN, z_if, z_pre, z_gives0, z_gives, z_give, z_mut, z_mutAt, z_par, z_unp, z_parN, z_unpN, z_putSs0, z_putSs, z_putO, z_putS, z_for, z_rep0, w_lst, w_tup, w_dct, w_non, w_bl, w_int, w_str, w_box, w_scr, w_nil, w_cons, w_app, v_lst, v_dct, v_tup, v_non, v_bl, v_int, v_str, v_box, w_strs, w_pr2, w_ls2, u_lst, u_tup, u_int, u_str, u_bl, u_non, u_nil, u_cons, u_strs, u_pr2, u_ls2, ui_lst, ui_tup, ui_int, ui_str, ui_bl, o1, o2, o3, o4, o5, o6, o7, o8, o9, o10, o11, o12, o13, o14, o15, o16, o17, o18, o19, o20, o21, o22, o23, o24, o25, o26, o27, o28, o31, o32, o35, i_str_0, i_str_1, i_str_2, i_str_3, i_str_4, i_str_5, i_str_6, i_int_0, i_int_1, i_int_2, i_int_3, i_int_4, i_int_5, i_int_6, i_bl_0, i_bl_1, i_bl_2, i_bl_3, i_bl_4, i_bl_5, i_bl_6, i_non_0, i_non_1, i_non_2, i_non_3, i_non_4, i_non_5, i_non_6, i_lst_0, i_lst_1, i_lst_2, i_lst_3, i_lst_4, i_lst_5, i_lst_6, i_tup_0, i_tup_1, i_tup_2, i_tup_3, i_tup_4, i_tup_5, i_tup_6, dec_lt, dec_le, dec_eq, isN_non, isN_str, isN_int, isN_bl, isN_lst, isN_tup, sc_bl, sc_int, sc_str, sc_non, oAll_map, oAny_map, List.getElem?_cons_succ, List.getElem?_cons_zero, List.set_cons_succ, List.set_cons_zero, List.map_cons, List.map_nil, List.cons_append, List.nil_append, List.replicate_succ, Option.bind_some, if_true, if_false, Bool.not_true, Bool.not_false, Bool.and_true, Bool.true_and, Bool.and_false, Bool.false_and, Bool.or_true, Bool.true_or, Bool.or_false, Bool.false_or, decide_true, decide_false, reduceIte])
local macro_rules | `(tactic| walk_at "zs") => `(tactic| simp only [*, z_bnd, z_fail, z_some, z_none, z_V, z_B, z_I, z_C, z_Inn, z_Sh, z_1, z_2, z_nil, z_cons, z_N, z_And, z_Or, z_Ite, z_Chain, z_Call, z_CallS, z_CallK, z_Tup, z_Lst, z_pick0, z_pick, z_itD, z_itN, z_n1, z_n2, z_l1, z_l2, z_Lc, z_wipe0, z_wipe, z_b1, z_b2, z_b3, z_part0, z_part, z_Sl, z_seq, z_nx, z_sFail, z_set, z_setO, z_ret, z_retV, z_retN, z_if, z_pre, z_gives0, z_gives, z_give, z_mut, z_mutAt, z_par, z_unp, z_parN, z_unpN, z_putSs0, z_putSs, z_putO, z_putS, z_for, z_rep0, w_lst, w_tup, w_dct, w_non, w_bl, w_int, w_str, w_box, w_scr, w_nil, w_cons, w_app, v_lst, v_dct, v_tup, v_non, v_bl, v_int, v_str, v_box, w_strs, w_pr2, w_ls2, u_lst, u_tup, u_int, u_str, u_bl, u_non, u_nil, u_cons, u_strs, u_pr2, u_ls2, ui_lst, ui_tup, ui_int, ui_str, ui_bl, o1, o2, o3, o4, o5, o6, o7, o8, o9, o10, o11, o12, o13, o14, o15, o16, o17, o18, o19, o20, o21, o22, o23, o24, o25, o26, o27, o28, o31, o32, o35, i_str_0, i_str_1, i_str_2, i_str_3, i_str_4, i_str_5, i_str_6, i_int_0, i_int_1, i_int_2, i_int_3, i_int_4, i_int_5, i_int_6, i_bl_0, i_bl_1, i_bl_2, i_bl_3, i_bl_4, i_bl_5, i_bl_6, i_non_0, i_non_1, i_non_2, i_non_3, i_non_4, i_non_5, i_non_6, i_lst_0, i_lst_1, i_lst_2, i_lst_3, i_lst_4, i_lst_5, i_lst_6, i_tup_0, i_tup_1, i_tup_2, i_tup_3, i_tup_4, i_tup_5, i_tup_6, dec_lt, dec_le, dec_eq, isN_non, isN_str, isN_int, isN_bl, isN_lst, isN_tup, sc_bl, sc_int, sc_str, sc_non, oAll_map, oAny_map, List.getElem?_cons_succ, List.getElem?_cons_zero, List.set_cons_succ, List.set_cons_zero, List.map_cons, List.map_nil, List.cons_append, List.nil_append, List.replicate_succ, Option.bind_some, if_true, if_false, Bool.not_true, Bool.not_false, Bool.and_true, Bool.true_and, Bool.and_false, Bool.false_and, Bool.or_true, Bool.true_or, Bool.or_false, Bool.false_or, decide_true, decide_false, reduceIte])
section
variable {st : List Str} {ps : List (Str × Str)} {some_ K : List Str} {d e b : D}
theorem Dn.congr {s2 : List Str} (h : ∀ x, x ∈ some_ → x ∈ s2) {y : Str} (q : Dn st ps some_ y) : Dn st ps s2 y := by
  induction q with
  | base hx => exact .base (h _ hx)
  | step _ hb ih => exact .step ih hb
theorem Shut.congr {s2 : List Str} (h : ∀ x, x ∈ some_ ↔ x ∈ s2) (q : Shut st ps some_ K) : Shut st ps s2 K :=
  ⟨q.nd, fun y => by rw [q.all]; exact ⟨.congr fun x => (h x).mp, .congr fun x => (h x).mpr⟩⟩
theorem Shut.sub (h : Shut st ps some_ K) (ip : InSt st ps) (hs : ∀ x ∈ some_, x ∈ st) : ∀ x ∈ K, x ∈ st := fun x hx => ((h.all x).mp hx).mem ip hs
theorem txtKeys_w : ∀ ws : List (Str × List Str), txtKeys (ws.map wkv) = some (ws.map (·.1))
  | [] => rfl
  | w :: ws => by
    rw [List.map_cons]
    show (txtKeys (ws.map wkv)).map (w.1 :: ·) = _
    rw [txtKeys_w ws]; rfl
def pMustGo : Fn := runFn 0 (sRet (eN (n1 oSortA) [(eCall pWaysDown [(eV 0), (eV 1), (eV 2)])]))
def pLift : Fn := runFn 2
    (sSeq (sSet 3 (eSh (eCall pWaysDown [(eV 0), (eV 1), (eV 2)])))
    (sRet (eLc [4] (.one 4) (itD itRev (eV 0)) (some (e2 oIn (eB 4) (eB 3))) (eV 4))))
theorem sortT_congr {a c : List Str} (h : a.Perm c) : sortT a = sortT c := by
  exact List.Perm.eq_of_pairwise (le := fun x y => leS x y = true) (fun x y _ _ => leS_anti) (List.pairwise_mergeSort leS_trans leS_total a) (List.pairwise_mergeSort leS_trans leS_total c) ((List.mergeSort_perm a leS).trans (h.trans (List.mergeSort_perm c leS).symm))
def lifted (st K : List Str) : List Str := st.reverse.filter fun y => decide (y ∈ K)
theorem lifted_congr {K' : List Str} (h : K.Perm K') : lifted st K = lifted st K' := List.filter_congr fun y _ => by rw [decide_eq_decide]; exact h.mem_iff
theorem must_go (hd : Sq d st) (nd : st.Nodup) (sl : st.length ≤ 60) (he : Prs e ps) (hl2 : ps.length ≤ 50000) (ip : InSt st ps) (hb : Sq b some_) (sn : some_.Nodup) (hs : ∀ x ∈ some_, x ∈ st) (hK : Shut st ps some_ K) :
    pMustGo [d, e, b] = ret (.lst true ((sortT K).map D.str)) := by
  obtain ⟨ws, e1, h⟩ := ways_down hd nd (by omega) he hl2 ip hb sn hs
  have pm := h.perm hK
  have kl : (ws.map (·.1)).length ≤ st.length := h.nd.length_le_of_subset (h.sub ip hs)
  have e2 : oSortA (.dct true (ws.map wkv)) = some (.lst true ((sortT K).map D.str)) := by
    show (match txtKeys (ws.map wkv) with | some ks => _ | none => none) = _
    rw [txtKeys_w]
    dsimp only
    rw [if_pos (by omega), sortT_congr pm]
  unfold pMustGo
  rw [z_fn]
  walk_at "z"
  rw [e1]
  walk_at "z"
  rw [e2]
  walk_at "z"
theorem Sq.itRev (h : Sq d st) : itRev d = some (st.reverse.map D.str) := by
  rcases h with rfl | ⟨o, rfl⟩
  · show some _ = _; rw [List.map_reverse]
  · show some _ = _; rw [List.map_reverse]
theorem lift_ok (hd : Sq d st) (nd : st.Nodup) (sl : st.length ≤ 60) (he : Prs e ps) (hl2 : ps.length ≤ 50000) (ip : InSt st ps) (hb : Sq b some_) (sn : some_.Nodup) (hs : ∀ x ∈ some_, x ∈ st) (hK : Shut st ps some_ K) :
    pLift [d, e, b] = ret (.lst true ((lifted st K).map D.str)) := by
  obtain ⟨ws, e1, h⟩ := ways_down hd nd (by omega) he hl2 ip hb sn hs
  have pm := h.perm hK
  have e2 := hd.itRev
  have go := lc_strs (tg := 4) (r := [.sh d, .sh e, .sh b, .sh (.dct false (ws.map wkv)), .no]) (c := HF.e2 oIn (eB 4) (eB 3)) (e := eV 4) (fun y => decide (y ∈ K)) D.str st.reverse (fun x _ => ⟨by
    refine q_2 rfl rfl ?_
    unfold oIn
    rw [isIn_w]
    have : decide (x ∈ ws.map (·.1)) = decide (x ∈ K) := by rw [decide_eq_decide]; exact pm.mem_iff
    rw [this]; rfl, fun _ => by walk_at "z"⟩) (by rw [List.length_reverse]; omega)
  unfold pLift
  rw [z_fn]
  walk_at "z"
  rw [e1]
  walk_at "z"
  rw [share_w]
  rw [e2]
  walk_at "z"
  rw [go]
  walk_at "z"
  rfl
/-! the law's own reckoning -/
def pBnC : Ev := e2 oLt (eB 4) (eN (n1 oLen) [(eB 3)])
def pBnB : Sv :=
    (sSeq (sSet 5 (eSh (eIx (eI 3) (eB 4))))
    (sSeq (sSetO 6 (eLc [7] (.one 7) (itD itSeq (eSh (eCall pFriendsL [(eV 1), (eV 5)]))) (some (eCall pAbove [(eV 0), (eV 5), (eV 7)])) (eV 7)))
    (sPre [6] (sSeq (sSet 3 (eSh (e2 oAdd (eI 3) (eInn (eLc [7] (.one 7) (itD itSeq (eV 6)) (some (e2 oNotIn (eB 7) (eB 3))) (eV 7))))))
    (sSet 4 (eSh (e2 oAdd (eI 4) (eC (.int 1)))))))))
def pBeneath : Fn := runFn 5
    (sSeq (sUnp 3 false 4 false (eTup [(eSh (eN (n1 oList) [(eI 2)])), (eC (.int 0))]))
    (sSeq (sWhile 10000 pBnC pBnB)
    (sRetV 3)))
abbrev bnE (st : List Str) (e s : D) (F : List Str) (a : Nat) (v5 v6 v7 : Sl) : Env := [.sh (.tup (st.map D.str)), .sh e, .sh s, .sh (.lst false (F.map D.str)), .sh (.int a), v5, v6, v7]
theorem frl_nodup (h : ps.Nodup) (x : Str) : (frl ps x).Nodup := by
  unfold frl
  refine List.pairwise_map.mpr (List.Pairwise.imp_of_mem (fun {a c} ha hc ne ee => ne ?_) (h.sublist (List.filter_sublist (p := fun p : Str × Str => decide (p.1 = x)))))
  have h1 : a.1 = x := of_decide_eq_true (List.mem_filter.mp ha).2
  have h2 : c.1 = x := of_decide_eq_true (List.mem_filter.mp hc).2
  exact Prod.ext (h1.trans h2.symm) ee
theorem bn_step (nd : st.Nodup) (sl : st.length ≤ 1000) (he : Prs e ps) (hl2 : ps.length ≤ 50000) (ip : InSt st ps) {F : List Str} {a : Nat} (hF : ∀ x ∈ F, x ∈ st) (fl : F.length ≤ 1000) (ha : a < F.length) {s : D} {v5 v6 v7 : Sl} :
    ∃ v6' v7', pBnB (bnE st e s F a v5 v6 v7) = ret (.nx, bnE st e s (F ++ ((frl ps F[a]).filter fun f => decide (pos st F[a] < pos st f)).filter fun f => !decide (f ∈ F)) (a + 1) (.sh (.str F[a])) v6' v7') := by
  have hm : F[a] ∈ F := List.getElem_mem ha
  have hs := hF _ hm
  have e1 : eIx (eI 3) (eB 4) (bnE st e s F a v5 v6 v7) = ret (.str F[a]) := q_ix (x := .lst false (F.map D.str)) (by walk_at "z") rfl (fun n e => by cases e) (by rw [o32, List.getElem?_map, List.getElem?_eq_getElem ha]; rfl)
  have e2 := friendsL he F[a] (by omega)
  have ll : (frl ps F[a]).length ≤ ps.length := by unfold frl; rw [List.length_map]; exact List.length_filter_le _ _
  have g1 := lc_strs (tg := 7) (r := [.sh (.tup (st.map D.str)), .sh e, .sh s, .sh (.lst false (F.map D.str)), .sh (.int a), .sh (.str F[a]), v6, .no]) (c := eCall pAbove [(eV 0), (eV 5), (eV 7)]) (e := eV 7) (fun f => decide (pos st F[a] < pos st f)) D.str (frl ps F[a]) (fun f hf => ⟨by
    have e3 := above_ok hs (ip _ (mem_frl.mp hf)).2.1
    walk_at "z"
    exact e3, fun _ => by walk_at "z"⟩) (by omega)
  have l1 := List.length_filter_le (fun f => decide (pos st F[a] < pos st f)) (frl ps F[a])
  generalize (frl ps F[a]).filter (fun f => decide (pos st F[a] < pos st f)) = low at g1 l1 ⊢
  have g2 := lc_strs (tg := 7) (r := [.sh (.tup (st.map D.str)), .sh e, .sh s, .sh (.lst false (F.map D.str)), .sh (.int a), .sh (.str F[a]), .sh (.lst false (low.map D.str)), .no]) (c := HF.e2 oNotIn (eB 7) (eB 3)) (e := eV 7) (fun f => !decide (f ∈ F)) D.str low (fun f _ => ⟨by
    have e3 := nin_strs (d := .lst false (F.map D.str)) (.inr ⟨_, rfl⟩) f
    walk_at "z"
    rw [e3]
    walk_at "z", fun _ => by walk_at "z"⟩) (by omega)
  have l2 := List.length_filter_le (fun f => !decide (f ∈ F)) low
  have ea := add_lst (o := false) (o' := true) (a := F.map D.str) (b := (low.filter fun f => !decide (f ∈ F)).map D.str) (by rw [List.length_map, List.length_map]; omega)
  refine ⟨.sh (.lst false (low.map D.str)), v7, ?_⟩
  unfold pBnB
  simp only [z_seq, z_set, z_Sh, e1]
  walk_at "z"
  rw [e2]
  walk_at "z"
  rw [g1]
  walk_at "z"
  rw [g2]
  walk_at "z"
  rw [ea]
  walk_at "z"
  rw [← List.map_append]
  rfl
theorem beneath (nd : st.Nodup) (sl : st.length ≤ 1000) (he : Prs e ps) (pn : ps.Nodup) (hl2 : ps.length ≤ 50000) (ip : InSt st ps) (hb : Sq b some_) (sn : some_.Nodup) (hs : ∀ x ∈ some_, x ∈ st) :
    ∃ K, pBeneath [.tup (st.map D.str), e, b] = ret (.lst false (K.map D.str)) ∧ Shut st ps some_ K := by
  have e0 := hb.list
  have e0' : stillIn b = true := by rcases hb with rfl | ⟨o, rfl⟩ <;> walk_at "z"
  obtain ⟨r', ew, F, a, v5, v6, v7, er, h1, h2, h3, h4⟩ := while_pure (c := pBnC) (body := pBnB)
    (fun k r => ∃ (F : List Str) (a : Nat) (v5 v6 v7 : Sl), r = bnE st e b F a v5 v6 v7 ∧ k = st.length - a ∧ a ≤ F.length ∧ F.Nodup ∧ (∀ x ∈ some_, x ∈ F) ∧ (∀ x ∈ F, Dn st ps some_ x) ∧ ∀ x ∈ F.take a, ∀ y, Bn st ps x y → y ∈ F)
    (fun r => ∃ (F : List Str) (a : Nat) (v5 v6 v7 : Sl), r = bnE st e b F a v5 v6 v7 ∧ F.Nodup ∧ (∀ x ∈ some_, x ∈ F) ∧ (∀ x ∈ F, Dn st ps some_ x) ∧ ∀ x ∈ F, ∀ y, Bn st ps x y → y ∈ F)
    (fun k r => by
      rintro ⟨F, a, v5, v6, v7, rfl, rfl, ha, n, f1, f2, f3⟩
      have hF : ∀ x ∈ F, x ∈ st := fun x hx => (f2 x hx).mem ip hs
      have fl : F.length ≤ st.length := n.length_le_of_subset hF
      have c1 : pBnC (bnE st e b F a v5 v6 v7) = ret (.bl (decide (a < F.length))) := by
        unfold pBnC
        walk_at "z"
        rw [List.length_map]
      by_cases q : a < F.length
      · rw [decide_eq_true q] at c1
        obtain ⟨v6', v7', e1⟩ := bn_step (s := b) (v5 := v5) (v6 := v6) (v7 := v7) nd sl he hl2 ip hF (by omega) q
        refine .inr ⟨c1, _, st.length - (a + 1), by omega, e1, _, _, _, _, _, rfl, rfl, by rw [List.length_append]; omega, ?_, fun x hx => List.mem_append_left _ (f1 x hx), ?_, ?_⟩
        · refine List.nodup_append.mpr ⟨n, ((frl_nodup pn _).sublist List.filter_sublist).sublist List.filter_sublist, fun x hx y hy ee => ?_⟩
          have := (List.mem_filter.mp hy).2
          rw [← ee] at this
          simp [hx] at this
        · intro x hx
          rcases List.mem_append.mp hx with hx | hx
          · exact f2 x hx
          · obtain ⟨m1, m2⟩ := List.mem_filter.mp (List.mem_filter.mp hx).1
            exact .step (f2 _ (List.getElem_mem q)) ⟨mem_frl.mp m1, of_decide_eq_true m2⟩
        · intro x hx y hy
          rw [List.take_append_of_le_length (by omega), List.take_succ, List.mem_append] at hx
          rcases hx with hx | hx
          · exact List.mem_append_left _ (f3 x hx y hy)
          · rw [List.getElem?_eq_getElem q] at hx
            have ex : x = F[a] := List.mem_singleton.mp hx
            subst ex
            by_cases hyF : y ∈ F
            · exact List.mem_append_left _ hyF
            · exact List.mem_append_right _ (List.mem_filter.mpr ⟨List.mem_filter.mpr ⟨mem_frl.mpr hy.1, decide_eq_true hy.2⟩, by simp [hyF]⟩)
      · rw [decide_eq_false q] at c1
        refine .inl ⟨c1, F, a, v5, v6, v7, rfl, n, f1, f2, fun x hx => f3 x ?_⟩
        rw [List.take_of_length_le (by omega)]; exact hx) 10000 _ (bnE st e b some_ 0 .no .no .no) ⟨_, _, _, _, _, rfl, rfl, Nat.zero_le _, sn, fun _ q => q, fun x hx => .base hx, fun x hx => by simp at hx⟩ (by omega)
  subst er
  refine ⟨F, ?_, Shut.of h1 h2 h3 h4⟩
  unfold pBeneath
  rw [z_fn]
  walk_at "z"
  rw [e0]
  walk_at "z"
  have ew' : sWhile 10000 pBnC pBnB (bnE st e b some_ 0 .no .no .no) = _ := ew
  have ew2 := ew'
  unfold bnE at ew2
  rw [show ((0 : Nat) : Int) = 0 from rfl] at ew2
  rw [ew2]
  walk_at "z"
/-! going by the law -/
def pLeft : Fn := runFn 1
    (sSeq (sFor (.one 2) (itD itSeq (eV 1))
    (sSet 0 (eSh (eCall pMoved [(eV 0), (eV 2)]))))
    (sRetV 0))
theorem leftL_go {x1 : D} : ∀ (row st : List Str) (v2 : Sl), st.Nodup → (∀ x ∈ row, x ∈ st) → st.length ≤ 1000 → ∃ w2, forGo (.one 2) (sSet 0 (eSh (eCall pMoved [(eV 0), (eV 2)]))) (row.map D.str) [.sh (.tup (st.map D.str)), .sh x1, v2] = ret (.nx, [.sh (.tup ((leftBy st row).map D.str)), .sh x1, w2])
  | [], st, v2, _, _, _ => ⟨v2, rfl⟩
  | x :: row, st, v2, hn, hx, hl => by
    have pm := mvd_perm hn (hx x List.mem_cons_self)
    have e1 := moved_ok (d := .tup (st.map D.str)) (.inl rfl) hl x
    obtain ⟨w2, e3⟩ := leftL_go (x1 := x1) row (mvd st x) (.sh (.str x)) (pm.nodup_iff.mpr hn) (fun y hy => pm.mem_iff.mpr (hx y (List.mem_cons_of_mem _ hy))) (by rw [pm.length_eq]; exact hl)
    refine ⟨w2, ?_⟩
    rw [List.map_cons]
    unfold forGo
    walk_at "z"
    rw [e1]
    walk_at "z"
    exact e3
theorem leftL (hn : st.Nodup) (hl : st.length ≤ 1000) {r : D} {row : List Str} (hr : itSeq r = some (row.map D.str)) (hx : ∀ x ∈ row, x ∈ st) : pLeft [.tup (st.map D.str), r] = ret (.tup ((leftBy st row).map D.str)) := by
  obtain ⟨w2, e2⟩ := leftL_go (x1 := r) row st .no hn hx hl
  unfold pLeft
  rw [z_fn]
  walk_at "z"
  rw [hr]
  walk_at "z"
  rw [e2]
  walk_at "z"
def pRefB : Sv :=
    (sSeq (sIf (e1 oNot (eCall pLet [(eV 0), (eV 1), (eV 4)]))
    (sRetV 3)
    sNx)
    (sSet 0 (eSh (eCall pMoved [(eV 0), (eV 4)]))))
def pRefusedAt : Fn := runFn 2
    (sSeq (sFor (.two 3 4) (itN (l1 itEnumD) [(eV 2)]) pRefB)
    (sRet (eC .non)))
theorem refL_go {x2 : D} (h2 : Prs e ps) (hl2 : ps.length ≤ 100000) : ∀ (row st : List Str) (i : Nat) (v3 v4 : Sl), st.Nodup → st.length ≤ 1000 → InSt st ps → letAll st ps row = true → ∃ r', forGo (.two 3 4) pRefB (((row.map D.str).zipIdx i).map fun p => D.tup [.int p.2, p.1]) [.sh (.tup (st.map D.str)), .sh e, .sh x2, v3, v4] = ret (.nx, r')
  | [], st, i, v3, v4, _, _, _, _ => ⟨_, rfl⟩
  | x :: row, st, i, v3, v4, hn, hl, ip, ok => by
    unfold letAll at ok
    rw [Bool.and_eq_true, Bool.and_eq_true, decide_eq_true_iff] at ok
    obtain ⟨⟨hx, hlet⟩, ok⟩ := ok
    have pm := mvd_perm hn hx
    have e4 := moved_ok (d := .tup (st.map D.str)) (.inl rfl) hl x
    have e1 := let_ok h2 hl2 ip hx
    rw [hlet] at e1
    obtain ⟨r', e3⟩ := refL_go (x2 := x2) h2 hl2 row (mvd st x) (i + 1) (.sh (.int i)) (.sh (.str x)) (pm.nodup_iff.mpr hn) (by rw [pm.length_eq]; exact hl) (ip.perm pm) ok
    refine ⟨r', ?_⟩
    rw [List.map_cons, List.zipIdx_cons, List.map_cons]
    unfold forGo
    unfold pRefB at e3 ⊢
    walk_at "z"
    rw [e1]
    walk_at "z"
    rw [e4]
    walk_at "z"
    exact e3
theorem refused_none (hn : st.Nodup) (hl : st.length ≤ 1000) (h2 : Prs e ps) (hl2 : ps.length ≤ 100000) (ip : InSt st ps) {r : D} {row : List Str} (hr : itemsD r = some (row.map D.str)) (ok : letAll st ps row = true) : pRefusedAt [.tup (st.map D.str), e, r] = ret .non := by
  have e0 : itEnumD r = some (((row.map D.str).zipIdx 0).map fun p => D.tup [.int p.2, p.1]) := by unfold itEnumD; rw [hr]; rfl
  obtain ⟨r', e2⟩ := refL_go (x2 := r) h2 hl2 row st 0 .no .no hn hl ip ok
  unfold pRefusedAt
  rw [z_fn]
  walk_at "z"
  rw [e0]
  walk_at "z"
  rw [e2]
  walk_at "z"
/-! what is lifted may go -/
theorem lifted_nd (nd : st.Nodup) : (lifted st K).Nodup := ((List.reverse_perm st).nodup_iff.mpr nd).sublist List.filter_sublist
theorem mem_lifted {x : Str} : x ∈ lifted st K ↔ x ∈ st ∧ x ∈ K := by
  unfold lifted
  rw [List.mem_filter, List.mem_reverse, decide_eq_true_iff]
theorem lifted_pos (nd : st.Nodup) {x f : Str} (hx : x ∈ st) (hf : f ∈ st) (kx : x ∈ K) (kf : f ∈ K) (h : pos st x < pos st f) : pos (lifted st K) f < pos (lifted st K) x := by
  refine pos_sub (lifted_nd nd) ?_
  have s1 := (sub_pos hx hf h).reverse
  have s2 := s1.filter fun y => decide (y ∈ K)
  have e1 : ([x, f].reverse.filter fun y => decide (y ∈ K)) = [f, x] := by simp [kx, kf]
  rw [e1] at s2
  exact s2
theorem lifted_ok (nd : st.Nodup) (ip : InSt st ps) (h : Shut st ps some_ K) : letAll st ps (lifted st K) = true := by
  have ln := lifted_nd (K := K) nd
  refine letAll_of nd (lifted st K) [] (fun x hx => (mem_lifted.mp hx).1) rfl fun p x q eq => letB_iff.mpr fun f hf => ?_
  rw [List.nil_append] at eq
  obtain ⟨m1, m2, ne⟩ := ip _ hf
  have hx : x ∈ lifted st K := by rw [eq]; simp
  obtain ⟨xs, xk⟩ := mem_lifted.mp hx
  rw [eq] at ln
  obtain ⟨pn, n2, dj⟩ := List.nodup_append.mp ln
  have xp : x ∉ p := fun z => dj x z x List.mem_cons_self rfl
  have ln2 : (leftBy st p).Nodup := by
    rw [leftBy_nd st p pn]
    refine List.nodup_append.mpr ⟨(List.reverse_perm p).nodup_iff.mpr pn, nd.sublist List.filter_sublist, fun a ha c hc ee => ?_⟩
    have := (List.mem_filter.mp hc).2
    rw [← ee] at this
    simp [List.mem_reverse.mp ha] at this
  refine pos_sub ln2 ?_
  rw [leftBy_nd st p pn]
  have hxf : x ∈ st.filter fun y => !decide (y ∈ p) := List.mem_filter.mpr ⟨xs, by simp [xp]⟩
  by_cases fp : f ∈ p
  · exact List.Sublist.append (l₁ := [f]) (r₁ := [x]) (List.singleton_sublist.mpr (List.mem_reverse.mpr fp)) (List.singleton_sublist.mpr hxf)
  · have lt : pos st f < pos st x := by
      rcases pos_tri (l := st) (x := f) (y := x) m2 xs (fun z => ne z.symm) with u | u
      · exact u
      · exfalso
        have fk : f ∈ K := (h.all f).mpr (.step ((h.all x).mp xk) ⟨hf, u⟩)
        have lt := lifted_pos nd xs m2 xk fk u
        have fl : f ∈ lifted st K := mem_lifted.mpr ⟨m2, fk⟩
        rw [eq] at lt fl
        rcases List.mem_append.mp fl with z | z
        · exact fp z
        · rcases List.mem_cons.mp z with z | z
          · exact ne z.symm
          · have s : [x, f].Sublist (p ++ x :: q) := List.sublist_append_of_sublist_right ((List.singleton_sublist.mpr z).cons_cons x)
            exact Nat.lt_asymm lt (pos_sub ln s)
    have s := (sub_pos m2 xs lt).filter fun y => !decide (y ∈ p)
    have e1 : ([f, x].filter fun y => !decide (y ∈ p)) = [f, x] := by simp [fp, xp]
    rw [e1] at s
    exact List.sublist_append_of_sublist_right s
theorem lifted_top (nd : st.Nodup) (ip : InSt st ps) {a : Str} (ha : a ∈ st) (h : Shut st ps [a] K) : ∃ rest, leftBy st (lifted st K) = a :: rest := by
  rw [leftBy_nd st _ (lifted_nd nd)]
  have er : (lifted st K).reverse = st.filter fun y => decide (y ∈ K) := by unfold lifted; rw [← List.filter_reverse, List.reverse_reverse]
  rw [er]
  have ka : a ∈ K := (h.all a).mpr (.base (List.mem_singleton.mpr rfl))
  have low : ∀ y, Dn st ps [a] y → pos st a ≤ pos st y := by
    intro y hy
    induction hy with
    | base hx => rw [List.mem_singleton.mp hx]; exact Nat.le_refl _
    | step _ hb ih => exact Nat.le_trans ih (Nat.le_of_lt hb.2)
  have am : a ∈ st.filter fun y => decide (y ∈ K) := List.mem_filter.mpr ⟨ha, decide_eq_true ka⟩
  cases e1 : st.filter fun y => decide (y ∈ K) with
  | nil => rw [e1] at am; cases am
  | cons c t =>
    rw [e1] at am
    rcases List.mem_cons.mp am with rfl | z
    · exact ⟨_, rfl⟩
    · exfalso
      have s : [c, a].Sublist st := ((List.singleton_sublist.mpr z).cons_cons c).trans (by rw [← e1]; exact List.filter_sublist)
      have lt := pos_sub nd s
      have cm : c ∈ st.filter fun y => decide (y ∈ K) := by rw [e1]; exact List.mem_cons_self
      have := low c ((h.all c).mp (of_decide_eq_true (List.mem_filter.mp cm).2))
      omega
end
end HF

/-! K46: what the walk reckons answers True. -/
namespace K46
open PySem (Str PyData sizeLine)
open HF
local macro_rules | `(tactic| walk_at "z") => `(tactic| simp only [z_bnd, z_fail, z_some, z_none, z_V, z_B, z_I, z_C, z_Inn, z_Sh, z_1, z_2, z_nil, z_cons, z_N, z_And, z_Or, z_Ite, z_Chain, z_Call, z_CallS, z_CallK, z_Tup, z_Lst, z_pick0, z_pick, z_itD, z_itN, z_n1, z_n2, z_l1, z_l2, z_Lc, z_wipe0, z_wipe, z_b1, z_b2, z_b3, z_part0, z_part, z_Sl, z_seq, z_nx, z_sFail, z_set, z_setO, z_ret, z_retV, z_retN, z_if, z_pre, z_gives0, z_gives, z_give, z_mut, z_mutAt, z_par, z_unp, z_parN, z_unpN, z_putSs0, z_putSs, z_putO, z_putS, z_for, z_rep0, w_lst, w_tup, w_dct, w_non, w_bl, w_int, w_str, w_box, w_scr, w_nil, w_cons, w_app, v_lst, v_dct, v_tup, v_non, v_bl, v_int, v_str, v_box, w_strs, w_pr2, w_ls2, u_lst, u_tup, u_int, u_str, u_bl, u_non, u_nil, u_cons, u_strs, u_pr2, u_ls2, ui_lst, ui_tup, ui_int, ui_str, ui_bl, o1, o2, o3, o4, o5, o6, o7, o8, o9, o10, o11, o12, o13, o14, o15, o16, o17, o18, o19, o20, o21, o22, o23, o24, o25, o26, o27, o28, o31, o32, o35, i_str_0, i_str_1, i_str_2, i_str_3, i_str_4, i_str_5, i_str_6, i_int_0, i_int_1, i_int_2, i_int_3, i_int_4, i_int_5, i_int_6, i_bl_0, i_bl_1, i_bl_2, i_bl_3, i_bl_4, i_bl_5, i_bl_6, i_non_0, i_non_1, i_non_2, i_non_3, i_non_4, i_non_5, i_non_6, i_lst_0, i_lst_1, i_lst_2, i_lst_3, i_lst_4, i_lst_5, i_lst_6, i_tup_0, i_tup_1, i_tup_2, i_tup_3, i_tup_4, i_tup_5, i_tup_6, dec_lt, dec_le, dec_eq, isN_non, isN_str, isN_int, isN_bl, isN_lst, isN_tup, sc_bl, sc_int, sc_str, sc_non, oAll_map, oAny_map, List.getElem?_cons_succ, List.getElem?_cons_zero, List.set_cons_succ, List.set_cons_zero, List.map_cons, List.map_nil, List.cons_append, List.nil_append, List.replicate_succ, Option.bind_some, if_true, if_false, Bool.not_true, Bool.not_false, Bool.and_true, Bool.true_and, Bool.and_false, Bool.false_and, Bool.or_true, Bool.true_or, Bool.or_false, Bool.false_or, decide_true, decide_false, reduceIte])
local macro_rules | `(tactic| walk_at "zs") => `(tactic| simp only [*, z_bnd, z_fail, z_some, z_none, z_V, z_B, z_I, z_C, z_Inn, z_Sh, z_1, z_2, z_nil, z_cons, z_N, z_And, z_Or, z_Ite, z_Chain, z_Call, z_CallS, z_CallK, z_Tup, z_Lst, z_pick0, z_pick, z_itD, z_itN, z_n1, z_n2, z_l1, z_l2, z_Lc, z_wipe0, z_wipe, z_b1, z_b2, z_b3, z_part0, z_part, z_Sl, z_seq, z_nx, z_sFail, z_set, z_setO, z_ret, z_retV, z_retN, z_if, z_pre, z_gives0, z_gives, z_give, z_mut, z_mutAt, z_par, z_unp, z_parN, z_unpN, z_putSs0, z_putSs, z_putO, z_putS, z_for, z_rep0, w_lst, w_tup, w_dct, w_non, w_bl, w_int, w_str, w_box, w_scr, w_nil, w_cons, w_app, v_lst, v_dct, v_tup, v_non, v_bl, v_int, v_str, v_box, w_strs, w_pr2, w_ls2, u_lst, u_tup, u_int, u_str, u_bl, u_non, u_nil, u_cons, u_strs, u_pr2, u_ls2, ui_lst, ui_tup, ui_int, ui_str, ui_bl, o1, o2, o3, o4, o5, o6, o7, o8, o9, o10, o11, o12, o13, o14, o15, o16, o17, o18, o19, o20, o21, o22, o23, o24, o25, o26, o27, o28, o31, o32, o35, i_str_0, i_str_1, i_str_2, i_str_3, i_str_4, i_str_5, i_str_6, i_int_0, i_int_1, i_int_2, i_int_3, i_int_4, i_int_5, i_int_6, i_bl_0, i_bl_1, i_bl_2, i_bl_3, i_bl_4, i_bl_5, i_bl_6, i_non_0, i_non_1, i_non_2, i_non_3, i_non_4, i_non_5, i_non_6, i_lst_0, i_lst_1, i_lst_2, i_lst_3, i_lst_4, i_lst_5, i_lst_6, i_tup_0, i_tup_1, i_tup_2, i_tup_3, i_tup_4, i_tup_5, i_tup_6, dec_lt, dec_le, dec_eq, isN_non, isN_str, isN_int, isN_bl, isN_lst, isN_tup, sc_bl, sc_int, sc_str, sc_non, oAll_map, oAny_map, List.getElem?_cons_succ, List.getElem?_cons_zero, List.set_cons_succ, List.set_cons_zero, List.map_cons, List.map_nil, List.cons_append, List.nil_append, List.replicate_succ, Option.bind_some, if_true, if_false, Bool.not_true, Bool.not_false, Bool.and_true, Bool.true_and, Bool.and_false, Bool.false_and, Bool.or_true, Bool.true_or, Bool.or_false, Bool.false_or, decide_true, decide_false, reduceIte])
theorem heap_eq : g_heap = pHeap := rfl
theorem ties_eq : g_ties = pTies := rfl
theorem take_eq : g_take = pTake := rfl
theorem pick_eq : g_pick = pPick := rfl
theorem strewn_eq : g_strewn = pStrewn := rfl
theorem must_eq : g_must_go = pMustGo := rfl
theorem lift_eq : g_lift = pLift := rfl
theorem beneath_eq : g_beneath = pBeneath := rfl
theorem left_eq : g_left = pLeft := rfl
theorem refused_eq : g_refused_at = pRefusedAt := rfl
theorem same_eq : ∀ m, g_same m = pSame m
  | 0 => rfl
  | m + 1 => by
    show runFn 2 (b_same (g_same m)) = runFn 2 (pSameB (pSame m))
    rw [same_eq m]
    rfl
theorem listed_eq : ∀ m, g_listed m = pListed m
  | 0 => rfl
  | m + 1 => by
    show runFn 1 (b_listed (g_listed m)) = runFn 1 (pListedB (pListed m))
    rw [listed_eq m]
    rfl
theorem law_eq : g_law = pLaw g_right 3 := rfl
def bTurn : Sv :=
    (sSeq (sSetO 9 (eLst [(eCall pMustGo [(eV 1), (eV 2), (eV 3)]), (eCall pLift [(eV 1), (eV 2), (eSh (e1 oRev (eI 3)))])]))
    (sSeq (sIf (e1 oNot (eCallS (pSame 6) [(eB 9), (eB 6)]))
    (sRet (eC (.bl false)))
    sNx)
    (sSeq (sMutAt 9 0 mAppend [(eC (.str ("more" : Str)))])
    (sMutAt 9 1 mAppend [(eC (.str ("more" : Str)))]))))
def bSome : Sv :=
    (sSeq (sUnp 4 false 5 false (eTup [(eSh (eCall pBeneath [(eV 1), (eV 2), (eV 3)])), (eSh (eN (n1 oShow) [(eLst [(eV 1), (eV 2), (eV 3)])]))]))
    (sSeq (sSet 6 (eSh (eLst [(eN (n1 oSort) [(eB 4)]), (eLc [7] (.one 7) (itD itSeq (eSh (e1 oRev (eI 1)))) (some (e2 oIn (eB 7) (eB 4))) (eV 7))])))
    (sSeq (sFor (.one 8) (itN (l1 itRange) [(eC (.int 2))]) bTurn)
    (sSeq (sSetO 9 (eLst [(eCallK [2, 1, 0] pMustGo [] [(eSh (eN (n1 oTuple) [(eI 3)])), (eSh (eCall (pListed 6) [(eV 2)])), (eSh (eN (n1 oList) [(eI 1)]))] [])]))
    (sSeq (sMut 9 mAppend [(eCallK [2, 1, 0] pLift [] [(eSh (eN (n1 oTuple) [(eI 3)])), (eSh (eCall (pListed 6) [(eV 2)])), (eSh (eN (n1 oList) [(eI 1)]))] [])])
    (sSeq (sIf (eOr (e1 oNot (eCallS (pSame 6) [(eB 9), (eB 6)])) (e2 oNe (eN (n1 oShow) [(eLst [(eV 1), (eV 2), (eV 3)])]) (eB 5)))
    (sRet (eC (.bl false)))
    sNx)
    (sSeq (sIf (e2 oIsNot (eCall pRefusedAt [(eV 1), (eV 2), (eSh (eIx (eI 6) (eC (.int 1))))]) (eC .non))
    (sRet (eC (.bl false)))
    sNx)
    (sIf (eAnd (e2 oEq (eN (n1 oLen) [(eB 3)]) (eC (.int 1))) (e2 oNe (eIx (eInn (eCall pLeft [(eV 1), (eSh (eIx (eI 6) (eC (.int 1))))])) (eC (.int 0))) (eIx (eI 3) (eC (.int 0)))))
    (sRet (eC (.bl false)))
    sNx))))))))
section
variable {st S K : List Str} {ps : List (Str × Str)} {bx : D} {z : Str}
abbrev dues (st K : List Str) : D := .lst false [.lst false ((sortT K).map D.str), .lst false ((lifted st K).map D.str)]
abbrev sE (bx : D) (st : List Str) (ps : List (Str × Str)) (S : List Str) (v4 v5 v6 v7 v8 v9 : Sl) : Env := [.sh bx, .sh (.tup (st.map D.str)), .sh (.tup (ps.map pr2)), .sh (.lst false (S.map D.str)), v4, v5, v6, v7, v8, v9]
theorem dues_ok (kl : K.length ≤ 60) (sl : st.length ≤ 60) : pSame 6 [dues st K, dues st K] = ret (.bl true) := by
  have l1 := (sortT_perm K).length_eq
  have l2 : (lifted st K).length ≤ st.length := by
    have := List.length_filter_le (fun y => decide (y ∈ K)) st.reverse
    rw [List.length_reverse] at this
    exact this
  refine same_refl 6 _ ?_
  rw [so_lst, List.all_cons, List.all_cons, so_lst, so_lst, so_strs, so_strs, List.length_map, List.length_map, decide_eq_true (show (sortT K).length ≤ 100000 by omega), decide_eq_true (show (lifted st K).length ≤ 100000 by omega)]
  rfl
theorem turn_ok (nd : st.Nodup) (sl : st.length ≤ 60) (hl2 : ps.length ≤ 50000) (ip : InSt st ps) (sn : S.Nodup) (hs : ∀ x ∈ S, x ∈ st) (hK : Shut st ps S K) {v4 v5 v7 v8 v9 : Sl} :
    ∃ w9, bTurn (sE bx st ps S v4 v5 (.sh (dues st K)) v7 v8 v9) = ret (.nx, sE bx st ps S v4 v5 (.sh (dues st K)) v7 v8 w9) := by
  have kl : K.length ≤ st.length := hK.nd.length_le_of_subset (hK.sub ip hs)
  have hr : Shut st ps S.reverse K := hK.congr fun x => List.mem_reverse.symm
  have e1 := must_go (d := .tup (st.map D.str)) (b := .lst false (S.map D.str)) (.inl rfl) nd sl (Prs.tup ps) hl2 ip (.inr ⟨_, rfl⟩) sn hs hK
  have e2 := lift_ok (d := .tup (st.map D.str)) (b := .lst false (S.reverse.map D.str)) (.inl rfl) nd sl (Prs.tup ps) hl2 ip (.inr ⟨_, rfl⟩) ((List.reverse_perm S).nodup_iff.mpr sn) (fun x hx => hs x (List.mem_reverse.mp hx)) hr
  have e3 := dues_ok (st := st) (K := K) (by omega) sl
  have l1 := (sortT_perm K).length_eq
  have l2 : (lifted st K).length ≤ st.length := by
    have := List.length_filter_le (fun y => decide (y ∈ K)) st.reverse
    rw [List.length_reverse] at this
    exact this
  have a1 := app_lst (xs := (sortT K).map D.str) (x := .str ("more" : Str)) (by rw [List.length_map]; omega)
  have a2 := app_lst (xs := (lifted st K).map D.str) (x := .str ("more" : Str)) (by rw [List.length_map]; omega)
  refine ⟨.ow (.lst true [.lst true ((sortT K).map D.str ++ [.str ("more" : Str)]), .lst true ((lifted st K).map D.str ++ [.str ("more" : Str)])]), ?_⟩
  unfold bTurn
  walk_at "z"
  rw [e1]
  walk_at "z"
  rw [← List.map_reverse]
  walk_at "z"
  rw [e2]
  walk_at "z"
  rw [e3]
  walk_at "z"
  rw [a1]
  walk_at "z"
  rw [a2]
  walk_at "z"
theorem some_ok (nd : st.Nodup) (nm : Nms st) (sl : st.length ≤ 60) (pn : ps.Nodup) (hl2 : ps.length ≤ 1000) (ip : InSt st ps) (sn : S.Nodup) (hs : ∀ x ∈ S, x ∈ st) {v4 v5 v6 v7 v8 v9 : Sl} :
    ∃ w4 w5 w6 w7 w8 w9, bSome (sE bx st ps S v4 v5 v6 v7 v8 v9) = ret (.nx, sE bx st ps S w4 w5 w6 w7 w8 w9) := by
  obtain ⟨K, e1, hK⟩ := beneath (b := .lst false (S.map D.str)) nd (by omega) (Prs.tup ps) pn (by omega) ip (.inr ⟨_, rfl⟩) sn hs
  have kl : K.length ≤ st.length := hK.nd.length_le_of_subset (hK.sub ip hs)
  have sl' : S.length ≤ st.length := sn.length_le_of_subset hs
  have np := ip.nm nm
  have nS : Nms S := fun x hx => nm x (hs x hx)
  obtain ⟨z, es⟩ : ∃ z : Str, oShow (.lst true [.tup (st.map D.str), .tup (ps.map pr2), .lst false (S.map D.str)]) = some (.str z) := by
    refine oShow_ok rfl ?_ ?_
    · rw [lf_lst, List.all_cons, List.all_cons, List.all_cons, lf_tup, lf_tup, lf_lst, lf_strs nm, lf_pr2 np, lf_strs nS]; rfl
    · have a := wt_strs nm
      have b := wt_pr2 np
      have c := wt_strs nS
      simp only [wt_lst, wt_cons, wt_tup, wt_nil]
      omega
  have eo := oSort_strs (.lst false (K.map D.str)) K rfl
  have go : ∀ w5 v6 v8 v9, _ := fun w5 v6 v8 v9 => lc_strs (tg := 7) (r := sE bx st ps S (.sh (.lst false (K.map D.str))) w5 v6 .no v8 v9) (c := HF.e2 oIn (eB 7) (eB 4)) (e := eV 7) (fun y => decide (y ∈ K)) D.str st.reverse (fun x _ => ⟨by
    have e3 := in_strs (d := .lst false (K.map D.str)) (.inr ⟨_, rfl⟩) x
    walk_at "z"
    exact congrArg lift e3, fun _ => by walk_at "z"⟩) (by rw [List.length_reverse]; omega)
  have er : itRange (.int 2) = some [.int 0, .int 1] := rfl
  obtain ⟨r2, eg, w8, w9, rfl⟩ := forGo_pure (tg := .one 8) (body := bTurn) (fun r => ∃ w8 w9, r = sE bx st ps S (.sh (.lst false (K.map D.str))) (.sh (.str z)) (.sh (dues st K)) v7 w8 w9) [.int 0, .int 1] (fun x _ r ⟨w8, w9, er⟩ => by
    subst er
    obtain ⟨w9', e⟩ := turn_ok (bx := bx) (v4 := .sh (.lst false (K.map D.str))) (v5 := .sh (.str z)) (v7 := v7) (v8 := .sh x) (v9 := w9) nd sl (by omega) ip sn hs hK
    exact ⟨_, _, rfl, e, _, _, rfl⟩) (sE bx st ps S (.sh (.lst false (K.map D.str))) (.sh (.str z)) (.sh (dues st K)) v7 v8 v9) ⟨_, _, rfl⟩
  have f1 := must_go (d := .lst false (st.map D.str)) (b := .tup (S.map D.str)) (.inr ⟨_, rfl⟩) nd sl (Prs.ls2 false ps) (by omega) ip (.inl rfl) sn hs hK
  have f2 := lift_ok (d := .lst false (st.map D.str)) (b := .tup (S.map D.str)) (.inr ⟨_, rfl⟩) nd sl (Prs.ls2 false ps) (by omega) ip (.inl rfl) sn hs hK
  have fl := listed_pr2 (m := 3) (ps := ps) (by omega)
  have fw : shareL (ps.map fun p => D.lst true [.str p.1, .str p.2]) = ps.map ls2 := by
    have h := w_listed (ps := ps)
    rw [w_lst] at h
    injection h
  have f3 := dues_ok (st := st) (K := K) (by omega) sl
  have a1 := app_lst (xs := [D.lst true ((sortT K).map D.str)]) (x := .lst true ((lifted st K).map D.str)) (by show 1 < _; decide)
  have ex : ∀ w4 w5 w7 w8 w9, (eIx (eI 6) (eC (.int 1))) (sE bx st ps S w4 w5 (.sh (dues st K)) w7 w8 w9) = ret (.lst false ((lifted st K).map D.str)) := fun _ _ _ _ _ => q_ix rfl rfl (fun n e => by cases e) rfl
  have h1 := refused_none (r := .lst false ((lifted st K).map D.str)) nd (by omega) (Prs.tup ps) (by omega) ip rfl (lifted_ok nd ip hK)
  have oi : oIsNot .non .non = some (.bl false) := rfl
  have h2 := leftL (r := .lst false ((lifted st K).map D.str)) nd (by omega) rfl (fun x hx => (mem_lifted.mp hx).1)
  refine ⟨.sh (.lst false (K.map D.str)), .sh (.str z), .sh (dues st K), v7, w8, .ow (.lst true [.lst true ((sortT K).map D.str), .lst true ((lifted st K).map D.str)]), ?_⟩
  unfold bSome
  walk_at "z"
  rw [e1]
  walk_at "z"
  rw [es]
  walk_at "z"
  rw [eo]
  walk_at "z"
  rw [← List.map_reverse]
  walk_at "z"
  rw [go]
  walk_at "z"
  rw [show List.filter (fun y => decide (y ∈ K)) st.reverse = lifted st K from rfl]
  rw [er]
  walk_at "z"
  rw [eg]
  walk_at "z"
  rw [fl]
  walk_at "z"
  rw [fw]
  rw [f1]
  try walk_at "z"
  rw [fl]
  try walk_at "z"
  rw [fw]
  try walk_at "z"
  rw [f2]
  try walk_at "z"
  rw [a1]
  try walk_at "z"
  rw [f3]
  try walk_at "z"
  rw [es]
  try walk_at "z"
  rw [ex]
  walk_at "z"
  rw [h1]
  walk_at "z"
  rw [oi]
  walk_at "z"
  rw [List.length_map]
  have d1 : decide ((S.length : Int) = 1) = decide (S.length = 1) := by rw [decide_eq_decide]; omega
  rw [d1]
  by_cases q : S.length = 1
  · rw [decide_eq_true q]
    obtain ⟨a, rfl⟩ := List.length_eq_one_iff.mp q
    obtain ⟨rest, el⟩ := lifted_top nd ip (hs a List.mem_cons_self) hK
    rw [el] at h2
    have e9 : ∀ w4 w5 w7 w8 w9, (eIx (eInn (eCall pLeft [(eV 1), (eSh (eIx (eI 6) (eC (.int 1))))])) (eC (.int 0))) (sE bx st ps [a] w4 w5 (.sh (dues st K)) w7 w8 w9) = ret (.str a) := fun w4 w5 w7 w8 w9 =>
      q_ix (x := .tup ((a :: rest).map D.str)) (q_inn' (q_call (q_cons rfl (q_cons (q_sh' (ex w4 w5 w7 w8 w9) (by rw [w_lst, w_strs])) q_nil)) h2) (by rw [v_tup, w_strs])) (y := .int ((0 : Nat) : Int)) rfl (fun n e => by cases e) (o31.trans rfl)
    have e10 : ∀ w4 w5 w6 w7 w8 w9, (eIx (eI 3) (eC (.int 0))) (sE bx st ps [a] w4 w5 w6 w7 w8 w9) = ret (.str a) := fun _ _ _ _ _ _ => q_ix rfl rfl (fun n e => by cases e) rfl
    rw [e9, e10]
    walk_at "z"
    rfl
  · rw [decide_eq_false q]
    walk_at "z"
theorem right_wp (L n t : Nat) (hn : n < L) (ht : t + 1000 ≤ 10000000000) : Wp L (g_right [.box n]) t fun d u => d = .bl true ∧ u = t + 1000 := by
  have szl := PySem.sizeLine_eq
  show Wp L (runFn 9 b_right [.box n]) t _
  unfold b_right
  rw [heap_eq, ties_eq, take_eq, pick_eq, strewn_eq, must_eq, lift_eq, beneath_eq, left_eq, refused_eq, same_eq, listed_eq]
  refine .up (runFn_wp (sSeq_wp (sSet_wp (eSh_wp (eCall_wp (evs_cons_wp (.of (a := .box n) rfl (evs_cons_wp (.of (a := .int (1 : Nat)) rfl (evs_cons_wp (.of (a := .int (12 : Nat)) rfl (evs_nil_wp ?_))))))))))))
  refine heap_wp hn (by decide) (by decide) (by omega) fun st l1 l12 nd nm => ?_
  rw [w_tup, w_strs]
  refine ⟨_, rfl, sSeq_wp (sSet_wp (eSh_wp (eCall_wp (evs_cons_wp (.of (a := .box n) rfl (evs_cons_wp (.of (a := .tup (st.map D.str)) rfl (evs_nil_wp ?_))))))))⟩
  refine ties_wp hn l12 (by omega) fun ps rp ip pl => ?_
  rw [w_tup, w_pr2]
  refine ⟨_, rfl, sSeq_wp (sFor_wp (itD_wp (eSh_wp (.bnd (evs_cons_wp (.of (a := .lst true []) rfl (evs_cons_wp (.bnd (evs_cons_wp (eCall_wp (evs_cons_wp (.of (a := .box n) rfl (evs_cons_wp (.of (a := .lst false (st.map D.str)) (by walk_at "z") (evs_nil_wp ?_)))))))))))))))⟩
  refine pick_wp (xs := st) (g := D.str) rfl hn (by intro q; subst q; simp at l1) (by omega) (by omega) fun p hp => evs_nil_wp (.lift rfl ?_)
  refine evs_cons_wp (.bnd (eInn_wp (eCall_wp (evs_cons_wp (.of (a := .box n) rfl (evs_cons_wp (.of (a := .tup (st.map D.str)) rfl (evs_nil_wp ?_))))))))
  refine strewn_wp (xs := st.map D.str) hn rfl (by rw [List.length_map]; omega) (stillL_strs _) (by rw [List.length_map]; omega) fun ys hy => ?_
  obtain ⟨vs, rfl, hv⟩ := perm_strs hy
  rw [v_lst, w_strs, List.length_map]
  refine .bnd (.of (a := none) rfl (.bnd ?_))
  rw [z_part]
  refine .bnd (take_call (bd := 4) rfl rfl hn (by decide) (by decide) (by omega) fun m m0 m1 => .ret ?_)
  obtain ⟨m, rfl⟩ := Int.eq_ofNat_of_zero_le m0
  have c2 : oSl none (some (m : Int)) (.lst true (vs.map D.str)) = some (.lst true ((vs.take m).map D.str)) := by
    show some (D.lst true (cutL _ none (some (m : Int)))) = _
    rw [cutL_to, List.map_take]
  refine .lift c2 (evs_cons_wp (.of (a := .lst true (st.map D.str)) (by walk_at "z") (evs_nil_wp (.lift rfl ⟨[[], [p], vs.take m, st].map fun S => .lst false (S.map D.str), ?_, ?_⟩))))
  · walk_at "z"
  obtain ⟨r2, eg, _, _, _, _, _, _, _, er⟩ := forGo_pure (tg := .one 3) (body := bSome) (fun r => ∃ v3 v4 v5 v6 v7 v8 v9, r = [.sh (.box n), .sh (.tup (st.map D.str)), .sh (.tup (ps.map pr2)), v3, v4, v5, v6, v7, v8, v9]) ([[], [p], vs.take m, st].map fun S => .lst false (S.map D.str))
    (fun d hd r ⟨v3, v4, v5, v6, v7, v8, v9, er⟩ => by
      obtain ⟨S, hS, rfl⟩ := List.mem_map.mp hd
      subst er
      have key : S.Nodup ∧ ∀ x ∈ S, x ∈ st := by
        rcases List.mem_cons.mp hS with rfl | hS
        · exact ⟨.nil, fun x hx => by cases hx⟩
        rcases List.mem_cons.mp hS with rfl | hS
        · exact ⟨by simp, fun x hx => by rw [List.mem_singleton.mp hx]; exact hp⟩
        rcases List.mem_cons.mp hS with rfl | hS
        · exact ⟨(hv.nodup_iff.mpr nd).sublist (List.take_sublist ..), fun x hx => hv.mem_iff.mp (List.mem_of_mem_take hx)⟩
        · rw [List.mem_singleton.mp hS]; exact ⟨nd, fun _ q => q⟩
      obtain ⟨w4, w5, w6, w7, w8, w9, e⟩ := some_ok (bx := .box n) (v4 := v4) (v5 := v5) (v6 := v6) (v7 := v7) (v8 := v8) (v9 := v9) nd nm (by omega) rp.nodup (by omega) ip key.1 key.2
      exact ⟨_, _, rfl, e, _, _, _, _, _, _, _, rfl⟩) [.sh (.box n), .sh (.tup (st.map D.str)), .sh (.tup (ps.map pr2)), .no, .no, .no, .no, .no, .no, .no] ⟨_, _, _, _, _, _, _, rfl⟩
  refine .of (a := (.nx, r2)) eg ⟨r2, rfl, .of (a := (.rt (.bl true), r2)) rfl ⟨_, _, rfl, t + 1000, by omega, rfl, rfl⟩⟩
end
/-- the law answers True -/
theorem plain (ns : List Int) (hn : ns.length ≤ 63) : ∃ b, g_law [.scr ns] [] = some (.bl true, b) := by
  rw [law_eq]
  exact law_plain (c := 1000) (by decide) (by decide) (fun L n t h1 h2 => right_wp L n t h1 h2) ns hn
end K46

open PySem PySem.W PyProof.Rows in
set_option maxRecDepth 100000 in
set_option maxHeartbeats 0 in
theorem PySem.Challenge.cw_heapfriends_k46_who_must_go_holds : PySem.Challenge.rw_heapfriends_k46_who_must_go.Holds := by
  w_on; o_law; k_head; (case hw => w_witness2)
  k_fill
  refine HF.walk_go (l := PySem.Challenge.rw_heapfriends_k46_who_must_go) (n := 63) (k := 8) (x := "_law_script") (fn := K46.g_law) rfl (by decide) rfl ⟨rfl, by decide, by decide⟩ (fun w h Y => PySem.W.kIn_of Y) ?F K46.plain
  case F =>
    intro w mg fa h KX G hmg
    refine' K46.all_mk KX G hmg ?a0 ?l0 ?c0 ?k0 ?a1 ?l1 ?c1 ?k1 ?a2 ?l2 ?c2 ?k2 ?a3 ?l3 ?c3 ?k3 ?a4 ?l4 ?c4 ?k4 ?a5 ?l5 ?c5 ?k5 ?a6 ?l6 ?c6 ?k6 ?a7 ?l7 ?c7 ?k7 ?a8 ?l8 ?c8 ?k8 ?a9 ?l9 ?c9 ?k9 ?a10 ?l10 ?c10 ?k10 ?a11 ?l11 ?c11 ?k11 ?a12 ?l12 ?c12 ?k12 ?a13 ?l13 ?c13 ?k13 ?a14 ?l14 ?c14 ?k14 ?a15 ?l15 ?c15 ?k15 ?a16 ?l16 ?c16 ?k16 ?a17 ?l17 ?c17 ?k17 ?a18 ?l18 ?c18 ?k18 ?a19 ?l19 ?c19 ?k19 ?a20 ?l20 ?c20 ?k20 ?a21 ?l21 ?c21 ?k21 ?a22 ?l22 ?c22 ?k22 ?z0 ?z1 ?z2 ?z3 ?z4 ?z5 ?z6 ?z7 ?z8 ?z9 ?z10 ?z11 ?z12 ?z13 ?z14 ?z15 ?z16
    (case a0 => k_is)
    (case l0 => k_is)
    (case c0 => k_is)
    (case k0 => k_is)
    (case a1 => k_is)
    (case l1 => k_is)
    (case c1 => k_is)
    (case k1 => k_is)
    (case a2 => k_is)
    (case l2 => k_is)
    (case c2 => k_is)
    (case k2 => k_is)
    (case a3 => k_is)
    (case l3 => k_is)
    (case c3 => k_is)
    (case k3 => k_is)
    (case a4 => k_is)
    (case l4 => k_is)
    (case c4 => k_is)
    (case k4 => k_is)
    (case a5 => k_is)
    (case l5 => k_is)
    (case c5 => k_is)
    (case k5 => k_is)
    (case a6 => k_is)
    (case l6 => k_is)
    (case c6 => k_is)
    (case k6 => k_is)
    (case a7 => k_is)
    (case l7 => k_is)
    (case c7 => k_is)
    (case k7 => k_is)
    (case a8 => k_is)
    (case l8 => k_is)
    (case c8 => k_is)
    (case k8 => k_is)
    (case a9 => k_is)
    (case l9 => k_is)
    (case c9 => k_is)
    (case k9 => k_is)
    (case a10 => k_is)
    (case l10 => k_is)
    (case c10 => k_is)
    (case k10 => k_is)
    (case a11 => k_is)
    (case l11 => k_is)
    (case c11 => k_is)
    (case k11 => k_is)
    (case a12 => k_is)
    (case l12 => k_is)
    (case c12 => k_is)
    (case k12 => k_is)
    (case a13 => k_is)
    (case l13 => k_is)
    (case c13 => k_is)
    (case k13 => k_is)
    (case a14 => k_is)
    (case l14 => k_is)
    (case c14 => k_is)
    (case k14 => k_is)
    (case a15 => k_is)
    (case l15 => k_is)
    (case c15 => k_is)
    (case k15 => k_is)
    (case a16 => k_is)
    (case l16 => k_is)
    (case c16 => k_is)
    (case k16 => k_is)
    (case a17 => k_is)
    (case l17 => k_is)
    (case c17 => k_is)
    (case k17 => k_is)
    (case a18 => k_is)
    (case l18 => k_is)
    (case c18 => k_is)
    (case k18 => k_is)
    (case a19 => k_is)
    (case l19 => k_is)
    (case c19 => k_is)
    (case k19 => k_is)
    (case a20 => k_is)
    (case l20 => k_is)
    (case c20 => k_is)
    (case k20 => k_is)
    (case a21 => k_is)
    (case l21 => k_is)
    (case c21 => k_is)
    (case k21 => k_is)
    (case a22 => k_is)
    (case l22 => k_is)
    (case c22 => k_is)
    (case k22 => k_is)
    (case z0 => k_is)
    (case z1 => k_is)
    (case z2 => k_is)
    (case z3 => k_is)
    (case z4 => k_is)
    (case z5 => k_is)
    (case z6 => k_is)
    (case z7 => k_is)
    (case z8 => k_is)
    (case z9 => k_is)
    (case z10 => k_is)
    (case z11 => k_is)
    (case z12 => k_is)
    (case z13 => k_is)
    (case z14 => k_is)
    (case z15 => k_is)
    (case z16 => k_is)
