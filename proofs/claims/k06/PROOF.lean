import PyProof.Rows.All
import Wide.All
import OpenK.AllK
import Wide.FinOn
import HandS.ForMost
import KE.KeyNested
import HandS.TupAny
import HandS.List
import HandS.Deep
import HandS.Wide
import HandS.Style
import HandS.Strs
import HandS.Text
import HandS.IsInst
import HandS.Conv
import HandS.NoneIn
import HandS.Zip
import HandS.Rev
import HandS.Walk
import HandS.Comp
import HandS.DictComp
import HandS.Iter
import KE.GoesEnum
import KE.GoesZip
import HandS.More
import HandS.Codes
import HandS.Words
import HandS.Ends
import HandS.Dict
import KE.GoesEnumKw
import KE.KDictZip
import PyProof.ListNew
import PyProof.AttrMiss
import HandS.TupSets
import HandS.SortRule
import PyProof.TupleOfSeq
import PyProof.CompUse
import HandS.SetFor
import KE.DataFind
import PyProof.CallFns
import KE.LtSeq
import HandS.TupLe
import HandS.Sort
import HandS.DictSubView
import HandS.SetBool
import HandS.DictTup
import HandS.ListItems
import HandS.ListEq
import KE.KSortAsk
import HandS.Flow
import HandS.MapSum
import PyProof.SumWalk
import PyProof.Rows.SumGenD
import HandS.Exc
import HandS.ExcInit
import HandS.ExcOwn
import HandS.ExcIs
import HandS.ExcField
import KE.KExcInit
import KE.KTryMore
import KE.KExcIs
import PyProof.WalkInts
import PyProof.StrOps
import KE.KDictDisplayH
import HandS.SetKeys
import KE.KDictWalk
import KE.KDictList
import PySem.Challenge.RW_heapfriends_k06_errors_and_limits
import PyProof.P3Eq
set_option Elab.async false
set_option linter.all false
set_option maxHeartbeats 4000000
set_option maxRecDepth 100000
namespace HF
open PySem (Str)
inductive DK where
  | i (z : Int) | s (x : Str) | t (ks : List (Sum Int Str)) | n (k : PySem.NestedKey)
  deriving DecidableEq
inductive D where
  | non | bl (b : Bool) | int (z : Int) | str (x : Str)
  | lst (o : Bool) (xs : List D) | tup (xs : List D) | dct (o : Bool) (kvs : List (DK × D)) | dtt (o : Bool) (kvs : List (DK × D)) | box (n : Nat)
  /-- a dict keyed by tuples that are values; the world that hashes them -/
  | dtv (w : PySem.World) (o : Bool) (kvs : List (DK × D))
  /-- the law's script -/
  | scr (zs : List Int)
  /-- an exception: its class, its fields -/
  | exc (c : Str) (kvs : List (DK × D))
instance : Inhabited D := ⟨.non⟩
mutual
def share : D → D
  | .lst _ xs => .lst false (shareL xs)
  | .tup xs => .tup (shareL xs)
  | .dct _ kvs => .dct false (shareK kvs)
  | .dtt _ kvs => .dtt false (shareK kvs)
  | .dtv w _ kvs => .dtv w false (shareK kvs)
  | .non => .non
  | .bl b => .bl b
  | .int z => .int z
  | .str x => .str x
  | .box n => .box n
  | .scr z => .scr z
  | .exc c kvs => .exc c (shareK kvs)
def shareL : List D → List D
  | [] => []
  | x :: xs => share x :: shareL xs
def shareK : List (DK × D) → List (DK × D)
  | [] => []
  | (k, x) :: xs => (k, share x) :: shareK xs
end
def shareIn : D → D
  | .lst o xs => .lst o (shareL xs)
  | .dct o kvs => .dct o (shareK kvs)
  | .dtt o kvs => .dtt o (shareK kvs)
  | .dtv w o kvs => .dtv w o (shareK kvs)
  | d => share d
mutual
def still : D → Bool
  | .lst o xs => !o && stillL xs
  | .tup xs => stillL xs
  | .dct o kvs => !o && stillK kvs
  | .dtt o kvs => !o && stillK kvs
  | .dtv _ o kvs => !o && stillK kvs
  | .non => true
  | .bl _ => true
  | .int _ => true
  | .str _ => true
  | .box _ => true
  | .scr _ => true
  | .exc _ kvs => stillK kvs
def stillL : List D → Bool
  | [] => true
  | x :: xs => still x && stillL xs
def stillK : List (DK × D) → Bool
  | [] => true
  | (_, x) :: xs => still x && stillK xs
end
def stillIn : D → Bool
  | .lst _ xs => stillL xs
  | .dct _ kvs => stillK kvs
  | .dtt _ kvs => stillK kvs
  | .dtv _ _ kvs => stillK kvs
  | d => still d
abbrev Bx := List (List Int)
abbrev M (α : Type) := Bx → Option (α × Bx)
def ret {α : Type} (a : α) : M α := fun b => some (a, b)
def fail {α : Type} : M α := fun _ => none
def bnd {α β : Type} (m : M α) (f : α → M β) : M β := fun b => match m b with
  | none => none
  | some (a, b') => f a b'
def lift {α : Type} (o : Option α) : M α := fun b => match o with
  | none => none
  | some a => some (a, b)
inductive Sl where
  | no | sh (d : D) | ow (d : D)
abbrev Env := List Sl
abbrev Ev := Env → M D
inductive Fl where
  | nx | rt (d : D) | bk | ct
abbrev Sv := Env → M (Fl × Env)
abbrev Fn := List D → M D
def eV (i : Nat) : Ev := fun r => match r[i]? with
  | some (.sh d) => ret d
  | _ => fail
def eB (i : Nat) : Ev := fun r => match r[i]? with
  | some (.sh d) => ret d
  | some (.ow d) => ret d
  | _ => fail
def eI (i : Nat) : Ev := fun r => match r[i]? with
  | some (.sh d) => ret d
  | some (.ow d) => if stillIn d then ret d else fail
  | _ => fail
def eC (d : D) : Ev := fun _ => ret d
def eInn (f : Ev) : Ev := fun r => bnd (f r) fun d => ret (shareIn d)
def eSh (f : Ev) : Ev := fun r => bnd (f r) fun d => ret (share d)
def e1 (op : D → Option D) (f : Ev) : Ev := fun r => bnd (f r) fun x => lift (op x)
def e2 (op : D → D → Option D) (f g : Ev) : Ev := fun r => bnd (f r) fun x => bnd (g r) fun y => lift (op x y)
def evs : List Ev → Env → M (List D)
  | [], _ => ret []
  | f :: fs, r => bnd (f r) fun x => bnd (evs fs r) fun xs => ret (x :: xs)
def eN (op : List D → Option D) (fs : List Ev) : Ev := fun r => bnd (evs fs r) fun xs => lift (op xs)
def eAnd (f g : Ev) : Ev := fun r => bnd (f r) fun x => match x with
  | .bl true => g r
  | .bl false => ret (.bl false)
  | _ => fail
def eOr (f g : Ev) : Ev := fun r => bnd (f r) fun x => match x with
  | .bl true => ret (.bl true)
  | .bl false => g r
  | _ => fail
def eIte (c f g : Ev) : Ev := fun r => bnd (c r) fun x => match x with
  | .bl true => f r
  | .bl false => g r
  | _ => fail
def eChain (op op' : D → D → Option D) (f g h : Ev) : Ev := fun r => bnd (f r) fun x => bnd (g r) fun y => bnd (lift (op x y)) fun z => match z with
  | .bl true => bnd (h r) fun w => lift (op' y w)
  | .bl false => ret (.bl false)
  | _ => fail
def isScal : D → Bool
  | .non => true
  | .bl _ => true
  | .int _ => true
  | .str _ => true
  | _ => false
def eCall (fn : Fn) (fs : List Ev) : Ev := fun r => bnd (evs fs r) fun xs => fn xs
def eCallS (fn : Fn) (fs : List Ev) : Ev := fun r => bnd (evs fs r) fun xs => bnd (fn (shareL xs)) fun d => if isScal d then ret d else fail
def eTup (fs : List Ev) : Ev := eN (fun xs => some (.tup xs)) fs
def eLst (fs : List Ev) : Ev := eN (fun xs => some (.lst true xs)) fs
def intsOf : List D → Option (List Int)
  | [] => some []
  | .int z :: r => (intsOf r).map (z :: ·)
  | _ => none
def eBox (fs : List Ev) : Ev := fun r => bnd (evs fs r) fun xs => match intsOf xs with
  | some zs => fun b => some (.box b.length, b ++ [zs])
  | none => fail
def signs (x : Str) : List D := x.cps.toList.map fun c => .str ⟨#[c]⟩
def itemsD : D → Option (List D)
  | .lst _ xs => some xs
  | .tup xs => some xs
  | _ => none
mutual
def keyN : PySem.NestedKey → D
  | .none => .non
  | .num z => .int z
  | .text x => .str x
  | .tup ks => .tup (keyNs ks)
def keyNs : List PySem.NestedKey → List D
  | [] => []
  | k :: ks => keyN k :: keyNs ks
end
def keyD : DK → D
  | .i z => .int z
  | .s x => .str x
  | .t ks => .tup (ks.map fun k => match k with | .inl z => .int z | .inr x => .str x)
  | .n k => keyN k
inductive Tg where
  | one (i : Nat) | two (i j : Nat) | three (i j k : Nat)
def bindT (t : Tg) (d : D) (r : Env) : Option Env := match t, d with
  | .one i, d => some (r.set i (.sh d))
  | .two i j, .tup [x, y] => some ((r.set i (.sh x)).set j (.sh y))
  | .two i j, .lst false [x, y] => some ((r.set i (.sh x)).set j (.sh y))
  | .three i j k, .tup [x, y, z] => some (((r.set i (.sh x)).set j (.sh y)).set k (.sh z))
  | .three i j k, .lst false [x, y, z] => some (((r.set i (.sh x)).set j (.sh y)).set k (.sh z))
  | _, _ => none
abbrev Ws := Env → M (List D)
def itD (op : D → Option (List D)) (f : Ev) : Ws := fun r => bnd (f r) fun x => lift (op x)
def it2 (op : D → D → Option (List D)) (f g : Ev) : Ws := fun r => bnd (f r) fun x => bnd (g r) fun y => lift (op x y)
def wipeE (r : Env) : List Nat → Env
  | [] => r
  | v :: vs => (wipeE r vs).set v .no
def lcGo (t : Tg) (r : Env) (cond : Option Ev) (elt : Ev) : List D → List D → M D
  | [], acc => ret (.lst true acc)
  | x :: xs, acc => match bindT t x r with
    | none => fail
    | some r' => match cond with
      | none => if acc.length < PySem.sizeLine then bnd (elt r') fun d => lcGo t r cond elt xs (acc ++ [d]) else fail
      | some c => bnd (c r') fun b => match b with
        | .bl true => if acc.length < PySem.sizeLine then bnd (elt r') fun d => lcGo t r cond elt xs (acc ++ [d]) else fail
        | .bl false => lcGo t r cond elt xs acc
        | _ => fail
def eLc (own : List Nat) (t : Tg) (it : Ws) (cond : Option Ev) (elt : Ev) : Ev := fun r => bnd (it r) fun xs => lcGo t (wipeE r own) cond elt xs []
def sSeq (s t : Sv) : Sv := fun r => bnd (s r) fun p => match p with
  | (.nx, r') => t r'
  | q => ret q
def sNx : Sv := fun r => ret (.nx, r)
def sSet (i : Nat) (f : Ev) : Sv := fun r => bnd (f r) fun d => ret (.nx, r.set i (.sh d))
def sSetO (i : Nat) (f : Ev) : Sv := fun r => bnd (f r) fun d => ret (.nx, r.set i (.ow d))
def sRet (f : Ev) : Sv := fun r => bnd (f r) fun d => ret (.rt d, r)
def sRetV (i : Nat) : Sv := fun r => match r[i]? with
  | some (.sh d) => ret (.rt d, r)
  | some (.ow d) => ret (.rt d, r)
  | _ => fail
def sRetN : Sv := fun r => ret (.rt .non, r)
def sIf (c : Ev) (s t : Sv) : Sv := fun r => bnd (c r) fun x => match x with
  | .bl true => s r
  | .bl false => t r
  | _ => fail
def give (r : Env) (i : Nat) : Env := match r[i]? with
  | some (.ow d) => r.set i (.sh (share d))
  | _ => r
def gives (r : Env) : List Nat → Env
  | [] => r
  | i :: is => gives (give r i) is
def sPre (is : List Nat) (s : Sv) : Sv := fun r => s (gives r is)
def forGo (t : Tg) (body : Sv) : List D → Env → M (Fl × Env)
  | [], r => ret (.nx, r)
  | x :: xs, r => match bindT t x r with
    | none => fail
    | some r' => bnd (body r') fun p => match p with
      | (.nx, r2) => forGo t body xs r2
      | (.ct, r2) => forGo t body xs r2
      | (.bk, r2) => ret (.nx, r2)
      | (.rt d, r2) => ret (.rt d, r2)
def sFor (t : Tg) (it : Ws) (body : Sv) : Sv := fun r => bnd (it r) fun xs => forGo t body xs r
def sMut (i : Nat) (op : D → List D → Option D) (fs : List Ev) : Sv := fun r => bnd (evs fs r) fun xs => match r[i]? with
  | some (.ow d) => bnd (lift (op d xs)) fun d' => ret (.nx, r.set i (.ow d'))
  | _ => fail
def runFn (n : Nat) (body : Sv) : Fn := fun args => bnd (body (args.map Sl.sh ++ List.replicate n Sl.no)) fun p => match p.1 with
  | .nx => ret .non
  | .rt d => ret d
  | _ => fail
end HF
namespace HF
open PySem PySem.Spec L2
open PyProof.Rows hiding St
def LK (K : PySem.W.Frag) (H : Hp) (a : Addr) (vs : List V) : Prop :=
  (∃ o, H a = some (.frz o (.lst vs))) ∨
    ∃ (o : Obj) (its : Array Value) (n : Nat), K.lookup a = some o ∧ o.cls = .type "list" ∧ o.dict = none ∧ o.data = .seq its n ∧ its.size ≤ sizeLine ∧ Vals vs its.toList
theorem LK.sq {K : PySem.W.Frag} {H : Hp} {a : Addr} {vs : List V} (h : LK K H a vs) : SqL K H a vs := by
  rcases h with ⟨o, h⟩ | h
  · exact .inl (.inr ⟨o, h⟩)
  · exact .inr h
def LS (H : Hp) (a : Addr) (vs : List V) : Prop := ∃ o, H a = some (.frz o (.lst vs))
theorem LS.sq {K : PySem.W.Frag} {H : Hp} {a : Addr} {vs : List V} (h : LS H a vs) : SqL K H a vs := let ⟨o, h⟩ := h; .inl (.inr ⟨o, h⟩)
theorem LS.rd {H : Hp} {a : Addr} {vs : List V} (h : LS H a vs) : Rd H a (.lst vs) := let ⟨o, h⟩ := h; .inr ⟨o, h⟩
def TQ (K : PySem.W.Frag) (H : Hp) (a : Addr) (vs : List V) : Prop := (∃ o : Obj, o.dict = none ∧ H a = some (.frz o (.tup vs))) ∨
  ∃ (o : Obj) (its : Array Value) (n : Nat), K.lookup a = some o ∧ o.cls = .type "tuple" ∧ o.dict = none ∧ o.data = .seq its n ∧ its.size ≤ sizeLine ∧ Vals vs its.toList
theorem TQ.sqT {K : PySem.W.Frag} {H : Hp} {a : Addr} {vs : List V} (h : TQ K H a vs) : SqT K H a vs := by
  rcases h with ⟨o, _, h⟩ | ⟨o, its, n, h1, h2, _, h4, h5, h6⟩
  · exact .inl (.inr ⟨o, h⟩)
  · exact .inr ⟨o, its, n, h1, h2, h4, h5, h6⟩
theorem TQ.of {K : PySem.W.Frag} {H H' : Hp} {a : Addr} {vs : List V} (h : TQ K H a vs) (k : ∀ o : Obj, H a = some (.frz o (.tup vs)) → H' a = some (.frz o (.tup vs))) : TQ K H' a vs := h.imp (fun ⟨o, d, e⟩ => ⟨o, d, k o e⟩) fun z => z
def keyDK : Key → DK
  | .inl z => .i z
  | .inr x => .s x
def IsDct (u : HO) (kvs : List (DK × V)) : Prop := ∃ k : List (Key × V), u = .dK k ∧ kvs = k.map fun p => (keyDK p.1, p.2)
def IsDtt (u : HO) (kvs : List (DK × V)) : Prop := ∃ k : List (List Key × V), u = .dT k ∧ kvs = k.map fun p => (.t p.1, p.2)
mutual
def NKV (K : PySem.W.Frag) (H : Hp) : NestedKey → V → Prop
  | .none, v => v = .non
  | .num z, v => v = .int z
  | .text x, v => v = .str x
  | .tup ks, v => ∃ a vs, v = .ref a ∧ TQ K H a vs ∧ NKVs K H ks vs
def NKVs (K : PySem.W.Frag) (H : Hp) : List NestedKey → List V → Prop
  | [], vs => vs = []
  | k :: ks, vs => ∃ v r, vs = v :: r ∧ NKV K H k v ∧ NKVs K H ks r
end
def DtvO (w : World) (a : Addr) (xs : List (NestedKey × Addr × Value)) : Heap → Prop := fun h => xs.length ≤ sizeLine ∧ (a == sysModules) = false ∧
  (∃ o es ep, h.get? a = some o ∧ o.ExactDict ∧ o.data = .dict es ep ∧ es.toList = xs.map fun x => (⟨x.1.hash w, .ref x.2.1, x.2.2⟩ : DictEntry)) ∧ (xs.map (·.1)).Nodup
def IsDtv (K : PySem.W.Frag) (H : Hp) (w : World) (a : Addr) (u : HO) (kvs : List (DK × V)) : Prop :=
  ∃ xs : List (NestedKey × Addr × Value), u = .ext (DtvO w a xs) ∧ Paired (fun (p : DK × V) (q : NestedKey × Addr × Value) => p.1 = .n q.1 ∧ q.1.depth ≤ 8 ∧ NKV K H q.1 (.ref q.2.1) ∧ RelV p.2 q.2.2) kvs xs
mutual
theorem NKV.of {K : PySem.W.Frag} {H H' : Hp} (k : ∀ (b : Addr) (o : Obj) (vs : List V), H b = some (.frz o (.tup vs)) → H' b = some (.frz o (.tup vs))) : ∀ {q : NestedKey} {v : V}, NKV K H q v → NKV K H' q v
  | .none, _, h => by rw [NKV] at h ⊢; exact h
  | .num _, _, h => by rw [NKV] at h ⊢; exact h
  | .text _, _, h => by rw [NKV] at h ⊢; exact h
  | .tup ks, _, h => by
    rw [NKV] at h ⊢
    obtain ⟨a, vs, e, t, r⟩ := h
    exact ⟨a, vs, e, TQ.of t fun _ e => k _ _ _ e, NKVs.of k r⟩
theorem NKVs.of {K : PySem.W.Frag} {H H' : Hp} (k : ∀ (b : Addr) (o : Obj) (vs : List V), H b = some (.frz o (.tup vs)) → H' b = some (.frz o (.tup vs))) : ∀ {q : List NestedKey} {vs : List V}, NKVs K H q vs → NKVs K H' q vs
  | [], _, h => by rw [NKVs] at h ⊢; exact h
  | _ :: _, _, h => by
    rw [NKVs] at h ⊢
    obtain ⟨v, r, e, h1, h2⟩ := h
    exact ⟨v, r, e, NKV.of k h1, NKVs.of k h2⟩
end
theorem IsDtv.of {K : PySem.W.Frag} {H H' : Hp} {w : World} {a : Addr} {u : HO} {kvs : List (DK × V)} (h : IsDtv K H w a u kvs) (k : ∀ (b : Addr) (o : Obj) (vs : List V), H b = some (.frz o (.tup vs)) → H' b = some (.frz o (.tup vs))) : IsDtv K H' w a u kvs := by
  obtain ⟨xs, e, p⟩ := h
  exact ⟨xs, e, Paired.mapP p fun _ _ z => ⟨z.1, z.2.1, NKV.of k z.2.2.1, z.2.2.2⟩⟩
theorem IsDtv.nlst {K : PySem.W.Frag} {H : Hp} {w : World} {a : Addr} {u : HO} {kvs : List (DK × V)} (h : IsDtv K H w a u kvs) (vs : List V) : u ≠ .lst vs := by
  obtain ⟨k, e, _⟩ := h
  intro q; rw [q] at e; cases e
theorem IsDtv.mut {K : PySem.W.Frag} {H : Hp} {w : World} {a : Addr} {u : HO} {kvs : List (DK × V)} (h : IsDtv K H w a u kvs) : Mut (some u) := by
  obtain ⟨k, e, _⟩ := h
  rw [e]; trivial
mutual
def nkOk : NestedKey → Bool
  | .none => true
  | .num _ => true
  | .text x => PyData.strOk x
  | .tup ks => nksOk ks
def nksOk : List NestedKey → Bool
  | [] => true
  | k :: ks => nkOk k && nksOk ks
end
def okK : DK → Bool
  | .s x => PyData.strOk x
  | .i _ => true
  | .t _ => true
  | .n k => nkOk k
def ExF (H : Hp) : Option Addr → List (Str × V) → Prop
  | none, xs => xs = []
  | some d, xs => H d = some (.xd xs)
def ExAt (K : PySem.W.Frag) (H : Hp) (c : Str) (a : Addr) (xs : List (Str × V)) : Prop :=
  ∃ (C : Addr) (o : Obj) (u : HO), PySem.W.nsIn K mainGlobals c = some (some (.ref C)) ∧ H a = some (.frz o u) ∧ o.cls = .ref C ∧ (∃ vs, o.data = .fields vs) ∧ ExF H o.dict xs
mutual
inductive Rp (K : PySem.W.Frag) (H : Hp) (io : List Addr) : D → V → List Addr → Prop where
  | non : Rp K H io .non .non []
  | bl (b : Bool) : Rp K H io (.bl b) (.bl b) []
  | int (z : Int) : Rp K H io (.int z) (.int z) []
  | str {x : Str} : PyData.strOk x = true → Rp K H io (.str x) (.str x) []
  | lstS {a : Addr} {vs : List V} {ds : List D} : LS H a vs → RpL K H io ds vs [] → Rp K H io (.lst false ds) (.ref a) []
  | lstO {a : Addr} {vs : List V} {ds : List D} {os : List Addr} : H a = some (.lst vs) → a ∉ io → RpL K H io ds vs os → Rp K H io (.lst true ds) (.ref a) (a :: os)
  | tup {a : Addr} {vs : List V} {ds : List D} {os : List Addr} : TQ K H a vs → RpL K H io ds vs os → Rp K H io (.tup ds) (.ref a) os
  | dctS {a : Addr} {o : Obj} {u : HO} {kvs : List (DK × V)} {kds : List (DK × D)} : H a = some (.frz o u) → IsDct u kvs → RpK K H io kds kvs [] → Rp K H io (.dct false kds) (.ref a) []
  | dctO {a : Addr} {u : HO} {kvs : List (DK × V)} {kds : List (DK × D)} {os : List Addr} : H a = some u → IsDct u kvs → RpK K H io kds kvs os → Rp K H io (.dct true kds) (.ref a) (a :: os)
  | dttS {a : Addr} {o : Obj} {u : HO} {kvs : List (DK × V)} {kds : List (DK × D)} : H a = some (.frz o u) → IsDtt u kvs → RpK K H io kds kvs [] → Rp K H io (.dtt false kds) (.ref a) []
  | dttO {a : Addr} {u : HO} {kvs : List (DK × V)} {kds : List (DK × D)} {os : List Addr} : H a = some u → IsDtt u kvs → RpK K H io kds kvs os → Rp K H io (.dtt true kds) (.ref a) (a :: os)
  | dtvS {w : World} {a : Addr} {o : Obj} {u : HO} {kvs : List (DK × V)} {kds : List (DK × D)} : H a = some (.frz o u) → IsDtv K H w a u kvs → RpK K H io kds kvs [] → Rp K H io (.dtv w false kds) (.ref a) []
  | dtvO {w : World} {a : Addr} {u : HO} {kvs : List (DK × V)} {kds : List (DK × D)} {os : List Addr} : H a = some u → IsDtv K H w a u kvs → RpK K H io kds kvs os → Rp K H io (.dtv w true kds) (.ref a) (a :: os)
  | box {n : Nat} {a : Addr} : io[n]? = some a → Rp K H io (.box n) (.ref a) []
  | scr {a : Addr} {zs : List Int} : LK K H a (zs.map V.int) → Rp K H io (.scr zs) (.ref a) []
  | exc {a : Addr} {c : Str} {xs : List (Str × V)} {kds : List (DK × D)} : ExAt K H c a xs → RpK K H io kds (xs.map fun p => (DK.s p.1, p.2)) [] → Rp K H io (.exc c kds) (.ref a) []
inductive RpL (K : PySem.W.Frag) (H : Hp) (io : List Addr) : List D → List V → List Addr → Prop where
  | nil : RpL K H io [] [] []
  | cons {d : D} {v : V} {ds : List D} {vs : List V} {os ps : List Addr} : Rp K H io d v os → RpL K H io ds vs ps → RpL K H io (d :: ds) (v :: vs) (os ++ ps)
inductive RpK (K : PySem.W.Frag) (H : Hp) (io : List Addr) : List (DK × D) → List (DK × V) → List Addr → Prop where
  | nil : RpK K H io [] [] []
  | cons {k : DK} {d : D} {v : V} {ds : List (DK × D)} {vs : List (DK × V)} {os ps : List Addr} : okK k = true → Rp K H io d v os → RpK K H io ds vs ps → RpK K H io ((k, d) :: ds) ((k, v) :: vs) (os ++ ps)
end
def BL (io : List Addr) (H : Hp) : Prop := ∀ a ∈ io, ∃ vs, H a = some (.lst vs)
structure Kp (io : List Addr) (H : Hp) (io' : List Addr) (H' : Hp) : Prop where
  keep : ∀ a o, H a = some o → a ∉ io → H' a = some o
  pre : io <+: io'
  new : ∀ a ∈ io', a ∉ io → H a = none
theorem Kp.refl (io : List Addr) (H : Hp) : Kp io H io H := ⟨fun _ _ h _ => h, List.prefix_refl _, fun a h n => absurd h n⟩
theorem Kp.trans {io io1 io2 : List Addr} {H H1 H2 : Hp} (a : Kp io H io1 H1) (b : Kp io1 H1 io2 H2) (bl : BL io H) : Kp io H io2 H2 := by
  refine ⟨fun c o h n => ?_, a.pre.trans b.pre, fun c h n => ?_⟩
  · refine b.keep c o (a.keep c o h n) fun hm => ?_
    have := a.new c hm n
    rw [h] at this; cases this
  · by_cases h1 : c ∈ io1
    · exact a.new c h1 n
    · have q := b.new c h h1
      cases e : H c with
      | none => rfl
      | some o =>
        rw [a.keep c o e n] at q; cases q
theorem Kp.frz {io io' : List Addr} {H H' : Hp} {a : Addr} {o : Obj} {u : HO} (k : Kp io H io' H') (bl : BL io H) (h : H a = some (.frz o u)) : H' a = some (.frz o u) := by
  refine k.keep a _ h fun hm => ?_
  obtain ⟨vs, e⟩ := bl a hm
  rw [h] at e; cases e
theorem Kp.sqT {K : PySem.W.Frag} {io io' : List Addr} {H H' : Hp} {a : Addr} {vs : List V} (k : Kp io H io' H') (bl : BL io H) (h : SqT K H a vs) : SqT K H' a vs := by
  rcases h with (h | ⟨o, h⟩) | h
  · refine .inl (.inl (k.keep a _ h fun hm => ?_))
    obtain ⟨vs, e⟩ := bl a hm
    rw [h] at e; cases e
  · exact .inl (.inr ⟨o, k.frz bl h⟩)
  · exact .inr h
theorem Kp.ls {io io' : List Addr} {H H' : Hp} {a : Addr} {vs : List V} (k : Kp io H io' H') (bl : BL io H) (h : LS H a vs) : LS H' a vs := let ⟨o, h⟩ := h; ⟨o, k.frz bl h⟩
theorem Kp.lk {K : PySem.W.Frag} {io io' : List Addr} {H H' : Hp} {a : Addr} {vs : List V} (k : Kp io H io' H') (bl : BL io H) (h : LK K H a vs) : LK K H' a vs := by
  rcases h with ⟨o, h⟩ | h
  · exact .inl ⟨o, k.frz bl h⟩
  · exact .inr h
theorem Kp.notin {io io' : List Addr} {H H' : Hp} {a : Addr} {o : HO} (k : Kp io H io' H') (h : H a = some o) (n : a ∉ io) : a ∉ io' := fun hm => by
  have := k.new a hm n
  rw [h] at this; cases this
theorem Kp.exf {io io' : List Addr} {H H' : Hp} {xs : List (Str × V)} (k : Kp io H io' H') (bl : BL io H) : ∀ {d : Option Addr}, ExF H d xs → ExF H' d xs
  | none, h => h
  | some d, h => k.keep d _ h fun hm => by
      obtain ⟨vs, e⟩ := bl d hm
      rw [show H d = _ from h] at e; cases e
theorem Kp.exAt {K : PySem.W.Frag} {io io' : List Addr} {H H' : Hp} {c : Str} {a : Addr} {xs : List (Str × V)} (k : Kp io H io' H') (bl : BL io H) (h : ExAt K H c a xs) : ExAt K H' c a xs := by
  obtain ⟨C, o, u, h1, h2, h3, h4, h5⟩ := h
  exact ⟨C, o, u, h1, k.frz bl h2, h3, h4, k.exf bl h5⟩
theorem IsDct.nlst {u : HO} {kvs : List (DK × V)} (h : IsDct u kvs) (vs : List V) : u ≠ .lst vs := by
  obtain ⟨k, e, _⟩ := h
  intro q; rw [q] at e; cases e
theorem IsDct.mut {u : HO} {kvs : List (DK × V)} (h : IsDct u kvs) : Mut (some u) := by
  obtain ⟨k, e, _⟩ := h
  rw [e]; trivial
theorem IsDtt.nlst {u : HO} {kvs : List (DK × V)} (h : IsDtt u kvs) (vs : List V) : u ≠ .lst vs := by
  obtain ⟨k, e, _⟩ := h
  intro q; rw [q] at e; cases e
theorem IsDtt.mut {u : HO} {kvs : List (DK × V)} (h : IsDtt u kvs) : Mut (some u) := by
  obtain ⟨k, e, _⟩ := h
  rw [e]; trivial
mutual
theorem Rp.keep {K : PySem.W.Frag} {io io' : List Addr} {H H' : Hp} (k : Kp io H io' H') (bl : BL io H) : ∀ {d : D} {v : V} {os : List Addr}, Rp K H io d v os → Rp K H' io' d v os
  | _, _, _, .non => .non
  | _, _, _, .bl b => .bl b
  | _, _, _, .int z => .int z
  | _, _, _, .str h => .str h
  | _, _, _, .lstS h r => .lstS (k.ls bl h) (RpL.keep k bl r)
  | _, _, _, .lstO h n r => .lstO (k.keep _ _ h n) (k.notin h n) (RpL.keep k bl r)
  | _, _, _, .tup h r => .tup (h.of fun _ e => k.frz bl e) (RpL.keep k bl r)
  | _, _, _, .dctS h e r => .dctS (k.frz bl h) e (RpK.keep k bl r)
  | _, _, _, .dttS h e r => .dttS (k.frz bl h) e (RpK.keep k bl r)
  | _, _, _, .dtvS h e r => .dtvS (k.frz bl h) (e.of fun _ _ _ z => k.frz bl z) (RpK.keep k bl r)
  | _, _, _, .dctO h e r => .dctO (k.keep _ _ h fun hm => by
      obtain ⟨vs, q⟩ := bl _ hm
      rw [h] at q
      exact e.nlst vs (Option.some.inj q)) e (RpK.keep k bl r)
  | _, _, _, .dttO h e r => .dttO (k.keep _ _ h fun hm => by
      obtain ⟨vs, q⟩ := bl _ hm
      rw [h] at q
      exact e.nlst vs (Option.some.inj q)) e (RpK.keep k bl r)
  | _, _, _, .dtvO h e r => .dtvO (k.keep _ _ h fun hm => by
      obtain ⟨vs, q⟩ := bl _ hm
      rw [h] at q
      exact e.nlst vs (Option.some.inj q)) (e.of fun _ _ _ z => k.frz bl z) (RpK.keep k bl r)
  | _, _, _, .box h => .box (by
      obtain ⟨t, e⟩ := k.pre
      rw [← e]
      rw [List.getElem?_append_left (List.getElem?_eq_some_iff.mp h).1]
      exact h)
  | _, _, _, .scr h => .scr (k.lk bl h)
  | _, _, _, .exc h r => .exc (k.exAt bl h) (RpK.keep k bl r)
theorem RpL.keep {K : PySem.W.Frag} {io io' : List Addr} {H H' : Hp} (k : Kp io H io' H') (bl : BL io H) : ∀ {ds : List D} {vs : List V} {os : List Addr}, RpL K H io ds vs os → RpL K H' io' ds vs os
  | _, _, _, .nil => .nil
  | _, _, _, .cons h r => .cons (Rp.keep k bl h) (RpL.keep k bl r)
theorem RpK.keep {K : PySem.W.Frag} {io io' : List Addr} {H H' : Hp} (k : Kp io H io' H') (bl : BL io H) : ∀ {ds : List (DK × D)} {vs : List (DK × V)} {os : List Addr}, RpK K H io ds vs os → RpK K H' io' ds vs os
  | _, _, _, .nil => .nil
  | _, _, _, .cons hk h r => .cons hk (Rp.keep k bl h) (RpK.keep k bl r)
end
def Ownd (H : Hp) (io : List Addr) (a : Addr) : Prop := a ∉ io ∧ ∃ u, H a = some u ∧ Mut (some u)
mutual
theorem Rp.ownd {K : PySem.W.Frag} {io : List Addr} {H : Hp} (bl : BL io H) : ∀ {d : D} {v : V} {os : List Addr}, Rp K H io d v os → ∀ a ∈ os, Ownd H io a
  | _, _, _, .non, _, h => nomatch h
  | _, _, _, .bl _, _, h => nomatch h
  | _, _, _, .int _, _, h => nomatch h
  | _, _, _, .str _, _, h => nomatch h
  | _, _, _, .lstS _ _, _, h => nomatch h
  | _, _, _, .lstO h n r, b, hb => by
    rcases List.mem_cons.mp hb with e | hb
    · subst e; exact ⟨n, _, h, trivial⟩
    · exact RpL.ownd bl r b hb
  | _, _, _, .tup _ r, b, hb => RpL.ownd bl r b hb
  | _, _, _, .dctS _ _ _, _, h => nomatch h
  | _, _, _, .dttS _ _ _, _, h => nomatch h
  | _, _, _, .dtvS _ _ _, _, h => nomatch h
  | _, _, _, .dctO h e r, b, hb => by
    rcases List.mem_cons.mp hb with q | hb
    · subst q
      exact ⟨fun hm => by
        obtain ⟨vs, q⟩ := bl _ hm
        rw [h] at q
        exact e.nlst vs (Option.some.inj q), _, h, e.mut⟩
    · exact RpK.ownd bl r b hb
  | _, _, _, .dttO h e r, b, hb => by
    rcases List.mem_cons.mp hb with q | hb
    · subst q
      exact ⟨fun hm => by
        obtain ⟨vs, q⟩ := bl _ hm
        rw [h] at q
        exact e.nlst vs (Option.some.inj q), _, h, e.mut⟩
    · exact RpK.ownd bl r b hb
  | _, _, _, .dtvO h e r, b, hb => by
    rcases List.mem_cons.mp hb with q | hb
    · subst q
      exact ⟨fun hm => by
        obtain ⟨vs, q⟩ := bl _ hm
        rw [h] at q
        exact e.nlst vs (Option.some.inj q), _, h, e.mut⟩
    · exact RpK.ownd bl r b hb
  | _, _, _, .box _, _, h => nomatch h
  | _, _, _, .scr _, _, h => nomatch h
  | _, _, _, .exc _ _, _, h => nomatch h
theorem RpL.ownd {K : PySem.W.Frag} {io : List Addr} {H : Hp} (bl : BL io H) : ∀ {ds : List D} {vs : List V} {os : List Addr}, RpL K H io ds vs os → ∀ a ∈ os, Ownd H io a
  | _, _, _, .nil, _, h => nomatch h
  | _, _, _, .cons h r, b, hb => (List.mem_append.mp hb).elim (Rp.ownd bl h b) (RpL.ownd bl r b)
theorem RpK.ownd {K : PySem.W.Frag} {io : List Addr} {H : Hp} (bl : BL io H) : ∀ {ds : List (DK × D)} {vs : List (DK × V)} {os : List Addr}, RpK K H io ds vs os → ∀ a ∈ os, Ownd H io a
  | _, _, _, .nil, _, h => nomatch h
  | _, _, _, .cons hk h r, b, hb => (List.mem_append.mp hb).elim (Rp.ownd bl h b) (RpK.ownd bl r b)
end
structure Fz (os : List Addr) (H H' : Hp) : Prop where
  same : ∀ a, a ∉ os → H' a = H a
  frz : ∀ a ∈ os, ∃ u o, H a = some u ∧ Mut (some u) ∧ H' a = some (.frz o u)
theorem Fz.other {os : List Addr} {H H' : Hp} {a : Addr} {u : HO} (f : Fz os H H') (h : H a = some u) (n : ¬ Mut (some u)) : H' a = some u := by
  refine (f.same a fun hm => ?_).trans h
  obtain ⟨w, _, e, m, _⟩ := f.frz a hm
  rw [h] at e
  exact n (Option.some.inj e ▸ m)
theorem Fz.sqT {K : PySem.W.Frag} {os : List Addr} {H H' : Hp} {a : Addr} {vs : List V} (f : Fz os H H') (h : SqT K H a vs) : SqT K H' a vs := by
  rcases h with (h | ⟨o, h⟩) | h
  · exact .inl (.inl (f.other h fun z => z))
  · exact .inl (.inr ⟨o, f.other h fun z => z⟩)
  · exact .inr h
theorem Fz.ls {os : List Addr} {H H' : Hp} {a : Addr} {vs : List V} (f : Fz os H H') (h : LS H a vs) : LS H' a vs := let ⟨o, h⟩ := h; ⟨o, f.other h fun z => z⟩
theorem Fz.lk {K : PySem.W.Frag} {os : List Addr} {H H' : Hp} {a : Addr} {vs : List V} (f : Fz os H H') (h : LK K H a vs) : LK K H' a vs := by
  rcases h with ⟨o, h⟩ | h
  · exact .inl ⟨o, f.other h fun z => z⟩
  · exact .inr h
theorem Fz.exf {os : List Addr} {H H' : Hp} {xs : List (Str × V)} (f : Fz os H H') : ∀ {d : Option Addr}, ExF H d xs → ExF H' d xs
  | none, h => h
  | some _, h => f.other h fun z => z
theorem Fz.exAt {K : PySem.W.Frag} {os : List Addr} {H H' : Hp} {c : Str} {a : Addr} {xs : List (Str × V)} (f : Fz os H H') (h : ExAt K H c a xs) : ExAt K H' c a xs := by
  obtain ⟨C, o, u, h1, h2, h3, h4, h5⟩ := h
  exact ⟨C, o, u, h1, f.other h2 fun z => z, h3, h4, f.exf h5⟩
theorem Fz.kp {os : List Addr} {H H' : Hp} {a : Addr} {u : HO} (f : Fz os H H') (h : H a = some u) (n : a ∉ os) : H' a = some u := (f.same a n).trans h
mutual
theorem Rp.fz {K : PySem.W.Frag} {io : List Addr} {H H' : Hp} {as : List Addr} (f : Fz as H H') : ∀ {d : D} {v : V} {os : List Addr}, Rp K H io d v os → (∀ a ∈ os, a ∈ as) → Rp K H' io (share d) v []
  | _, _, _, .non, _ => by rw [share]; exact .non
  | _, _, _, .bl b, _ => by rw [share]; exact .bl b
  | _, _, _, .int z, _ => by rw [share]; exact .int z
  | _, _, _, .str h, _ => by rw [share]; exact .str h
  | _, _, _, .lstS h r, _ => by rw [share]; exact .lstS (f.ls h) (RpL.fz f r fun _ z => nomatch z)
  | _, _, _, .lstO h n r, hs => by
    rw [share]
    obtain ⟨u, o, e, _, e'⟩ := f.frz _ (hs _ List.mem_cons_self)
    rw [h] at e; cases e
    exact .lstS ⟨o, e'⟩ (RpL.fz f r fun a ha => hs a (List.mem_cons_of_mem _ ha))
  | _, _, _, .tup h r, hs => by rw [share]; exact .tup (h.of fun _ e => f.other e fun z => z) (RpL.fz f r hs)
  | _, _, _, .dctS h e r, _ => by rw [share]; exact .dctS (f.other h fun z => z) e (RpK.fz f r fun _ z => nomatch z)
  | _, _, _, .dttS h e r, _ => by rw [share]; exact .dttS (f.other h fun z => z) e (RpK.fz f r fun _ z => nomatch z)
  | _, _, _, .dtvS h e r, _ => by rw [share]; exact .dtvS (f.other h fun z => z) (e.of fun _ _ _ q => f.other q fun z => z) (RpK.fz f r fun _ z => nomatch z)
  | _, _, _, .dctO h e r, hs => by
    rw [share]
    obtain ⟨u, o, q, _, e'⟩ := f.frz _ (hs _ List.mem_cons_self)
    rw [h] at q; cases q
    exact .dctS e' e (RpK.fz f r fun a ha => hs a (List.mem_cons_of_mem _ ha))
  | _, _, _, .dttO h e r, hs => by
    rw [share]
    obtain ⟨u, o, q, _, e'⟩ := f.frz _ (hs _ List.mem_cons_self)
    rw [h] at q; cases q
    exact .dttS e' e (RpK.fz f r fun a ha => hs a (List.mem_cons_of_mem _ ha))
  | _, _, _, .dtvO h e r, hs => by
    rw [share]
    obtain ⟨u, o, q, _, e'⟩ := f.frz _ (hs _ List.mem_cons_self)
    rw [h] at q; cases q
    exact .dtvS e' (e.of fun _ _ _ q => f.other q fun z => z) (RpK.fz f r fun a ha => hs a (List.mem_cons_of_mem _ ha))
  | _, _, _, .box h, _ => by rw [share]; exact .box h
  | _, _, _, .scr h, _ => by rw [share]; exact .scr (f.lk h)
  | _, _, _, .exc h r, _ => by rw [share]; exact .exc (f.exAt h) (RpK.fz f r fun _ z => nomatch z)
theorem RpL.fz {K : PySem.W.Frag} {io : List Addr} {H H' : Hp} {as : List Addr} (f : Fz as H H') : ∀ {ds : List D} {vs : List V} {os : List Addr}, RpL K H io ds vs os → (∀ a ∈ os, a ∈ as) → RpL K H' io (shareL ds) vs []
  | _, _, _, .nil, _ => by rw [shareL]; exact .nil
  | _, _, _, .cons h r, hs => by
    rw [shareL]
    exact .cons (os := []) (ps := []) (Rp.fz f h fun a ha => hs a (List.mem_append_left _ ha)) (RpL.fz f r fun a ha => hs a (List.mem_append_right _ ha))
theorem RpK.fz {K : PySem.W.Frag} {io : List Addr} {H H' : Hp} {as : List Addr} (f : Fz as H H') : ∀ {ds : List (DK × D)} {vs : List (DK × V)} {os : List Addr}, RpK K H io ds vs os → (∀ a ∈ os, a ∈ as) → RpK K H' io (shareK ds) vs []
  | _, _, _, .nil, _ => by rw [shareK]; exact .nil
  | _, _, _, .cons hk h r, hs => by
    rw [shareK]
    exact .cons (os := []) (ps := []) hk (Rp.fz f h fun a ha => hs a (List.mem_append_left _ ha)) (RpK.fz f r fun a ha => hs a (List.mem_append_right _ ha))
end
mutual
theorem Rp.fzo {K : PySem.W.Frag} {io : List Addr} {H H' : Hp} {as : List Addr} (f : Fz as H H') : ∀ {d : D} {v : V} {os : List Addr}, Rp K H io d v os → (∀ a ∈ os, a ∉ as) → Rp K H' io d v os
  | _, _, _, .non, _ => .non
  | _, _, _, .bl b, _ => .bl b
  | _, _, _, .int z, _ => .int z
  | _, _, _, .str h, _ => .str h
  | _, _, _, .lstS h r, _ => .lstS (f.ls h) (RpL.fzo f r fun _ z => nomatch z)
  | _, _, _, .lstO h n r, hs => .lstO (f.kp h (hs _ List.mem_cons_self)) n (RpL.fzo f r fun a ha => hs a (List.mem_cons_of_mem _ ha))
  | _, _, _, .tup h r, hs => .tup (h.of fun _ e => f.other e fun z => z) (RpL.fzo f r hs)
  | _, _, _, .dctS h e r, _ => .dctS (f.other h fun z => z) e (RpK.fzo f r fun _ z => nomatch z)
  | _, _, _, .dttS h e r, _ => .dttS (f.other h fun z => z) e (RpK.fzo f r fun _ z => nomatch z)
  | _, _, _, .dtvS h e r, _ => .dtvS (f.other h fun z => z) (e.of fun _ _ _ q => f.other q fun z => z) (RpK.fzo f r fun _ z => nomatch z)
  | _, _, _, .dctO h e r, hs => .dctO (f.kp h (hs _ List.mem_cons_self)) e (RpK.fzo f r fun a ha => hs a (List.mem_cons_of_mem _ ha))
  | _, _, _, .dttO h e r, hs => .dttO (f.kp h (hs _ List.mem_cons_self)) e (RpK.fzo f r fun a ha => hs a (List.mem_cons_of_mem _ ha))
  | _, _, _, .dtvO h e r, hs => .dtvO (f.kp h (hs _ List.mem_cons_self)) (e.of fun _ _ _ q => f.other q fun z => z) (RpK.fzo f r fun a ha => hs a (List.mem_cons_of_mem _ ha))
  | _, _, _, .box h, _ => .box h
  | _, _, _, .scr h, _ => .scr (f.lk h)
  | _, _, _, .exc h r, _ => .exc (f.exAt h) (RpK.fzo f r fun _ z => nomatch z)
theorem RpL.fzo {K : PySem.W.Frag} {io : List Addr} {H H' : Hp} {as : List Addr} (f : Fz as H H') : ∀ {ds : List D} {vs : List V} {os : List Addr}, RpL K H io ds vs os → (∀ a ∈ os, a ∉ as) → RpL K H' io ds vs os
  | _, _, _, .nil, _ => .nil
  | _, _, _, .cons h r, hs => .cons (Rp.fzo f h fun a ha => hs a (List.mem_append_left _ ha)) (RpL.fzo f r fun a ha => hs a (List.mem_append_right _ ha))
theorem RpK.fzo {K : PySem.W.Frag} {io : List Addr} {H H' : Hp} {as : List Addr} (f : Fz as H H') : ∀ {ds : List (DK × D)} {vs : List (DK × V)} {os : List Addr}, RpK K H io ds vs os → (∀ a ∈ os, a ∉ as) → RpK K H' io ds vs os
  | _, _, _, .nil, _ => .nil
  | _, _, _, .cons hk h r, hs => .cons hk (Rp.fzo f h fun a ha => hs a (List.mem_append_left _ ha)) (RpK.fzo f r fun a ha => hs a (List.mem_append_right _ ha))
end
theorem inv_fz {X : Cx} {pins : List (Addr × Obj)} {σ : St} {s : Shared} : ∀ {os : List Addr} {H : Hp}, Inv X pins σ H s → os.Nodup → (∀ a ∈ os, ∃ u, H a = some u ∧ Mut (some u)) → ∃ H', Inv X pins σ H' s ∧ Fz os H H'
  | [], H, I, _, _ => ⟨H, I, fun _ _ => rfl, fun _ h => nomatch h⟩
  | a :: os, H, I, nd, ho => by
    obtain ⟨na, nd⟩ := List.nodup_cons.mp nd
    obtain ⟨u, e, m⟩ := ho a List.mem_cons_self
    obtain ⟨od, I1⟩ := I.lock e m
    have ho1 : ∀ b ∈ os, ∃ u', (upd H a (.frz od u)) b = some u' ∧ Mut (some u') := fun b hb => by
      obtain ⟨w, e1, m1⟩ := ho b (List.mem_cons_of_mem _ hb)
      exact ⟨w, (upd_ne (fun q : b = a => na (q ▸ hb))).trans e1, m1⟩
    obtain ⟨H', I2, f⟩ := inv_fz I1 nd ho1
    refine ⟨H', I2, fun b hb => ?_, fun b hb => ?_⟩
    · have h1 : b ≠ a := fun q => hb (q ▸ List.mem_cons_self)
      exact (f.same b fun q => hb (List.mem_cons_of_mem _ q)).trans (upd_ne h1)
    · rcases List.mem_cons.mp hb with q | hb
      · subst q
        exact ⟨u, od, e, m, (f.same b na).trans upd_same⟩
      · obtain ⟨w, o, e1, m1, e2⟩ := f.frz b hb
        rw [upd_ne (fun q : b = a => na (q ▸ hb))] at e1
        exact ⟨w, o, e1, m1, e2⟩
inductive RpE (K : PySem.W.Frag) (H : Hp) (io : List Addr) : Env → St → List (List Addr) → Prop where
  | nil : RpE K H io [] [] []
  | no {ov : Option V} {r : Env} {σ : St} {oss : List (List Addr)} : RpE K H io r σ oss → RpE K H io (.no :: r) (ov :: σ) ([] :: oss)
  | sh {d : D} {v : V} {r : Env} {σ : St} {oss : List (List Addr)} : Rp K H io d v [] → RpE K H io r σ oss → RpE K H io (.sh d :: r) (some v :: σ) ([] :: oss)
  | ow {d : D} {v : V} {os : List Addr} {r : Env} {σ : St} {oss : List (List Addr)} : Rp K H io d v os → RpE K H io r σ oss → RpE K H io (.ow d :: r) (some v :: σ) (os :: oss)
structure SR (K : PySem.W.Frag) (io : List Addr) (b : Bx) (r : Env) (oss : List (List Addr)) (σ : St) (H : Hp) : Prop where
  len : io.length = b.length
  bx : ∀ (n : Nat) (a : Addr) (zs : List Int), io[n]? = some a → b[n]? = some zs → H a = some (.lst (zs.map V.int))
  nd : io.Nodup
  sl : RpE K H io r σ oss
  od : oss.flatten.Nodup
theorem SR.bl {K : PySem.W.Frag} {io : List Addr} {b : Bx} {r : Env} {oss : List (List Addr)} {σ : St} {H : Hp} (S : SR K io b r oss σ H) : BL io H := fun a ha => by
  obtain ⟨n, hn, e⟩ := List.mem_iff_getElem.mp ha
  have hb : n < b.length := S.len ▸ hn
  exact ⟨_, S.bx n a b[n] (by rw [List.getElem?_eq_getElem hn, e]) (List.getElem?_eq_getElem hb)⟩
theorem RpE.keep {K : PySem.W.Frag} {io io' : List Addr} {H H' : Hp} (k : Kp io H io' H') (bl : BL io H) : ∀ {r : Env} {σ : St} {oss : List (List Addr)}, RpE K H io r σ oss → RpE K H' io' r σ oss
  | _, _, _, .nil => .nil
  | _, _, _, .no r => .no (RpE.keep k bl r)
  | _, _, _, .sh h r => .sh (h.keep k bl) (RpE.keep k bl r)
  | _, _, _, .ow h r => .ow (h.keep k bl) (RpE.keep k bl r)
theorem RpE.ownd {K : PySem.W.Frag} {io : List Addr} {H : Hp} (bl : BL io H) : ∀ {r : Env} {σ : St} {oss : List (List Addr)}, RpE K H io r σ oss → ∀ a ∈ oss.flatten, Ownd H io a
  | _, _, _, .nil, _, h => nomatch h
  | _, _, _, .no r, b, hb => RpE.ownd bl r b (by simpa using hb)
  | _, _, _, .sh h r, b, hb => RpE.ownd bl r b (by simpa using hb)
  | _, _, _, .ow h r, b, hb => by
    rw [List.flatten_cons] at hb
    exact (List.mem_append.mp hb).elim (h.ownd bl b) (RpE.ownd bl r b)
theorem RpE.fzo {K : PySem.W.Frag} {io : List Addr} {H H' : Hp} {as : List Addr} (f : Fz as H H') : ∀ {r : Env} {σ : St} {oss : List (List Addr)}, RpE K H io r σ oss → (∀ a ∈ oss.flatten, a ∉ as) → RpE K H' io r σ oss
  | _, _, _, .nil, _ => .nil
  | _, _, _, .no r, h => .no (RpE.fzo f r fun a ha => h a (by simpa using ha))
  | _, _, _, .sh x r, h => .sh (x.fzo f fun _ z => nomatch z) (RpE.fzo f r fun a ha => h a (by simpa using ha))
  | _, _, _, .ow x r, h => .ow (x.fzo f fun a ha => h a (by rw [List.flatten_cons]; exact List.mem_append_left _ ha)) (RpE.fzo f r fun a ha => h a (by rw [List.flatten_cons]; exact List.mem_append_right _ ha))
theorem SR.later {K : PySem.W.Frag} {io : List Addr} {b : Bx} {r : Env} {oss : List (List Addr)} {σ : St} {H H' : Hp} (S : SR K io b r oss σ H) (k : ∀ a o, H a = some o → H' a = some o) : SR K io b r oss σ H' :=
  ⟨S.len, fun n a zs e1 e2 => k a _ (S.bx n a zs e1 e2), S.nd, S.sl.keep ⟨fun a o h _ => k a o h, List.prefix_refl _, fun a h n => absurd h n⟩ S.bl, S.od⟩
theorem Kp.of {io : List Addr} {H H' : Hp} (k : ∀ a o, H a = some o → H' a = some o) : Kp io H io H' := ⟨fun a o h _ => k a o h, List.prefix_refl _, fun a h n => absurd h n⟩
theorem SR.fz {K : PySem.W.Frag} {io : List Addr} {b : Bx} {r : Env} {oss : List (List Addr)} {σ : St} {H H' : Hp} {as : List Addr} (S : SR K io b r oss σ H) (f : Fz as H H') (h1 : ∀ a ∈ as, a ∉ io) (h2 : ∀ a ∈ as, a ∉ oss.flatten) : SR K io b r oss σ H' :=
  ⟨S.len, fun n a zs e1 e2 => f.kp (S.bx n a zs e1 e2) fun hm => h1 a hm (List.mem_of_getElem? e1), S.nd, S.sl.fzo f fun a ha hm => h2 a hm ha, S.od⟩
theorem RpE.get {K : PySem.W.Frag} {io : List Addr} {H : Hp} : ∀ {r : Env} {σ : St} {oss : List (List Addr)} {i : Nat} {x : Sl}, RpE K H io r σ oss → r[i]? = some x →
    (x = .no) ∨ (∃ d v, x = .sh d ∧ σ[i]? = some (some v) ∧ Rp K H io d v []) ∨ ∃ d v os, x = .ow d ∧ σ[i]? = some (some v) ∧ oss[i]? = some os ∧ Rp K H io d v os
  | _, _, _, _, _, .nil, e => by simp at e
  | _, _, _, 0, _, .no _, e => by simp at e; exact .inl e.symm
  | _, _, _, 0, _, .sh h _, e => by simp at e; exact .inr (.inl ⟨_, _, e.symm, rfl, h⟩)
  | _, _, _, 0, _, .ow h _, e => by simp at e; exact .inr (.inr ⟨_, _, _, e.symm, rfl, rfl, h⟩)
  | _, _, _, i + 1, _, .no r, e => by simpa using RpE.get r (i := i) (by simpa using e)
  | _, _, _, i + 1, _, .sh _ r, e => by simpa using RpE.get r (i := i) (by simpa using e)
  | _, _, _, i + 1, _, .ow _ r, e => by simpa using RpE.get r (i := i) (by simpa using e)
theorem RpE.lens {K : PySem.W.Frag} {io : List Addr} {H : Hp} : ∀ {r : Env} {σ : St} {oss : List (List Addr)}, RpE K H io r σ oss → r.length = σ.length ∧ r.length = oss.length
  | _, _, _, .nil => ⟨rfl, rfl⟩
  | _, _, _, .no r => by simpa using r.lens
  | _, _, _, .sh _ r => by simpa using r.lens
  | _, _, _, .ow _ r => by simpa using r.lens
theorem RpE.set {K : PySem.W.Frag} {io : List Addr} {H : Hp} : ∀ {r : Env} {σ : St} {oss : List (List Addr)} {i : Nat} {d : D} {v : V} {os : List Addr} , RpE K H io r σ oss → Rp K H io d v os → i < r.length → RpE K H io (r.set i (.ow d)) (σ.set i (some v)) (oss.set i os)
  | _, _, _, _, _, _, _, .nil, _, h => absurd h (Nat.not_lt_zero _)
  | _, _, _, 0, _, _, _, .no r, x, _ => .ow x r
  | _, _, _, 0, _, _, _, .sh _ r, x, _ => .ow x r
  | _, _, _, 0, _, _, _, .ow _ r, x, _ => .ow x r
  | _, _, _, i + 1, _, _, _, .no r, x, h => .no (RpE.set r x (Nat.lt_of_succ_lt_succ h))
  | _, _, _, i + 1, _, _, _, .sh y r, x, h => .sh y (RpE.set r x (Nat.lt_of_succ_lt_succ h))
  | _, _, _, i + 1, _, _, _, .ow y r, x, h => .ow y (RpE.set r x (Nat.lt_of_succ_lt_succ h))
theorem RpE.setS {K : PySem.W.Frag} {io : List Addr} {H : Hp} : ∀ {r : Env} {σ : St} {oss : List (List Addr)} {i : Nat} {d : D} {v : V}, RpE K H io r σ oss → Rp K H io d v [] → i < r.length → RpE K H io (r.set i (.sh d)) (σ.set i (some v)) (oss.set i [])
  | _, _, _, _, _, _, .nil, _, h => absurd h (Nat.not_lt_zero _)
  | _, _, _, 0, _, _, .no r, x, _ => .sh x r
  | _, _, _, 0, _, _, .sh _ r, x, _ => .sh x r
  | _, _, _, 0, _, _, .ow _ r, x, _ => .sh x r
  | _, _, _, i + 1, _, _, .no r, x, h => .no (RpE.setS r x (Nat.lt_of_succ_lt_succ h))
  | _, _, _, i + 1, _, _, .sh y r, x, h => .sh y (RpE.setS r x (Nat.lt_of_succ_lt_succ h))
  | _, _, _, i + 1, _, _, .ow y r, x, h => .ow y (RpE.setS r x (Nat.lt_of_succ_lt_succ h))
theorem mem_set_flat {os : List Addr} : ∀ {oss : List (List Addr)} {i : Nat} {a : Addr}, a ∈ (oss.set i os).flatten → a ∈ os ∨ a ∈ oss.flatten
  | [], _, _, h => by simp at h
  | x :: r, 0, _, h => by
    rw [List.set_cons_zero, List.flatten_cons] at h
    rw [List.flatten_cons]
    exact (List.mem_append.mp h).imp id fun z => List.mem_append_right _ z
  | x :: r, i + 1, _, h => by
    rw [List.set_cons_succ, List.flatten_cons] at h
    rw [List.flatten_cons]
    rcases List.mem_append.mp h with z | z
    · exact .inr (List.mem_append_left _ z)
    · exact (mem_set_flat z).imp id fun z => List.mem_append_right _ z
theorem nodup_set_flat {os : List Addr} (h1 : os.Nodup) : ∀ {oss : List (List Addr)} {i : Nat}, oss.flatten.Nodup → (∀ a ∈ os, a ∉ oss.flatten) → (oss.set i os).flatten.Nodup
  | [], _, h, _ => by simpa using h
  | x :: r, 0, h, h2 => by
    rw [List.flatten_cons] at h
    rw [List.set_cons_zero, List.flatten_cons]
    rw [List.nodup_append] at h ⊢
    exact ⟨h1, h.2.1, fun a ha b hb e => h2 a ha (by rw [List.flatten_cons]; exact List.mem_append_right _ (e ▸ hb))⟩
  | x :: r, i + 1, h, h2 => by
    rw [List.flatten_cons] at h
    rw [List.set_cons_succ, List.flatten_cons]
    rw [List.nodup_append] at h ⊢
    refine ⟨h.1, nodup_set_flat h1 h.2.1 fun a ha hm => h2 a ha (by rw [List.flatten_cons]; exact List.mem_append_right _ hm), fun a ha b hb e => ?_⟩
    rcases mem_set_flat hb with z | z
    · exact h2 b z (by rw [List.flatten_cons]; exact List.mem_append_left _ (e ▸ ha))
    · exact h.2.2 a ha b z e
theorem SR.set {K : PySem.W.Frag} {io : List Addr} {b : Bx} {r : Env} {oss : List (List Addr)} {σ : St} {H : Hp} {i : Nat} {d : D} {v : V} {os : List Addr} (S : SR K io b r oss σ H) (x : Rp K H io d v os) (h1 : os.Nodup) (h2 : ∀ a ∈ os, a ∉ oss.flatten) (hi : i < r.length) :
    SR K io b (r.set i (.ow d)) (oss.set i os) (σ.set i (some v)) H := ⟨S.len, S.bx, S.nd, S.sl.set x hi, nodup_set_flat h1 S.od h2⟩
theorem SR.setS {K : PySem.W.Frag} {io : List Addr} {b : Bx} {r : Env} {oss : List (List Addr)} {σ : St} {H : Hp} {i : Nat} {d : D} {v : V} (S : SR K io b r oss σ H) (x : Rp K H io d v []) (hi : i < r.length) :
    SR K io b (r.set i (.sh d)) (oss.set i []) (σ.set i (some v)) H := ⟨S.len, S.bx, S.nd, S.sl.setS x hi, nodup_set_flat List.nodup_nil S.od fun _ h => nomatch h⟩
end HF
namespace HF
open PySem PySem.Spec L2
open PyProof.Rows hiding St
theorem PE_wk {X : Cx} {e : Expr} {t t' : TE} (h : PE X e t) (w : ∀ σ H Q, t' σ H Q → t σ H Q) : PE X e t' := ⟨fun pins s σ H Q I q => h.run pins s σ H Q I (w σ H Q q)⟩
theorem PA_wk {X : Cx} {e : List Expr} {t t' : TA} (h : PA X e t) (w : ∀ σ H Q, t' σ H Q → t σ H Q) : PA X e t' := ⟨fun pos pins s σ H Q I q => h.run pos pins s σ H Q I (w σ H Q q)⟩
theorem PT_wk {X : Cx} {e : Expr} {t t' : TT} (h : PT X e t) (w : ∀ σ H Q, t' σ H Q → t σ H Q) : PT X e t' := ⟨fun pins s σ H Q I q => h.run pins s σ H Q I (w σ H Q q)⟩
theorem PW_wk {X : Cx} {e : Expr} {t t' : TT} (h : PW X e t) (w : ∀ σ H Q, t' σ H Q → t σ H Q) : PW X e t' := ⟨fun wh pins s σ H Q I q => h.run wh pins s σ H Q I (w σ H Q q)⟩
theorem PS_wk {X : Cx} {e : Stmt} {t t' : TS} (h : PS X e t) (w : ∀ D σ H, t' D σ H → t D σ H) : PS X e t' := ⟨fun pins s σ H D I q => h.run pins s σ H D I (w D σ H q)⟩
theorem PSs_wk {X : Cx} {e : List Stmt} {t t' : TS} (h : PSs X e t) (w : ∀ D σ H, t' D σ H → t D σ H) : PSs X e t' := ⟨fun pins s σ H D I q => h.run pins s σ H D I (w D σ H q)⟩
theorem PI_wk {X : Cx} {tg e : Expr} {t t' : TI} (h : PI X tg e t) (w : ∀ σ H R, t' σ H R → t σ H R) : PI X tg e t' := ⟨fun pins s σ H R I q => h.run pins s σ H R I (w σ H R q)⟩
mutual
theorem share_still : ∀ d : D, still (share d) = true
  | .non => by rw [share, still]
  | .bl _ => by rw [share, still]
  | .int _ => by rw [share, still]
  | .str _ => by rw [share, still]
  | .box _ => by rw [share, still]
  | .scr _ => by rw [share, still]
  | .exc _ xs => by rw [share, still, shareK_still xs]
  | .lst _ xs => by rw [share, still, shareL_still xs]; rfl
  | .tup xs => by rw [share, still, shareL_still xs]
  | .dct _ xs => by rw [share, still, shareK_still xs]; rfl
  | .dtt _ xs => by rw [share, still, shareK_still xs]; rfl
  | .dtv _ _ xs => by rw [share, still, shareK_still xs]; rfl
theorem shareL_still : ∀ ds : List D, stillL (shareL ds) = true
  | [] => by rw [shareL, stillL]
  | d :: ds => by rw [shareL, stillL, share_still d, shareL_still ds]; rfl
theorem shareK_still : ∀ ds : List (DK × D), stillK (shareK ds) = true
  | [] => by rw [shareK, stillK]
  | (k, d) :: ds => by rw [shareK, stillK, share_still d, shareK_still ds]; rfl
end
theorem shareIn_still (d : D) : stillIn (shareIn d) = true := by
  cases d with
  | lst o xs => exact shareL_still xs
  | dct o xs => exact shareK_still xs
  | dtt o xs => exact shareK_still xs
  | dtv _ o xs => exact shareK_still xs
  | tup xs =>
    show stillIn (share (.tup xs)) = true
    rw [share]
    show still (.tup (shareL xs)) = true
    rw [still]
    exact shareL_still xs
  | non => rfl
  | bl b => rfl
  | int z => rfl
  | str x => rfl
  | box n => rfl
  | scr z => rfl
  | exc c xs => exact shareK_still xs
theorem nil_all {α : Type} {P : α → Prop} : ∀ a ∈ ([] : List α), P a := fun _ h => nomatch h
section
variable {K : PySem.W.Frag} {H : Hp} {io : List Addr}
mutual
theorem Rp.still_nil : ∀ {d : D} {v : V} {os : List Addr}, Rp K H io d v os → still d = true → os = []
  | _, _, _, .non, _ => rfl
  | _, _, _, .bl _, _ => rfl
  | _, _, _, .int _, _ => rfl
  | _, _, _, .str _, _ => rfl
  | _, _, _, .lstS _ _, _ => rfl
  | _, _, _, .lstO _ _ _, h => by rw [still] at h; cases h
  | _, _, _, .tup _ r, h => by rw [still] at h; exact RpL.still_nil r h
  | _, _, _, .dctS _ _ _, _ => rfl
  | _, _, _, .dttS _ _ _, _ => rfl
  | _, _, _, .dtvS _ _ _, _ => rfl
  | _, _, _, .dctO _ _ _, h => by rw [still] at h; cases h
  | _, _, _, .dttO _ _ _, h => by rw [still] at h; cases h
  | _, _, _, .dtvO _ _ _, h => by rw [still] at h; cases h
  | _, _, _, .box _, _ => rfl
  | _, _, _, .scr _, _ => rfl
  | _, _, _, .exc _ _, _ => rfl
theorem RpL.still_nil : ∀ {ds : List D} {vs : List V} {os : List Addr}, RpL K H io ds vs os → stillL ds = true → os = []
  | _, _, _, .nil, _ => rfl
  | _, _, _, .cons h r, e => by
    rw [stillL, Bool.and_eq_true] at e
    rw [h.still_nil e.1, RpL.still_nil r e.2]; rfl
theorem RpK.still_nil : ∀ {ds : List (DK × D)} {vs : List (DK × V)} {os : List Addr}, RpK K H io ds vs os → stillK ds = true → os = []
  | _, _, _, .nil, _ => rfl
  | _, _, _, .cons hk h r, e => by
    rw [stillK, Bool.and_eq_true] at e
    rw [h.still_nil e.1, RpK.still_nil r e.2]; rfl
end
theorem Rp.lst_inv {o : Bool} {ds : List D} {v : V} {os : List Addr} (h : Rp K H io (.lst o ds) v os) : ∃ a vs ps, v = .ref a ∧ Rd H a (.lst vs) ∧ RpL K H io ds vs ps ∧ (∀ b ∈ ps, b ∈ os) ∧ (os.Nodup → ps.Nodup) := by
  cases h with
  | lstS h r => exact ⟨_, _, [], rfl, h.rd, r, nil_all, fun _ => List.nodup_nil⟩
  | lstO h n r => exact ⟨_, _, _, rfl, .inl h, r, fun _ z => List.mem_cons_of_mem _ z, fun n => (List.nodup_cons.mp n).2⟩
theorem Rp.tup_inv {ds : List D} {v : V} {os : List Addr} (h : Rp K H io (.tup ds) v os) : ∃ a vs, v = .ref a ∧ SqT K H a vs ∧ RpL K H io ds vs os := by
  cases h with
  | tup h r => exact ⟨_, _, rfl, h.sqT, r⟩
theorem RpL.length : ∀ {ds : List D} {vs : List V} {os : List Addr}, RpL K H io ds vs os → ds.length = vs.length
  | _, _, _, .nil => rfl
  | _, _, _, .cons _ r => by simpa using r.length
theorem RpL.append : ∀ {ds es : List D} {vs ws : List V} {os ps : List Addr}, RpL K H io ds vs os → RpL K H io es ws ps → RpL K H io (ds ++ es) (vs ++ ws) (os ++ ps)
  | _, _, _, _, _, _, .nil, q => q
  | _, _, _, _, _, _, .cons h r, q => by rw [List.append_assoc]; exact .cons h (r.append q)
theorem RpL.get0 : ∀ {ds : List D} {vs : List V} {i : Nat} {v : V}, RpL K H io ds vs [] → vs[i]? = some v → ∃ d, ds[i]? = some d ∧ Rp K H io d v []
  | [], vs, i, v, h, e => by
    have hl := h.length
    cases vs with
    | nil => simp at e
    | cons _ _ => simp at hl
  | d :: ds, [], i, v, h, e => by simp at e
  | d :: ds, v :: vs, i, w, h, e => by
    generalize hq : ([] : List Addr) = q at h
    cases h with
    | cons h r =>
      rename_i o1 o2
      obtain ⟨e1, e2⟩ := List.append_eq_nil_iff.mp hq.symm
      subst e1 e2
      cases i with
      | zero => exact ⟨_, rfl, by simp at e; subst e; exact h⟩
      | succ i => simpa using RpL.get0 r (i := i) (by simpa using e)
theorem RpL.getD0 : ∀ {ds : List D} {vs : List V} {i : Nat} {d : D}, RpL K H io ds vs [] → ds[i]? = some d → ∃ v, vs[i]? = some v ∧ Rp K H io d v [] := fun {ds vs i d} h e => by
  have hl := h.length
  obtain ⟨hi, _⟩ := List.getElem?_eq_some_iff.mp e
  have hv : vs[i]? = some vs[i] := List.getElem?_eq_getElem (hl ▸ hi)
  obtain ⟨d', e', r⟩ := h.get0 hv
  rw [e] at e'; cases e'
  exact ⟨_, hv, r⟩
theorem RpL.of : ∀ {ds : List D} {vs : List V}, ds.length = vs.length → (∀ (i : Nat) (d : D) (v : V), ds[i]? = some d → vs[i]? = some v → Rp K H io d v []) → RpL K H io ds vs []
  | [], [], _, _ => .nil
  | [], _ :: _, h, _ => by cases h
  | _ :: _, [], h, _ => by cases h
  | d :: ds, v :: vs, h, f => .cons (os := []) (ps := []) (f 0 d v rfl rfl) (RpL.of (by simpa using h) fun i d' v' e1 e2 => f (i + 1) d' v' (by simpa using e1) (by simpa using e2))
theorem BL.fresh {p : Addr} (bl : BL io H) (h : H p = none) : p ∉ io := fun hm => by
  obtain ⟨vs, e⟩ := bl p hm
  rw [h] at e; cases e
theorem ext_upd {p : Addr} {o : HO} (h : H p = none) : ∀ a u, H a = some u → upd H p o a = some u := fun a u e => by rw [upd_ne (ne_of_none e h)]; exact e
theorem Rp.newL {p : Addr} {ds : List D} {vs : List V} {os : List Addr} (bl : BL io H) (h : H p = none) (r : RpL K H io ds vs os) : Rp K (upd H p (.lst vs)) io (.lst true ds) (.ref p) (p :: os) :=
  .lstO upd_same (bl.fresh h) (r.keep (Kp.of (ext_upd h)) bl)
theorem Rp.newT {p : Addr} {o : Obj} (ho : o.dict = none) {ds : List D} {vs : List V} {os : List Addr} (bl : BL io H) (h : H p = none) (r : RpL K H io ds vs os) : Rp K (upd H p (.frz o (.tup vs))) io (.tup ds) (.ref p) os :=
  .tup (.inl ⟨o, ho, upd_same⟩) (r.keep (Kp.of (ext_upd h)) bl)
end
def tV (K : PySem.W.Frag) (f : Ev) : TE := fun σ H Q => ∃ io b r oss, SR K io b r oss σ H ∧ ∃ d b', f r b = some (d, b') ∧
  ∀ (v : V) (H' : Hp) (io' os : List Addr), Kp io H io' H' → SR K io' b' r oss σ H' → Rp K H' io' d v os → os.Nodup → (∀ a ∈ os, H a = none) → Q v H'
def tM (K : PySem.W.Frag) (md : Bool) (f : Ev) : TE := fun σ H Q => ∃ io b r oss, SR K io b r oss σ H ∧ ∃ d b', f r b = some (d, b') ∧
  ∀ (v : V) (H' : Hp) (io' os : List Addr), Kp io H io' H' → SR K io' b' r oss σ H' → Rp K H' io' d v os → (md = true → stillIn d = true) → Q v H'
def tAV (K : PySem.W.Frag) (fs : List Ev) : TA := fun σ H Q => ∃ io b r oss, SR K io b r oss σ H ∧ ∃ ds b', evs fs r b = some (ds, b') ∧
  ∀ (vs : List V) (H' : Hp) (io' os : List Addr), Kp io H io' H' → SR K io' b' r oss σ H' → RpL K H' io' ds vs os → os.Nodup → (∀ a ∈ os, H a = none) → Q vs H'
def tAM (K : PySem.W.Frag) (md : Bool) (fs : List Ev) : TA := fun σ H Q => ∃ io b r oss, SR K io b r oss σ H ∧ ∃ ds b', evs fs r b = some (ds, b') ∧
  ∀ (vs : List V) (H' : Hp) (io' os : List Addr), Kp io H io' H' → SR K io' b' r oss σ H' → RpL K H' io' ds vs os → (md = true → ∀ d ∈ ds, stillIn d = true) → Q vs H'
def tS (K : PySem.W.Frag) (f : Ev) : TE := fun σ H Q => ∃ io b r oss, SR K io b r oss σ H ∧ ∃ d b', f r b = some (d, b') ∧
  ∀ (v : V) (H' : Hp) (io' : List Addr), Kp io H io' H' → SR K io' b' r oss σ H' → Rp K H' io' d v [] → Q v H'
theorem bnd_some {α β : Type} {m : M α} {f : α → M β} {b : Bx} {x : β × Bx} (h : bnd m f b = some x) : ∃ a b', m b = some (a, b') ∧ f a b' = some x := by
  unfold bnd at h
  cases e : m b with
  | none => rw [e] at h; cases h
  | some p => rw [e] at h; exact ⟨p.1, p.2, rfl, h⟩
theorem lift_some {α : Type} {o : Option α} {b : Bx} {x : α × Bx} (h : lift o b = some x) : o = some x.1 ∧ x.2 = b := by
  unfold lift at h
  cases o with
  | none => cases h
  | some a => cases h; exact ⟨rfl, rfl⟩
theorem ret_some {α : Type} {a : α} {b : Bx} {x : α × Bx} (h : ret a b = some x) : a = x.1 ∧ x.2 = b := by
  unfold ret at h; cases h; exact ⟨rfl, rfl⟩
section
variable {X : Cx}
theorem de_look {e : Expr} {f : Ev} (h : PE X e (tV X.K f)) : PE X e (tM X.K false f) := PE_wk h fun σ H Q ⟨io, b, r, oss, S, d, b', e, q⟩ =>
  ⟨io, b, r, oss, S, d, b', e, fun v H' io' os k S' x _ _ => q v H' io' os k S' x (fun z => nomatch z)⟩
theorem de_v {i : Nat} {x : Str} {pos : Pos} (hN : X.N[i]? = some x) (hv : Vis X.env.scope x) (hd : (x == ("__debug__" : Str)) = false) (hcd : (x == ("__classdict__" : Str)) = false) : PE X (.Name x pos) (tS X.K (eV i)) :=
  PE_wk (pe_var hN hv hd hcd) fun σ H Q ⟨io, b, r, oss, S, d, b', e, q⟩ => by
    unfold eV at e
    cases hr : r[i]? with
    | none => rw [hr] at e; cases e
    | some sl =>
      rw [hr] at e
      rcases S.sl.get hr with rfl | ⟨d', v, rfl, hv, hx⟩ | ⟨d', v, os, rfl, hv, _, hx⟩
      · cases e
      · obtain ⟨rfl, rfl⟩ := ret_some e
        exact ⟨v, hv, q v H io (Kp.refl _ _) S hx⟩
      · cases e
theorem de_b {i : Nat} {x : Str} {pos : Pos} (hN : X.N[i]? = some x) (hv : Vis X.env.scope x) (hd : (x == ("__debug__" : Str)) = false) (hcd : (x == ("__classdict__" : Str)) = false) : PE X (.Name x pos) (tM X.K false (eB i)) :=
  PE_wk (pe_var hN hv hd hcd) fun σ H Q ⟨io, b, r, oss, S, d, b', e, q⟩ => by
    unfold eB at e
    cases hr : r[i]? with
    | none => rw [hr] at e; cases e
    | some sl =>
      rw [hr] at e
      rcases S.sl.get hr with rfl | ⟨d', v, rfl, hv, hx⟩ | ⟨d', v, os, rfl, hv, _, hx⟩
      · cases e
      · obtain ⟨rfl, rfl⟩ := ret_some e
        exact ⟨v, hv, q v H io [] (Kp.refl _ _) S hx (fun z => nomatch z)⟩
      · obtain ⟨rfl, rfl⟩ := ret_some e
        exact ⟨v, hv, q v H io os (Kp.refl _ _) S hx (fun z => nomatch z)⟩
mutual
theorem Rp.nil_still {K : PySem.W.Frag} {H : Hp} {io : List Addr} : ∀ {d : D} {v : V} {os : List Addr}, Rp K H io d v os → os = [] → still d = true
  | _, _, _, .non, _ => rfl
  | _, _, _, .bl _, _ => rfl
  | _, _, _, .int _, _ => rfl
  | _, _, _, .str _, _ => rfl
  | _, _, _, .lstS _ r, _ => by rw [still, RpL.nil_still r rfl]; rfl
  | _, _, _, .lstO _ _ _, h => nomatch h
  | _, _, _, .tup _ r, h => by rw [still]; exact RpL.nil_still r h
  | _, _, _, .dctS _ _ r, _ => by rw [still, RpK.nil_still r rfl]; rfl
  | _, _, _, .dttS _ _ r, _ => by rw [still, RpK.nil_still r rfl]; rfl
  | _, _, _, .dtvS _ _ r, _ => by rw [still, RpK.nil_still r rfl]; rfl
  | _, _, _, .dctO _ _ _, h => nomatch h
  | _, _, _, .dttO _ _ _, h => nomatch h
  | _, _, _, .dtvO _ _ _, h => nomatch h
  | _, _, _, .box _, _ => rfl
  | _, _, _, .scr _, _ => rfl
  | _, _, _, .exc _ r, _ => by rw [still, RpK.nil_still r rfl]
theorem RpL.nil_still {K : PySem.W.Frag} {H : Hp} {io : List Addr} : ∀ {ds : List D} {vs : List V} {os : List Addr}, RpL K H io ds vs os → os = [] → stillL ds = true
  | _, _, _, .nil, _ => rfl
  | _, _, _, .cons h r, e => by
    obtain ⟨e1, e2⟩ := List.append_eq_nil_iff.mp e
    rw [stillL, h.nil_still e1, RpL.nil_still r e2]; rfl
theorem RpK.nil_still {K : PySem.W.Frag} {H : Hp} {io : List Addr} : ∀ {ds : List (DK × D)} {vs : List (DK × V)} {os : List Addr}, RpK K H io ds vs os → os = [] → stillK ds = true
  | _, _, _, .nil, _ => rfl
  | _, _, _, .cons hk h r, e => by
    obtain ⟨e1, e2⟩ := List.append_eq_nil_iff.mp e
    rw [stillK, h.nil_still e1, RpK.nil_still r e2]; rfl
end
theorem stillIn_of_still {d : D} (h : still d = true) : stillIn d = true := by
  cases d with
  | lst o xs => rw [still, Bool.and_eq_true] at h; exact h.2
  | dct o xs => rw [still, Bool.and_eq_true] at h; exact h.2
  | dtt o xs => rw [still, Bool.and_eq_true] at h; exact h.2
  | dtv _ o xs => rw [still, Bool.and_eq_true] at h; exact h.2
  | _ => exact h
theorem de_i {i : Nat} {x : Str} {pos : Pos} (hN : X.N[i]? = some x) (hv : Vis X.env.scope x) (hd : (x == ("__debug__" : Str)) = false) (hcd : (x == ("__classdict__" : Str)) = false) : PE X (.Name x pos) (tM X.K true (eI i)) :=
  PE_wk (pe_var hN hv hd hcd) fun σ H Q ⟨io, b, r, oss, S, d, b', e, q⟩ => by
    unfold eI at e
    cases hr : r[i]? with
    | none => rw [hr] at e; cases e
    | some sl =>
      rw [hr] at e
      rcases S.sl.get hr with rfl | ⟨d', v, rfl, hv, hx⟩ | ⟨d', v, os, rfl, hv, _, hx⟩
      · cases e
      · obtain ⟨rfl, rfl⟩ := ret_some e
        exact ⟨v, hv, q v H io [] (Kp.refl _ _) S hx fun _ => stillIn_of_still (hx.nil_still rfl)⟩
      · dsimp only at e
        by_cases hs : stillIn d' = true
        · rw [if_pos hs] at e
          obtain ⟨rfl, rfl⟩ := ret_some e
          exact ⟨v, hv, q v H io os (Kp.refl _ _) S hx fun _ => hs⟩
        · rw [if_neg hs] at e; cases e
theorem de_c {e : Expr} {d : D} {v : V} (h : PE X e (tC v)) (hv : ∀ H io, Rp X.K H io d v []) : PE X e (tS X.K (eC d)) :=
  PE_wk h fun σ H Q ⟨io, b, r, oss, S, d', b', e, q⟩ => by
    obtain ⟨rfl, rfl⟩ := ret_some e
    exact q v H io (Kp.refl _ _) S (hv H io)
theorem Kp_fz {io io' : List Addr} {H H1 H2 : Hp} {as : List Addr} (k : Kp io H io' H1) (f : Fz as H1 H2) (hf : ∀ a ∈ as, H a = none) : Kp io H io' H2 :=
  ⟨fun a o e n => f.kp (k.keep a o e n) (fun hm => by rw [hf a hm] at e; cases e), k.pre, k.new⟩
theorem SR_fz {K : PySem.W.Frag} {io : List Addr} {b : Bx} {r : Env} {oss : List (List Addr)} {σ : St} {H0 H H' : Hp} {as : List Addr} {io0 : List Addr} {b0 : Bx} (S0 : SR K io0 b0 r oss σ H0) (S : SR K io b r oss σ H) (f : Fz as H H') (h1 : ∀ a ∈ as, Ownd H io a) (h2 : ∀ a ∈ as, H0 a = none) : SR K io b r oss σ H' :=
  S.fz f (fun a ha => (h1 a ha).1) fun a ha hm => by
    obtain ⟨_, u, e, _⟩ := S0.sl.ownd S0.bl a hm
    rw [h2 a ha] at e; cases e
theorem de_sh {e : Expr} {f : Ev} (h : PE X e (tV X.K f)) : PE X e (tS X.K (eSh f)) := by
  refine ⟨fun pins s σ H Q I ⟨io, b, r, oss, S, d, b', e, q⟩ => ?_⟩
  obtain ⟨d0, b1, e1, e2⟩ := bnd_some e
  obtain ⟨rfl, q2⟩ := ret_some e2
  obtain rfl : b' = b1 := q2
  refine thn (h.run pins s σ H (fun v H' => ∃ io' os, Kp io H io' H' ∧ SR X.K io' b' r oss σ H' ∧ Rp X.K H' io' d0 v os ∧ os.Nodup ∧ ∀ a ∈ os, H a = none) I ⟨io, b, r, oss, S, d0, b', e1, fun v H' io' os k S' x n f => ⟨io', os, k, S', x, n, f⟩⟩) fun u s1 ⟨v, H1, I1, rv, io', os, k, S', x, n, fr⟩ => ?_
  obtain ⟨H2, I2, fz⟩ := inv_fz I1 n fun a ha => (x.ownd S'.bl a ha).2
  exact ⟨v, H2, I2, rv, q v H2 io' (Kp_fz k fz fr) (SR_fz S S' fz (x.ownd S'.bl) fr) (x.fz fz fun _ h => h)⟩
theorem de_sv {e : Expr} {f : Ev} (h : PE X e (tS X.K f)) : PE X e (tV X.K f) := PE_wk h fun σ H Q ⟨io, b, r, oss, S, d, b', e, q⟩ =>
  ⟨io, b, r, oss, S, d, b', e, fun v H' io' k S' x => q v H' io' [] k S' x List.nodup_nil nil_all⟩
theorem Rp.fzIn {K : PySem.W.Frag} {H : Hp} {io : List Addr} {d : D} {v : V} {os : List Addr} (x : Rp K H io d v os) (n : os.Nodup) : ∃ as, (∀ a ∈ as, a ∈ os) ∧ as.Nodup ∧ ∀ H', Fz as H H' → ∃ ps, (∀ a ∈ ps, a ∈ os) ∧ ps.Nodup ∧ Rp K H' io (shareIn d) v ps := by
  cases x with
  | lstO h ni r =>
    obtain ⟨n1, n2⟩ := List.nodup_cons.mp n
    exact ⟨_, fun a ha => List.mem_cons_of_mem _ ha, n2, fun H' f => ⟨[_], (fun a ha => by
      obtain rfl := List.mem_singleton.mp ha
      exact List.mem_cons_self), List.nodup_cons.mpr ⟨fun z => (nomatch z), List.nodup_nil⟩, .lstO (f.kp h n1) ni (r.fz f fun _ z => z)⟩⟩
  | dctO h e r =>
    obtain ⟨n1, n2⟩ := List.nodup_cons.mp n
    exact ⟨_, fun a ha => List.mem_cons_of_mem _ ha, n2, fun H' f => ⟨[_], (fun a ha => by
      obtain rfl := List.mem_singleton.mp ha
      exact List.mem_cons_self), List.nodup_cons.mpr ⟨fun z => (nomatch z), List.nodup_nil⟩, .dctO (f.kp h n1) e (r.fz f fun _ z => z)⟩⟩
  | dttO h e r =>
    obtain ⟨n1, n2⟩ := List.nodup_cons.mp n
    exact ⟨_, fun a ha => List.mem_cons_of_mem _ ha, n2, fun H' f => ⟨[_], (fun a ha => by
      obtain rfl := List.mem_singleton.mp ha
      exact List.mem_cons_self), List.nodup_cons.mpr ⟨fun z => (nomatch z), List.nodup_nil⟩, .dttO (f.kp h n1) e (r.fz f fun _ z => z)⟩⟩
  | dtvO h e r =>
    obtain ⟨n1, n2⟩ := List.nodup_cons.mp n
    exact ⟨_, fun a ha => List.mem_cons_of_mem _ ha, n2, fun H' f => ⟨[_], (fun a ha => by
      obtain rfl := List.mem_singleton.mp ha
      exact List.mem_cons_self), List.nodup_cons.mpr ⟨fun z => (nomatch z), List.nodup_nil⟩, .dtvO (f.kp h n1) (e.of fun _ _ _ q => f.other q fun z => z) (r.fz f fun _ z => z)⟩⟩
  | lstS h r => exact ⟨[], nil_all, List.nodup_nil, fun H' f => ⟨[], nil_all, List.nodup_nil, .lstS (f.ls h) (r.fz f nil_all)⟩⟩
  | dctS h e r => exact ⟨[], nil_all, List.nodup_nil, fun H' f => ⟨[], nil_all, List.nodup_nil, .dctS (f.other h fun z => z) e (r.fz f nil_all)⟩⟩
  | dttS h e r => exact ⟨[], nil_all, List.nodup_nil, fun H' f => ⟨[], nil_all, List.nodup_nil, .dttS (f.other h fun z => z) e (r.fz f nil_all)⟩⟩
  | dtvS h e r => exact ⟨[], nil_all, List.nodup_nil, fun H' f => ⟨[], nil_all, List.nodup_nil, .dtvS (f.other h fun z => z) (e.of fun _ _ _ q => f.other q fun z => z) (r.fz f nil_all)⟩⟩
  | tup h r => exact ⟨os, fun _ z => z, n, fun H' f => ⟨[], nil_all, List.nodup_nil, (Rp.tup h r).fz f fun _ z => z⟩⟩
  | non => exact ⟨[], nil_all, List.nodup_nil, fun H' f => ⟨[], nil_all, List.nodup_nil, .non⟩⟩
  | bl b => exact ⟨[], nil_all, List.nodup_nil, fun H' f => ⟨[], nil_all, List.nodup_nil, .bl b⟩⟩
  | int z => exact ⟨[], nil_all, List.nodup_nil, fun H' f => ⟨[], nil_all, List.nodup_nil, .int z⟩⟩
  | str y => exact ⟨[], nil_all, List.nodup_nil, fun H' f => ⟨[], nil_all, List.nodup_nil, .str y⟩⟩
  | box h => exact ⟨[], nil_all, List.nodup_nil, fun H' f => ⟨[], nil_all, List.nodup_nil, .box h⟩⟩
  | scr h => exact ⟨[], nil_all, List.nodup_nil, fun H' f => ⟨[], nil_all, List.nodup_nil, .scr (f.lk h)⟩⟩
  | exc h r => exact ⟨[], nil_all, List.nodup_nil, fun H' f => ⟨[], nil_all, List.nodup_nil, .exc (f.exAt h) (r.fz f nil_all)⟩⟩
theorem de_inn {e : Expr} {f : Ev} (h : PE X e (tV X.K f)) : PE X e (tM X.K true (eInn f)) := by
  refine ⟨fun pins s σ H Q I ⟨io, b, r, oss, S, d, b', e, q⟩ => ?_⟩
  obtain ⟨d0, b1, e1, e2⟩ := bnd_some e
  obtain ⟨rfl, q2⟩ := ret_some e2
  obtain rfl : b' = b1 := q2
  refine thn (h.run pins s σ H (fun v H' => ∃ io' os, Kp io H io' H' ∧ SR X.K io' b' r oss σ H' ∧ Rp X.K H' io' d0 v os ∧ os.Nodup ∧ ∀ a ∈ os, H a = none) I ⟨io, b, r, oss, S, d0, b', e1, fun v H' io' os k S' x n f => ⟨io', os, k, S', x, n, f⟩⟩) fun u s1 ⟨v, H1, I1, rv, io', os, k, S', x, n, fr⟩ => ?_
  obtain ⟨as, h1, h2, h3⟩ := x.fzIn n
  obtain ⟨H2, I2, fz⟩ := inv_fz I1 h2 fun a ha => (x.ownd S'.bl a (h1 a ha)).2
  obtain ⟨ps, p1, p2, y⟩ := h3 H2 fz
  exact ⟨v, H2, I2, rv, q v H2 io' ps (Kp_fz k fz fun a ha => fr a (h1 a ha)) (SR_fz S S' fz (fun a ha => x.ownd S'.bl a (h1 a ha)) fun a ha => fr a (h1 a ha)) y fun _ => shareIn_still d0⟩
def Op2 (K : PySem.W.Frag) (m1 m2 : Bool) (op : D → D → Option D) (r : R2) : Prop := ∀ (io : List Addr) (H : Hp) (x y : V) (dx dy d : D) (os ps : List Addr) (Q : VK), BL io H → Rp K H io dx x os → Rp K H io dy y ps → (m1 = true → stillIn dx = true) → (m2 = true → stillIn dy = true) →
  op dx dy = some d → (∀ v H' qs, (∀ a o, H a = some o → H' a = some o) → Rp K H' io d v qs → qs.Nodup → (∀ a ∈ qs, H a = none) → Q v H') → r x y H Q
theorem de_two {a b : Expr} {m1 m2 : Bool} {f g : Ev} {op : D → D → Option D} {r : R2} {e : Expr} (ho : Op2 X.K m1 m2 op r) (ha : PE X a (tM X.K m1 f)) (hb : PE X b (tM X.K m2 g)) (he : ∀ ta tb, PE X a ta → PE X b tb → PE X e (tOp r ta tb)) : PE X e (tV X.K (e2 op f g)) :=
  PE_wk (he _ _ ha hb) fun σ H Q ⟨io, b, r, oss, S, d, b', e, q⟩ => by
    obtain ⟨dx, b1, e1, e'⟩ := bnd_some e
    obtain ⟨dy, b2, e2, e3⟩ := bnd_some e'
    obtain ⟨e4, rfl⟩ := lift_some e3
    refine ⟨io, b, r, oss, S, dx, b1, e1, fun x H1 io1 os k1 S1 rx m1 => ⟨io1, b1, r, oss, S1, dy, b', e2, fun y H2 io2 ps k2 S2 ry m2 => ?_⟩⟩
    refine ho io2 H2 x y dx dy d os ps Q S2.bl (rx.keep k2 S1.bl) ry m1 m2 e4 fun v H3 qs k3 rv n fr => ?_
    have k12 := k1.trans k2 S.bl
    refine q v H3 io2 qs (k12.trans (Kp.of k3) S.bl) (S2.later k3) rv n fun a ha => ?_
    cases ea : H a with
    | none => rfl
    | some o =>
      have h2 := fr a ha
      by_cases hm : a ∈ io
      · obtain ⟨vs, e⟩ := S2.bl a (k12.pre.subset hm)
        rw [h2] at e; cases e
      · rw [k12.keep a o ea hm] at h2; cases h2
theorem de_bin {a b : Expr} {o : Operator} {pos : Pos} {m1 m2 : Bool} {f g : Ev} {op : D → D → Option D} {r : R2} (ho : Op2 X.K m1 m2 op r) (hr : OpR X (binaryOp o) r) (ha : PE X a (tM X.K m1 f)) (hb : PE X b (tM X.K m2 g)) : PE X (.BinOp a o b pos) (tV X.K (e2 op f g)) :=
  de_two ho ha hb fun _ _ h1 h2 => pe_op hr h1 h2
theorem de_cmp {a b : Expr} {o : CmpOp} {pos : Pos} {m1 m2 : Bool} {f g : Ev} {op : D → D → Option D} {r : R2} (ho : Op2 X.K m1 m2 op r) (hr : OpR X (compareOp o) r) (ha : PE X a (tM X.K m1 f)) (hb : PE X b (tM X.K m2 g)) (hm : behindInMarks o b = false) : PE X (.Compare a [o] [b] pos) (tV X.K (e2 op f g)) :=
  de_two ho ha hb fun _ _ h1 h2 => pe_cmpR hr h1 h2 hm
theorem fresh_back {K : PySem.W.Frag} {io io1 : List Addr} {b1 : Bx} {r : Env} {oss : List (List Addr)} {σ : St} {H H1 : Hp} {a : Addr} (k : Kp io H io1 H1) (S1 : SR K io1 b1 r oss σ H1) (h : H1 a = none) : H a = none := by
  cases ea : H a with
  | none => rfl
  | some o =>
    by_cases hm : a ∈ io
    · obtain ⟨vs, e⟩ := S1.bl a (k.pre.subset hm)
      rw [h] at e; cases e
    · rw [k.keep a o ea hm] at h; cases h
theorem da_nil : PA X [] (tAV X.K []) := PA_wk pa_nil fun σ H Q ⟨io, b, r, oss, S, d, b', e, q⟩ => by
  obtain ⟨rfl, rfl⟩ := ret_some e
  exact q [] H io [] (Kp.refl _ _) S .nil List.nodup_nil nil_all
theorem da_nilM {md : Bool} : PA X [] (tAM X.K md []) := PA_wk pa_nil fun σ H Q ⟨io, b, r, oss, S, d, b', e, q⟩ => by
  obtain ⟨rfl, rfl⟩ := ret_some e
  exact q [] H io [] (Kp.refl _ _) S .nil fun _ _ z => nomatch z
theorem da_cons {e : Expr} {es : List Expr} {f : Ev} {fs : List Ev} (he : PE X e (tV X.K f)) (hes : PA X es (tAV X.K fs)) (hs : starEach (e :: es) X.env = (false, eval e X.env) :: starEach es X.env) : PA X (e :: es) (tAV X.K (f :: fs)) :=
  PA_wk (pa_cons he hes hs) fun σ H Q ⟨io, b, r, oss, S, ds, b', e, q⟩ => by
    obtain ⟨d, b1, e1, e'⟩ := bnd_some e
    obtain ⟨ds', b2, e2, e3⟩ := bnd_some e'
    obtain ⟨rfl, rfl⟩ := ret_some e3
    refine ⟨io, b, r, oss, S, d, b1, e1, fun x H1 io1 os k1 S1 rx n1 f1 => ⟨io1, b1, r, oss, S1, ds', b', e2, fun xs H2 io2 ps k2 S2 rxs n2 f2 => ?_⟩⟩
    refine q (x :: xs) H2 io2 (os ++ ps) (k1.trans k2 S.bl) S2 (.cons (rx.keep k2 S1.bl) rxs) (List.nodup_append.mpr ⟨n1, n2, fun a ha c hc z => ?_⟩) fun a ha => ?_
    · obtain ⟨_, u, eu, _⟩ := rx.ownd S1.bl a ha
      rw [z, f2 c hc] at eu; cases eu
    · rcases List.mem_append.mp ha with h | h
      · exact f1 a h
      · exact fresh_back k1 S1 (f2 a h)
theorem da_consM {md : Bool} {e : Expr} {es : List Expr} {f : Ev} {fs : List Ev} (he : PE X e (tM X.K md f)) (hes : PA X es (tAM X.K md fs)) (hs : starEach (e :: es) X.env = (false, eval e X.env) :: starEach es X.env) : PA X (e :: es) (tAM X.K md (f :: fs)) :=
  PA_wk (pa_cons he hes hs) fun σ H Q ⟨io, b, r, oss, S, ds, b', e, q⟩ => by
    obtain ⟨d, b1, e1, e'⟩ := bnd_some e
    obtain ⟨ds', b2, e2, e3⟩ := bnd_some e'
    obtain ⟨rfl, rfl⟩ := ret_some e3
    refine ⟨io, b, r, oss, S, d, b1, e1, fun x H1 io1 os k1 S1 rx m1 => ⟨io1, b1, r, oss, S1, ds', b', e2, fun xs H2 io2 ps k2 S2 rxs m2 => ?_⟩⟩
    refine q (x :: xs) H2 io2 (os ++ ps) (k1.trans k2 S.bl) S2 (.cons (rx.keep k2 S1.bl) rxs) fun h c hc => ?_
    rcases List.mem_cons.mp hc with rfl | hc
    · exact m1 h
    · exact m2 h c hc
def OpN (K : PySem.W.Frag) (md : Bool) (op : List D → Option D) (r : List V → Hp → VK → Prop) : Prop := ∀ (io : List Addr) (H : Hp) (xs : List V) (ds : List D) (d : D) (os : List Addr) (Q : VK), BL io H → RpL K H io ds xs os → (md = true → ∀ d ∈ ds, stillIn d = true) →
  op ds = some d → (∀ v H' qs, (∀ a o, H a = some o → H' a = some o) → Rp K H' io d v qs → qs.Nodup → (∀ a ∈ qs, H a = none) → Q v H') → r xs H Q
theorem de_n {e : Expr} {es : List Expr} {md : Bool} {fs : List Ev} {op : List D → Option D} {r : List V → Hp → VK → Prop} (ho : OpN X.K md op r) (ha : PA X es (tAM X.K md fs)) (he : ∀ t, PA X es t → PE X e (tCB r t)) : PE X e (tV X.K (eN op fs)) :=
  PE_wk (he _ ha) fun σ H Q ⟨io, b, r, oss, S, d, b', e, q⟩ => by
    obtain ⟨ds, b1, e1, e2⟩ := bnd_some e
    obtain ⟨e3, rfl⟩ := lift_some e2
    refine ⟨io, b, r, oss, S, ds, b', e1, fun xs H1 io1 os k1 S1 rx m1 => ?_⟩
    exact ho io1 H1 xs ds d os Q S1.bl rx m1 e3 fun v H2 qs k2 rv n fr => q v H2 io1 qs (k1.trans (Kp.of k2) S.bl) (S1.later k2) rv n fun a ha => fresh_back k1 S1 (fr a ha)
end
end HF
namespace HF
open PySem PySem.Spec L2
open PyProof.Rows hiding St
abbrev tupO (its : Array Value) : Obj := { cls := .type "tuple", data := .seq its }
abbrev NewT (H : Hp) (Q : VK) (xs : List V) : Prop := ∀ (p : Addr) (o : Obj), H p = none → o.dict = none → Q (.ref p) (upd H p (.frz o (.tup xs)))
section
variable {X : Cx} {pins : List (Addr × Obj)} {σ : St} {H : Hp} {s : Shared}
theorem newTup {Q : VK} {xs : List V} {its : List Value} {tk : Nat} (I : Inv X pins σ H s) (r : Vals xs its) (hz : xs.length ≤ sizeLine) (q : NewT H Q xs) : EP X pins σ Q (.ref s.heap.objs.size) { s with heap := s.heap.push (tupO its.toArray), toks := tk } :=
  ⟨.ref s.heap.objs.size, _, I.laid (t' := tk) (o := .frz (tupO its.toArray) (.tup xs)) (fun b ob q => Heap.get?_push_of_some _ q) (Nat.le_refl _) ⟨Heap.get?_push_size _ rfl, hz, its, r, IsTup.new _ _⟩, rfl, q _ _ (I.hok.fresh (Nat.le_refl _)) rfl⟩
def rCatF (K : PySem.W.Frag) : R2 := fun x y H Q => ∃ a b xs ys, x = .ref a ∧ y = .ref b ∧ SqT K H a xs ∧ SqT K H b ys ∧ xs.length + ys.length ≤ sizeLine ∧ (xs = [] → Q (.ref b) H) ∧ (xs ≠ [] → ys = [] → Q (.ref a) H) ∧ (xs ≠ [] → ys ≠ [] → NewT H Q (xs ++ ys))
theorem op_catF : OpR X (binaryOp .Add) (rCatF X.K) := by
  intro pins s σ H x y v u Q I rx ry h
  obtain ⟨a, b, xs, ys, rfl, rfl, ha, hb, hz, q0, q1, q2⟩ := h
  cases rx
  cases ry
  obtain ⟨us, r1, p1, _⟩ := I.tuple ha
  obtain ⟨ws, r2, p2, _⟩ := I.tuple hb
  by_cases hx : xs = []
  · subst hx
    cases r1
    exact cat_tup0 p1 p2 ⟨.ref b, H, I, rfl, q0 rfl⟩
  · refine HT.cat_tup p1 p2 (fun z => hx (r1.nil_iff.mp z)) (fun z => ⟨.ref a, H, I, rfl, q1 hx (r2.nil_iff.mp z)⟩) (fun z => ?_) (by rw [← r1.length, ← r2.length]; exact hz)
    exact newTup (tk := s.toks) I (r1.append r2) (by rw [List.length_append]; exact hz) (q2 hx fun w => z (r2.nil_iff.mpr w))
def tTupF (t : TA) : TE := fun σ H Q => t σ H fun xs H1 => xs.length ≤ sizeLine ∧ NewT H1 Q xs
theorem pe_tupF {es : List Expr} {t : TA} {pos : Pos} {x1} (h : PA X es t) : PE X (.Tuple es x1 pos) (tTupF t) := by
  refine ⟨fun pins s σ H Q I hq => wpAny_Tuple_spliced (thn (h.run pos pins s σ H _ I hq) fun us s1 ⟨xs, H1, I1, r, z, q⟩ => ⟨by rw [← r.length]; exact z, ?_⟩)⟩
  exact newTup (tk := s1.toks) I1 r z q
end
end HF
namespace HF
open PySem (Str PyData sizeLine)
mutual
def toPD : D → PyData
  | .non => .none
  | .bl b => .bool b
  | .int z => .int z
  | .str x => .str x
  | .lst _ xs => .list (toPDL xs)
  | .tup xs => .tuple (toPDL xs)
  | .dct _ _ => .none
  | .dtt _ _ => .none
  | .dtv _ _ _ => .none
  | .box _ => .none
  | .scr _ => .none
  | .exc _ _ => .none
def toPDL : List D → List PyData
  | [] => []
  | x :: xs => toPD x :: toPDL xs
end
theorem shareL_eq : ∀ xs : List D, shareL xs = xs.map share
  | [] => by rw [shareL]; rfl
  | x :: xs => by rw [shareL, shareL_eq xs]; rfl
theorem stillL_eq : ∀ xs : List D, stillL xs = xs.all still
  | [] => by rw [stillL]; rfl
  | x :: xs => by rw [stillL, stillL_eq xs]; rfl
def plainD : Nat → D → Bool
  | _, .non => true
  | _, .bl _ => true
  | _, .int _ => true
  | _, .str _ => true
  | n + 1, .lst _ xs => xs.all (plainD n)
  | n + 1, .tup xs => xs.all (plainD n)
  | _, _ => false
def eqvD (x y : D) : Bool := PyData.eqv (toPD x) (toPD y)
def oEq (x y : D) : Option D := if plainD 40 x && plainD 40 y then some (.bl (eqvD x y)) else none
def oNe (x y : D) : Option D := if plainD 40 x && plainD 40 y then some (.bl (!eqvD x y)) else none
def oIsN (x : D) : Option D := match x with
  | .non => some (.bl true)
  | _ => some (.bl false)
def ltS (x y : Str) : Bool := decide (x.cps.toList < y.cps.toList)
def oLt (x y : D) : Option D := match x, y with
  | .int a, .int b => some (.bl (decide (a < b)))
  | .str a, .str b => some (.bl (ltS a b))
  | _, _ => none
def oLe (x y : D) : Option D := match x, y with
  | .int a, .int b => some (.bl (decide (a ≤ b)))
  | _, _ => none
def oGt (x y : D) : Option D := match x, y with
  | .int a, .int b => some (.bl (decide (b < a)))
  | .str a, .str b => some (.bl (ltS b a))
  | _, _ => none
def oGe (x y : D) : Option D := match x, y with
  | .int a, .int b => some (.bl (decide (b ≤ a)))
  | _, _ => none
def oAdd (x y : D) : Option D := match x, y with
  | .int a, .int b => some (.int (a + b))
  | .str a, .str b => if a.length + b.length ≤ sizeLine then some (.str (a ++ b)) else none
  | .lst _ a, .lst _ b => if a.length + b.length ≤ sizeLine then some (.lst true (a ++ b)) else none
  | .tup a, .tup b => if a.length + b.length ≤ sizeLine then some (.tup (a ++ b)) else none
  | _, _ => none
def oSub (x y : D) : Option D := match x, y with
  | .int a, .int b => some (.int (a - b))
  | _, _ => none
def oMul (x y : D) : Option D := match x, y with
  | .int a, .int b => if a.natAbs < 2 ^ 64 ∨ b.natAbs < 2 ^ 64 then some (.int (a * b)) else none
  | .lst _ a, .int k => if k.natAbs < 2 ^ 60 ∧ a.length * k.toNat ≤ sizeLine then some (.lst true (List.replicate k.toNat a).flatten) else none
  | _, _ => none
def oFdiv (x y : D) : Option D := match x, y with
  | .int a, .int b => if 0 < b ∧ b < 4611686018427387904 then some (.int (a / b)) else none
  | _, _ => none
def oMod (x y : D) : Option D := match x, y with
  | .int a, .int b => if 0 < b then some (.int (a % b)) else none
  | _, _ => none
def oPow (x y : D) : Option D := match x, y with
  | .int a, .int b => if 0 ≤ b ∧ b ≤ 1000000 ∧ a.natAbs < 2 ^ 64 then some (.int (a ^ b.toNat)) else none
  | _, _ => none
def oNeg (x : D) : Option D := match x with
  | .int a => some (.int (-a))
  | _ => none
def oNot (x : D) : Option D := match x with
  | .bl b => some (.bl (!b))
  | _ => none
def keyOf (d : D) : Option DK := match d with
  | .int z => some (.i z)
  | .str x => some (.s x)
  | _ => none
def look (k : DK) : List (DK × D) → Option D
  | [] => none
  | (j, d) :: r => if j = k then some d else look k r
def oIx (c i : D) : Option D := match c, i with
  | .lst _ xs, .int z => L2.atI xs z
  | .tup xs, .int z => L2.atI xs z
  | .scr zs, .int z => (L2.atI zs z).map .int
  | .str x, .int z => if x.length ≤ sizeLine then (L2.atI x.cps.toList z).map fun c => .str ⟨#[c]⟩ else none
  | .dct _ kvs, k => (keyOf k).bind fun k => look k kvs
  | _, _ => none
def cutL {α : Type} (xs : List α) (lo hi : Option Int) : List α := (xs.drop (HT.sIx xs.length 0 lo)).take (HT.sIx xs.length xs.length hi - HT.sIx xs.length 0 lo)
def oSl (lo hi : Option Int) (c : D) : Option D := match c with
  | .lst _ xs => some (.lst true (cutL xs lo hi))
  | .tup xs => some (.tup (cutL xs lo hi))
  | .str x => if x.length ≤ sizeLine then some (.str (L2.cutS x lo hi)) else none
  | _ => none
def oRev (c : D) : Option D := match c with
  | .lst _ xs => some (.lst true xs.reverse)
  | .tup xs => some (.tup xs.reverse)
  | _ => none
def oLen (x : D) : Option D := match x with
  | .lst _ xs => some (.int xs.length)
  | .tup xs => some (.int xs.length)
  | .dct _ xs => some (.int xs.length)
  | .scr xs => some (.int xs.length)
  | .str x => if x.length ≤ sizeLine then some (.int x.length) else none
  | _ => none
def oAbs (x : D) : Option D := match x with
  | .int a => some (.int (if a < 0 then -a else a))
  | _ => none
def oInt (x : D) : Option D := match x with
  | .int a => some (.int a)
  | .bl b => some (.int (if b then 1 else 0))
  | _ => none
def oList (x : D) : Option D := match x with
  | .lst _ xs => some (.lst true xs)
  | .tup xs => some (.lst true xs)
  | _ => none
def oTuple (x : D) : Option D := match x with
  | .lst _ xs => some (.tup xs)
  | .tup xs => some (.tup xs)
  | _ => none
def blsOf : List D → Option (List Bool)
  | [] => some []
  | .bl b :: r => (blsOf r).map (b :: ·)
  | _ => none
def oAll (x : D) : Option D := match x with
  | .lst _ xs => (blsOf xs).map fun bs => .bl (bs.all id)
  | _ => none
def oAny (x : D) : Option D := match x with
  | .lst _ xs => (blsOf xs).map fun bs => .bl (bs.any id)
  | _ => none
inductive Ty where
  | tstr | tint | tbool | tlist | ttuple | tdict
  deriving DecidableEq
def isTy (x : D) (t : Ty) : Option Bool := match x with
  | .non => some false
  | .bl _ => some (decide (t = .tbool ∨ t = .tint))
  | .int _ => some (decide (t = .tint))
  | .str _ => some (decide (t = .tstr))
  | .lst _ _ => some (decide (t = .tlist))
  | .tup _ => some (decide (t = .ttuple))
  | _ => none
def oIsi (ts : List Ty) (x : D) : Option D := match ts with
  | [] => some (.bl false)
  | t :: r => match isTy x t with
    | some true => some (.bl true)
    | some false => oIsi r x
    | none => none
def firstIxS (z : Str) : List Str → Option Nat
  | [] => none
  | x :: r => if x = z then some 0 else (firstIxS z r).map (· + 1)
def itSeq (x : D) : Option (List D) := match x with
  | .lst _ xs => some xs
  | .tup xs => some xs
  | .str z => some (signs z)
  | .dct false kvs => some (kvs.map fun p => keyD p.1)
  | _ => none
def itZip (x y : D) : Option (List D) := match itemsD x, itemsD y with
  | some xs, some ys => some ((xs.zip ys).map fun p => .tup [p.1, p.2])
  | _, _ => none
end HF
namespace HF
open PySem (Str PyData sizeLine)
def n1 (op : D → Option D) (ds : List D) : Option D := match ds with
  | [x] => op x
  | _ => none
def n2 (op : D → D → Option D) (ds : List D) : Option D := match ds with
  | [x, y] => op x y
  | _ => none
def evPart (o : Option Ev) (r : Env) : M (Option Int) := match o with
  | none => ret none
  | some f => bnd (f r) fun d => match d with
    | .int z => ret (some z)
    | _ => fail
def eSl (f : Ev) (lo hi : Option Ev) : Ev := fun r => bnd (f r) fun c => bnd (evPart lo r) fun l => bnd (evPart hi r) fun h => lift (oSl l h c)
end HF
namespace HF
open PySem PySem.Spec L2
open PyProof.Rows hiding St
section
variable {K : PySem.W.Frag} {H : Hp} {io : List Addr}
theorem RpL.dp_of : ∀ {ds : List D} {vs : List V} {os : List Addr}, RpL K H io ds vs os → (∀ d ∈ ds, ∀ v os, Rp K H io d v os → Dp K H v (toPD d)) → DpAll K H vs (toPDL ds)
  | _, _, _, .nil, _ => by rw [toPDL]; exact .nil
  | _, _, _, .cons h r, f => by rw [toPDL]; exact .cons (f _ List.mem_cons_self _ _ h) (r.dp_of fun d hd => f d (List.mem_cons_of_mem _ hd))
theorem Rp.dp : ∀ (n : Nat) {d : D} {v : V} {os : List Addr}, Rp K H io d v os → plainD n d = true → Dp K H v (toPD d) := by
  intro n
  induction n with
  | zero =>
    intro d v os x h
    cases x with
    | non => rw [toPD]; exact .non
    | bl b => rw [toPD]; exact .bl b
    | int z => rw [toPD]; exact .int z
    | str h => rw [toPD]; exact .str _
    | _ => simp [plainD] at h
  | succ n ih =>
    intro d v os x h
    cases x with
    | non => rw [toPD]; exact .non
    | bl b => rw [toPD]; exact .bl b
    | int z => rw [toPD]; exact .int z
    | str h => rw [toPD]; exact .str _
    | lstS hl r =>
      rw [toPD]
      have hd := List.all_eq_true.mp (show (List.all _ (plainD n)) = true from h)
      exact .lst hl.sq (r.dp_of fun d m v os x => ih x (hd d m))
    | lstO hl ni r =>
      rw [toPD]
      have hd := List.all_eq_true.mp (show (List.all _ (plainD n)) = true from h)
      exact .lst (SqL.of hl) (r.dp_of fun d m v os x => ih x (hd d m))
    | tup hl r =>
      rw [toPD]
      have hd := List.all_eq_true.mp (show (List.all _ (plainD n)) = true from h)
      exact .tup hl.sqT (r.dp_of fun d m v os x => ih x (hd d m))
    | _ => simp [plainD] at h
theorem RpL.lay_of {n : Nat} : ∀ {ds : List D} {vs : List V} {os : List Addr}, RpL K H io ds vs os → (∀ d ∈ ds, ∀ v os, Rp K H io d v os → (toPD d).canLay0 = true ∧ (toPD d).depth ≤ n) → PyData.canLayAll0 (toPDL ds) = true ∧ PyData.depthAll (toPDL ds) ≤ n
  | _, _, _, .nil, _ => by rw [toPDL]; exact ⟨rfl, Nat.zero_le _⟩
  | _, _, _, .cons h r, f => by
    rw [toPDL]
    obtain ⟨a, b⟩ := f _ List.mem_cons_self _ _ h
    obtain ⟨a', b'⟩ := r.lay_of fun d hd => f d (List.mem_cons_of_mem _ hd)
    exact ⟨by rw [PyData.canLayAll0, a, a']; rfl, by rw [PyData.depthAll]; exact Nat.max_le.mpr ⟨b, b'⟩⟩
theorem Rp.lay : ∀ (n : Nat) {d : D} {v : V} {os : List Addr}, Rp K H io d v os → plainD n d = true → (toPD d).canLay0 = true ∧ (toPD d).depth ≤ n := by
  intro n
  induction n with
  | zero =>
    intro d v os x h
    cases x with
    | non => rw [toPD]; exact ⟨rfl, Nat.zero_le _⟩
    | bl b => rw [toPD]; exact ⟨rfl, Nat.zero_le _⟩
    | int z => rw [toPD]; exact ⟨rfl, Nat.zero_le _⟩
    | str hs => rw [toPD]; exact ⟨hs, Nat.zero_le _⟩
    | _ => simp [plainD] at h
  | succ n ih =>
    intro d v os x h
    have key : ∀ {ds : List D} {vs : List V} {os : List Addr}, RpL K H io ds vs os → List.all ds (plainD n) = true → PyData.canLayAll0 (toPDL ds) = true ∧ PyData.depthAll (toPDL ds) + 1 ≤ n + 1 := fun r h => by
      have hd := List.all_eq_true.mp h
      obtain ⟨a, b⟩ := r.lay_of fun d m v os x => ih x (hd d m)
      exact ⟨a, Nat.succ_le_succ b⟩
    cases x with
    | non => rw [toPD]; exact ⟨rfl, Nat.zero_le _⟩
    | bl b => rw [toPD]; exact ⟨rfl, Nat.zero_le _⟩
    | int z => rw [toPD]; exact ⟨rfl, Nat.zero_le _⟩
    | str hs => rw [toPD]; exact ⟨hs, Nat.zero_le _⟩
    | lstS hl r => rw [toPD, PyData.canLay0, PyData.depth]; exact key r h
    | lstO hl ni r => rw [toPD, PyData.canLay0, PyData.depth]; exact key r h
    | tup hl r => rw [toPD, PyData.canLay0, PyData.depth]; exact key r h
    | _ => simp [plainD] at h
theorem Rp.shaped {n : Nat} {d : D} {v : V} {os : List Addr} (x : Rp K H io d v os) (h : plainD n d = true) (hn : n ≤ 64) : SeqAt.shaped (toPD d) = true := by
  obtain ⟨a, b⟩ := x.lay n h
  show ((toPD d).canLay0 && decide ((toPD d).depth ≤ 64)) = true
  rw [a, decide_eq_true (Nat.le_trans b hn)]
  rfl
end
section
variable {X : Cx}
theorem Rp.int_inv {K : PySem.W.Frag} {H : Hp} {io : List Addr} {z : Int} {v : V} {os : List Addr} (h : Rp K H io (.int z) v os) : v = .int z := by cases h; rfl
theorem Rp.bl_inv {K : PySem.W.Frag} {H : Hp} {io : List Addr} {z : Bool} {v : V} {os : List Addr} (h : Rp K H io (.bl z) v os) : v = .bl z := by cases h; rfl
theorem Rp.str_inv {K : PySem.W.Frag} {H : Hp} {io : List Addr} {z : Str} {v : V} {os : List Addr} (h : Rp K H io (.str z) v os) : v = .str z ∧ PyData.strOk z = true := by
  cases h with
  | str h => exact ⟨rfl, h⟩
abbrev Ext (H H' : Hp) : Prop := ∀ a o, H a = some o → H' a = some o
theorem give_bl {K : PySem.W.Frag} {H : Hp} {io : List Addr} {d : D} {Q : VK} {b : Bool} (e : d = .bl b) (q : ∀ v H' qs, Ext H H' → Rp K H' io d v qs → qs.Nodup → (∀ a ∈ qs, H a = none) → Q v H') : Q (.bl b) H := by
  subst e; exact q _ _ [] (fun _ _ h => h) (.bl b) List.nodup_nil nil_all
theorem give_int {K : PySem.W.Frag} {H : Hp} {io : List Addr} {d : D} {Q : VK} {b : Int} (e : d = .int b) (q : ∀ v H' qs, Ext H H' → Rp K H' io d v qs → qs.Nodup → (∀ a ∈ qs, H a = none) → Q v H') : Q (.int b) H := by
  subst e; exact q _ _ [] (fun _ _ h => h) (.int b) List.nodup_nil nil_all
theorem give_str {K : PySem.W.Frag} {H : Hp} {io : List Addr} {d : D} {Q : VK} {b : Str} (e : d = .str b) (h : PyData.strOk b = true) (q : ∀ v H' qs, Ext H H' → Rp K H' io d v qs → qs.Nodup → (∀ a ∈ qs, H a = none) → Q v H') : Q (.str b) H := by
  subst e; exact q _ _ [] (fun _ _ h => h) (.str h) List.nodup_nil nil_all
theorem give_lst {K : PySem.W.Frag} {H : Hp} {io : List Addr} {d : D} {ds : List D} {vs : List V} {Q : VK} (bl : BL io H) (e : d = .lst true ds) (r : RpL K H io ds vs []) (q : ∀ v H' qs, Ext H H' → Rp K H' io d v qs → qs.Nodup → (∀ a ∈ qs, H a = none) → Q v H') : ∀ p, H p = none → Q (.ref p) (upd H p (.lst vs)) := fun p hp => by
  subst e
  exact q _ _ [p] (ext_upd hp) (Rp.newL bl hp r) (by simp) fun a ha => by rw [List.mem_singleton.mp ha]; exact hp
theorem give_tup {K : PySem.W.Frag} {H : Hp} {io : List Addr} {d : D} {ds : List D} {vs : List V} {Q : VK} (bl : BL io H) (e : d = .tup ds) (r : RpL K H io ds vs []) (q : ∀ v H' qs, Ext H H' → Rp K H' io d v qs → qs.Nodup → (∀ a ∈ qs, H a = none) → Q v H') : ∀ (p : Addr) (o : Obj), H p = none → o.dict = none → Q (.ref p) (upd H p (.frz o (.tup vs))) := fun p o hp ho => by
  subst e
  exact q _ _ [] (ext_upd hp) (Rp.newT ho bl hp r) List.nodup_nil nil_all
theorem give_old {K : PySem.W.Frag} {H : Hp} {io : List Addr} {d : D} {v : V} {Q : VK} (x : Rp K H io d v []) (q : ∀ v H' qs, Ext H H' → Rp K H' io d v qs → qs.Nodup → (∀ a ∈ qs, H a = none) → Q v H') : Q v H :=
  q _ _ [] (fun _ _ h => h) x List.nodup_nil nil_all
theorem Rp.lst_still {K : PySem.W.Frag} {H : Hp} {io : List Addr} {o : Bool} {ds : List D} {v : V} {os : List Addr} (h : Rp K H io (.lst o ds) v os) (s : stillIn (.lst o ds) = true) : ∃ a vs, v = .ref a ∧ Rd H a (.lst vs) ∧ RpL K H io ds vs [] := by
  obtain ⟨a, vs, ps, e, hl, r, _, _⟩ := h.lst_inv
  have : ps = [] := r.still_nil s
  subst this
  exact ⟨a, vs, e, hl, r⟩
theorem Rp.tup_still {K : PySem.W.Frag} {H : Hp} {io : List Addr} {ds : List D} {v : V} {os : List Addr} (h : Rp K H io (.tup ds) v os) (s : stillIn (.tup ds) = true) : ∃ a vs, v = .ref a ∧ SqT K H a vs ∧ RpL K H io ds vs [] := by
  obtain ⟨a, vs, e, hl, r⟩ := h.tup_inv
  have s' : still (.tup ds) = true := s
  rw [still] at s'
  have : os = [] := r.still_nil s'
  subst this
  exact ⟨a, vs, e, hl, r⟩
theorem Rp.still0 {K : PySem.W.Frag} {H : Hp} {io : List Addr} {ds : List D} {v : V} {os : List Addr} (h : Rp K H io (.tup ds) v os) (s : stillIn (.tup ds) = true) : Rp K H io (.tup ds) v [] := by
  have z : os = [] := h.still_nil s
  subst z
  exact h
theorem o_eq : Op2 X.K false false oEq (rEqD X.K) := by
  intro io H x y dx dy d os ps Q bl rx ry _ _ e q
  unfold oEq at e
  split at e
  · rename_i h
    rw [Bool.and_eq_true] at h
    cases e
    exact ⟨_, _, rx.dp 40 h.1, ry.dp 40 h.2, rx.shaped h.1 (by decide), ry.shaped h.2 (by decide), give_bl rfl q⟩
  · cases e
theorem o_ne : Op2 X.K false false oNe (rNeD X.K) := by
  intro io H x y dx dy d os ps Q bl rx ry _ _ e q
  unfold oNe at e
  split at e
  · rename_i h
    rw [Bool.and_eq_true] at h
    cases e
    exact ⟨_, _, rx.dp 40 h.1, ry.dp 40 h.2, rx.shaped h.1 (by decide), ry.shaped h.2 (by decide), give_bl rfl q⟩
  · cases e
def rLt : R2 := fun x y H Q => (∃ i j, x = .int i ∧ y = .int j ∧ Q (.bl (decide (i < j))) H) ∨ ∃ i j, x = .str i ∧ y = .str j ∧ Q (.bl (decide (i.cps.toList < j.cps.toList))) H
theorem op_ltA : OpR X (compareOp .Lt) rLt := OpR.or op_lt op_lt_str
theorem o_lt : Op2 X.K false false oLt rLt := by
  intro io H x y dx dy d os ps Q bl rx ry _ _ e q
  cases dx <;> cases dy <;> first | cases e | skip
  · exact .inl ⟨_, _, rx.int_inv, ry.int_inv, give_bl rfl q⟩
  · exact .inr ⟨_, _, rx.str_inv.1, ry.str_inv.1, give_bl rfl q⟩
def rGt : R2 := fun x y H Q => (∃ i j, x = .int i ∧ y = .int j ∧ Q (.bl (decide (j < i))) H) ∨ ∃ i j, x = .str i ∧ y = .str j ∧ Q (.bl (decide (j.cps.toList < i.cps.toList))) H
theorem o_gt : Op2 X.K false false oGt rGt := by
  intro io H x y dx dy d os ps Q bl rx ry _ _ e q
  cases dx <;> cases dy <;> first | cases e | skip
  · exact .inl ⟨_, _, rx.int_inv, ry.int_inv, give_bl rfl q⟩
  · exact .inr ⟨_, _, rx.str_inv.1, ry.str_inv.1, give_bl rfl q⟩
theorem o_ge : Op2 X.K false false oGe (fun x y H Q => ∃ i j, x = .int i ∧ y = .int j ∧ Q (.bl (decide (j ≤ i))) H) := by
  intro io H x y dx dy d os ps Q bl rx ry _ _ e q
  cases dx <;> cases dy <;> first | cases e | skip
  exact ⟨_, _, rx.int_inv, ry.int_inv, give_bl rfl q⟩
def rCatR : R2 := fun x y H Q => ∃ l b xs zs, x = .ref l ∧ y = .ref b ∧ Rd H l (.lst xs) ∧ Rd H b (.lst zs) ∧ xs.length + zs.length ≤ sizeLine ∧ ∀ p, H p = none → Q (.ref p) (upd H p (.lst (xs ++ zs)))
theorem op_catR : OpR X (binaryOp .Add) rCatR := by
  intro pins s σ H x y v u Q I rx ry h
  obtain ⟨l, b, xs, zs, rfl, rfl, hx, hz, hn, q⟩ := h
  obtain rfl : v = Value.ref l := rx
  obtain rfl : u = Value.ref b := ry
  obtain ⟨_, us, n1, v1, g1⟩ := (show ObjOk X.prog X.w H s.heap l (.lst xs) from hx.ok I.hok)
  obtain ⟨_, ws, n2, v2, g2⟩ := (show ObjOk X.prog X.w H s.heap b (.lst zs) from hz.ok I.hok)
  have e1 := v1.length
  have e2 := v2.length
  have ea : us.toArray ++ ws.toArray = (us ++ ws).toArray := by simp
  refine PySem.P.add_list g1 g2 ?_ (by simp only [List.size_toArray]; omega)
  rw [ea]
  refine ⟨.ref _, _, I.lnew (t' := s.toks) (v1.append v2) ?_, rfl, q _ I.fresh⟩
  rw [List.length_append]; exact hn
def rAddA (K : PySem.W.Frag) : R2 := fun x y H Q => (∃ i j, x = .int i ∧ y = .int j ∧ Q (.int (i + j)) H) ∨ (∃ i j, x = .str i ∧ y = .str j ∧ i.length + j.length ≤ sizeLine ∧ Q (.str (i ++ j)) H) ∨ rCatR x y H Q ∨ rCatF K x y H Q
theorem op_addA : OpR X (binaryOp .Add) (rAddA X.K) := OpR.or op_add (OpR.or op_add_str (OpR.or op_catR op_catF))
theorem strOk_app {a b : Str} (h1 : PyData.strOk a = true) (h2 : PyData.strOk b = true) : PyData.strOk (a ++ b) = true := by
  obtain ⟨a⟩ := a
  obtain ⟨b⟩ := b
  show (a ++ b).all _ = true
  have h1 : a.all (· < 0x110000) = true := h1
  have h2 : b.all (· < 0x110000) = true := h2
  rw [Array.all_append, h1, h2]; rfl
theorem o_add : Op2 X.K true true oAdd (rAddA X.K) := by
  intro io H x y dx dy d os ps Q bl rx ry mx my e q
  cases dx <;> cases dy <;> first | cases e | skip
  · exact .inl ⟨_, _, rx.int_inv, ry.int_inv, give_int rfl q⟩
  · unfold oAdd at e
    dsimp only at e
    split at e
    · rename_i hl
      cases e
      exact .inr (.inl ⟨_, _, rx.str_inv.1, ry.str_inv.1, hl, give_str rfl (strOk_app rx.str_inv.2 ry.str_inv.2) q⟩)
    · cases e
  · unfold oAdd at e
    dsimp only at e
    split at e
    · rename_i hl
      cases e
      obtain ⟨a, vs, ex, hx, r1⟩ := rx.lst_still (mx rfl)
      obtain ⟨b, ws, ey, hy, r2⟩ := ry.lst_still (my rfl)
      have l1 := r1.length
      have l2 := r2.length
      exact .inr (.inr (.inl ⟨a, b, vs, ws, ex, ey, hx, hy, by omega, give_lst bl rfl (r1.append r2) q⟩))
    · cases e
  · unfold oAdd at e
    dsimp only at e
    split at e
    · rename_i hl
      cases e
      obtain ⟨a, vs, ex, hx, r1⟩ := rx.tup_still (mx rfl)
      obtain ⟨b, ws, ey, hy, r2⟩ := ry.tup_still (my rfl)
      have l1 := r1.length
      have l2 := r2.length
      refine .inr (.inr (.inr ⟨a, b, vs, ws, ex, ey, hx, hy, by omega, fun z => ?_, fun _ z => ?_, fun _ _ => give_tup bl rfl (r1.append r2) q⟩))
      · subst z
        cases r1
        exact give_old (by rw [← ey]; exact ry.still0 (my rfl)) q
      · subst z
        cases r2
        rw [List.append_nil] at q
        exact give_old (by rw [← ex]; exact rx.still0 (mx rfl)) q
    · cases e
theorem fdiv_c {b : Int} (h : 0 < b ∧ b < 4611686018427387904) : CDivW 0 b := by
  have h2 : b.natAbs < 2 ^ 62 := by have := h.1; have := h.2; omega
  have h3 : b.natAbs ≠ 0 := by have := h.1; omega
  have := (Nat.log2_lt h3).mpr h2
  exact ⟨h.1, by omega⟩
theorem o_fdiv : Op2 X.K false false oFdiv (rI CDivW fun i j => .int (i / j)) := by
  intro io H x y dx dy d os ps Q bl rx ry _ _ e q
  cases dx <;> cases dy <;> first | cases e | skip
  unfold oFdiv at e
  dsimp only at e
  split at e
  · rename_i h
    cases e
    exact ⟨_, _, rx.int_inv, ry.int_inv, fdiv_c h, give_int rfl q⟩
  · cases e
theorem o_mod : Op2 X.K false false oMod (rI (fun _ j => 0 < j) fun i j => .int (i % j)) := by
  intro io H x y dx dy d os ps Q bl rx ry _ _ e q
  cases dx <;> cases dy <;> first | cases e | skip
  unfold oMod at e
  dsimp only at e
  split at e
  · rename_i h; cases e; exact ⟨_, _, rx.int_inv, ry.int_inv, h, give_int rfl q⟩
  · cases e
theorem o_pow : Op2 X.K false false oPow (rI CPow fun i j => .int (i ^ j.toNat)) := by
  intro io H x y dx dy d os ps Q bl rx ry _ _ e q
  cases dx <;> cases dy <;> first | cases e | skip
  unfold oPow at e
  dsimp only at e
  split at e
  · rename_i h; cases e; exact ⟨_, _, rx.int_inv, ry.int_inv, h, give_int rfl q⟩
  · cases e
def rRepR : R2 := fun x y H Q => ∃ l k xs, x = .ref l ∧ y = .int k ∧ Rd H l (.lst xs) ∧ k.natAbs < 2 ^ 60 ∧ xs.length * k.toNat ≤ sizeLine ∧ ∀ p, H p = none → Q (.ref p) (upd H p (.lst (List.replicate k.toNat xs).flatten))
theorem op_repR : OpR X (binaryOp .Mult) rRepR := by
  intro pins s σ H x y v u Q I rx ry h
  obtain ⟨l, k, xs, rfl, rfl, hx, hk, hn, q⟩ := h
  obtain rfl : v = Value.ref l := rx
  obtain ⟨t, rfl⟩ := ry
  obtain ⟨_, its, n, r, e⟩ := (show ObjOk X.prog X.w H s.heap l (.lst xs) from hx.ok I.hok)
  have hl := r.length
  have szl := sizeLine_eq
  have few : its.toArray.size * k.toNat ≤ sizeLine := by rw [List.size_toArray, ← hl]; exact hn
  have folds : ∀ m : Nat, List.foldl (fun x1 x2 => x1 ++ x2) #[] (List.replicate m its.toArray) = (List.replicate m its).flatten.toArray := fun m => by
    have z := foldl_rep its m []
    rwa [List.nil_append] at z
  have made : List.foldl (fun x1 x2 => x1 ++ x2) #[] (List.replicate (if its.toArray.isEmpty = true then 0 else k.toNat) its.toArray) = (List.replicate k.toNat its).flatten.toArray := by
    rw [folds]
    cases its with
    | nil => simp
    | cons a tl => simp
  refine wpAny_binaryOp_repeat_ref (T := "list") (U := "int") (by decide) ⟨_, e, rfl⟩ (fun s' => typeIs_int s' k t) noFill_list_mul F.fills_int_mul F.slot_int_rmul repeat_list F.slot_int_index.lookup ?_
  refine call_meets F.slot_int_rmul (typeIs_int s k t) F.entry_int_rmul (F.args_int_rmul_2 _ _) (int___rmul___int_list k t l its.toArray n) ⟨e, rfl, ⟨_, e, rfl⟩, ?_⟩
  refine call_meets F.slot_list_mul ⟨_, e, rfl⟩ F.entry_list_mul (F.args_list_mul_2 _ _) (AutoListH.list___mul___list_int_3 l its.toArray n k t ?_ ?_ ?_) ⟨e, ?_⟩
  · rw [fitsIndex_both (by omega) (by omega)]; exact Bool.false_ne_true
  · have z : (sizeLine : Nat) ≤ (2 ^ 63 - 1) / 8 := by decide
    omega
  · rw [notLongL few]; exact Bool.false_ne_true
  · rw [made]
    refine ⟨.ref _, _, I.lnew (t' := s.toks) (r.rep k.toNat) ?_, rfl, q _ I.fresh⟩
    rw [PyProof.Rows.lm_len_rep_flat, Nat.mul_comm]; exact hn
theorem RpL.rep {K : PySem.W.Frag} {H : Hp} {io : List Addr} {ds : List D} {vs : List V} (r : RpL K H io ds vs []) : ∀ n : Nat, RpL K H io (List.replicate n ds).flatten (List.replicate n vs).flatten []
  | 0 => .nil
  | n + 1 => by
    rw [List.replicate_succ, List.replicate_succ, List.flatten_cons, List.flatten_cons]
    exact r.append (r.rep n)
theorem o_mul : Op2 X.K true false oMul (fun x y H Q => rI CMul (fun i j => .int (i * j)) x y H Q ∨ rRepR x y H Q) := by
  intro io H x y dx dy d os ps Q bl rx ry mx _ e q
  cases dx <;> cases dy <;> first | cases e | skip
  · unfold oMul at e
    dsimp only at e
    split at e
    · rename_i h
      cases e
      refine .inl ⟨_, _, rx.int_inv, ry.int_inv, ?_, give_int rfl q⟩
      rcases h with h | h
      · exact .inl (by omega)
      · exact .inr (by omega)
    · cases e
  · unfold oMul at e
    dsimp only at e
    split at e
    · rename_i h
      cases e
      obtain ⟨a, vs, ex, hx, r1⟩ := rx.lst_still (mx rfl)
      exact .inr ⟨a, _, vs, ex, ry.int_inv, hx, h.1, by rw [← r1.length]; exact h.2, give_lst bl rfl (r1.rep _) q⟩
    · cases e
theorem op_mulA : OpR X (binaryOp .Mult) (fun x y H Q => rI CMul (fun i j => .int (i * j)) x y H Q ∨ rRepR x y H Q) := OpR.or op_mul op_repR
end
end HF
namespace HF
open PySem PySem.Spec L2
open PyProof.Rows hiding St
section
variable {X : Cx}
theorem RpL.atI {K : PySem.W.Frag} {H : Hp} {io : List Addr} {ds : List D} {vs : List V} {z : Int} {d : D} (r : RpL K H io ds vs []) (e : L2.atI ds z = some d) : ∃ v, L2.atI vs z = some v ∧ Rp K H io d v [] := by
  unfold L2.atI at e ⊢
  rw [← r.length]
  cases h : ixN ds.length z with
  | none => rw [h] at e; cases e
  | some j =>
    rw [h] at e
    exact r.getD0 (i := j) e
theorem RpK.look {K : PySem.W.Frag} {H : Hp} {io : List Addr} : ∀ {kds : List (DK × D)} {k : List (Key × V)} {os : List Addr} {q : Key}, RpK K H io kds (k.map fun p => (keyDK p.1, p.2)) os →
    (look (keyDK q) kds = none ∧ valV k q = none) ∨ ∃ d v ps, look (keyDK q) kds = some d ∧ valV k q = some v ∧ Rp K H io d v ps ∧ ∀ a ∈ ps, a ∈ os
  | kds, [], os, q, h => by
    cases h
    exact .inl ⟨rfl, rfl⟩
  | kds, (j, w) :: k, os, q, h => by
    cases h with
    | cons hk h r =>
      rename_i d ds o1 o2
      by_cases e : j = q
      · subst e
        refine .inr ⟨d, w, o1, ?_, valV_pos rfl, h, fun a ha => List.mem_append_left _ ha⟩
        show (if keyDK j = keyDK j then some d else _) = _
        rw [if_pos rfl]
      · have ne : ¬ keyDK j = keyDK q := fun z => e (by
          cases j <;> cases q <;> first | (cases z; rfl) | cases z)
        have l1 : HF.look (keyDK q) ((keyDK j, d) :: ds) = HF.look (keyDK q) ds := by
          show (if keyDK j = keyDK q then some d else _) = _
          rw [if_neg ne]
        rw [l1, valV_neg e]
        rcases RpK.look (q := q) r with z | ⟨d', v', ps, z1, z2, z3, z4⟩
        · exact .inl z
        · exact .inr ⟨d', v', ps, z1, z2, z3, fun a ha => List.mem_append_right _ (z4 a ha)⟩
theorem Rp.dct_inv {K : PySem.W.Frag} {H : Hp} {io : List Addr} {o : Bool} {kds : List (DK × D)} {v : V} {os : List Addr} (h : Rp K H io (.dct o kds) v os) : ∃ a k ps, v = .ref a ∧ Rd H a (.dK k) ∧ RpK K H io kds (k.map fun p => (keyDK p.1, p.2)) ps := by
  cases h with
  | dctS h e r => obtain ⟨k, rfl, rfl⟩ := e; exact ⟨_, k, _, rfl, .inr ⟨_, h⟩, r⟩
  | dctO h e r => obtain ⟨k, rfl, rfl⟩ := e; exact ⟨_, k, _, rfl, .inl h, r⟩
theorem Rp.dct_still {K : PySem.W.Frag} {H : Hp} {io : List Addr} {o : Bool} {kds : List (DK × D)} {v : V} {os : List Addr} (h : Rp K H io (.dct o kds) v os) (s : stillIn (.dct o kds) = true) : ∃ a k, v = .ref a ∧ Rd H a (.dK k) ∧ RpK K H io kds (k.map fun p => (keyDK p.1, p.2)) [] := by
  obtain ⟨a, k, ps, e, hl, r⟩ := h.dct_inv
  have : ps = [] := r.still_nil s
  subst this
  exact ⟨a, k, e, hl, r⟩
theorem Rp.key {K : PySem.W.Frag} {H : Hp} {io : List Addr} {d : D} {v : V} {os : List Addr} {q : DK} (h : Rp K H io d v os) (e : keyOf d = some q) : ∃ k : Key, q = keyDK k ∧ v = kV k := by
  cases h <;> first | cases e | skip
  · exact ⟨.inl _, rfl, rfl⟩
  · exact ⟨.inr _, rfl, rfl⟩
def rIxDct : R2 := fun x y H Q => ∃ a k q v, x = .ref a ∧ Rd H a (.dK k) ∧ y = kV q ∧ valV k q = some v ∧ Q v H
theorem ix_dct : IxR X rIxDct := by
  intro value slice pins s σ H x y v u Q I rx ry h hs
  obtain ⟨a, k, q, w, rfl, hd, rfl, hl, hq⟩ := h
  obtain rfl : v = Value.ref a := rx
  obtain ⟨z, hg, vs, rel, dd⟩ := dk_rd I.hok hd
  obtain ⟨w', hw, rw'⟩ := RelO.some_of (v := w) (o := valueAt vs q) (by rw [← hl]; exact rel.val q)
  exact subscriptTail_builtinR (x := w') dd.typeIs PySem.F.slot_dict_getitem.lookup (wpAny_getItem_of (kV_is ry) dd.mapOf hw ⟨rfl, w, H, I.tok _, rw', hq⟩) hs
def rIxA (K : PySem.W.Frag) : R2 := fun x y H Q => rIx K x y H Q ∨ rIxDct x y H Q
theorem ix_any : IxR X (rIxA X.K) := IxR.or ix_seq ix_dct
theorem strOk_of {x : Str} (h : PyData.strOk x = true) : ∀ c ∈ x.cps.toList, c < 0x110000 := fun c hc => by
  have z : x.cps.all (· < 0x110000) = true := h
  rw [← Array.all_toList] at z
  exact of_decide_eq_true (List.all_eq_true.mp z c hc)
theorem strOk_mk {x : Str} (h : ∀ c ∈ x.cps.toList, c < 0x110000) : PyData.strOk x = true := by
  show x.cps.all (· < 0x110000) = true
  rw [← Array.all_toList]
  exact List.all_eq_true.mpr fun c hc => decide_eq_true (h c hc)
theorem mem_of_atI {α : Type} {xs : List α} {z : Int} {x : α} (h : L2.atI xs z = some x) : x ∈ xs := by
  unfold L2.atI at h
  cases e : ixN xs.length z with
  | none => rw [e] at h; cases h
  | some j => rw [e] at h; exact List.mem_of_getElem? h
theorem o_ix : Op2 X.K true false oIx (rIxA X.K) := by
  intro io H x y dx dy d os ps Q bl rx ry mx my e q
  clear my
  have seqI : ∀ z, dy = .int z → (∀ o ds, dx = .lst o ds → L2.atI ds z = some d → rIxA X.K x y H Q) ∧ (∀ ds, dx = .tup ds → L2.atI ds z = some d → rIxA X.K x y H Q) := by
    intro z ez
    subst ez
    refine ⟨fun o ds ed ea => ?_, fun ds ed ea => ?_⟩
    · subst ed
      obtain ⟨a, vs, ex, hx, r1⟩ := rx.lst_still (mx rfl)
      obtain ⟨v, ev, rv⟩ := r1.atI ea
      exact .inl (.inl ⟨a, vs, z, v, ex, ry.int_inv, .inl hx, ev, give_old rv q⟩)
    · subst ed
      obtain ⟨a, vs, ex, hx, r1⟩ := rx.tup_still (mx rfl)
      obtain ⟨v, ev, rv⟩ := r1.atI ea
      exact .inl (.inr (.inl ⟨a, vs, z, v, ex, ry.int_inv, hx, ev, give_old rv q⟩))
  cases dx with
  | lst o ds =>
    cases dy <;> first | cases e | skip
    exact (seqI _ rfl).1 o ds rfl e
  | tup ds =>
    cases dy <;> first | cases e | skip
    exact (seqI _ rfl).2 ds rfl e
  | scr zs =>
    cases dy <;> first | cases e | skip
    rename_i z
    have e' : (L2.atI zs z).map D.int = some d := e
    cases ha : L2.atI zs z with
    | none => rw [ha] at e'; cases e'
    | some w =>
      rw [ha] at e'
      cases e'
      cases rx with
      | scr hk =>
        refine .inl (.inl ⟨_, _, z, .int w, rfl, ry.int_inv, hk.sq, ?_, give_int rfl q⟩)
        unfold L2.atI at ha ⊢
        rw [List.length_map]
        cases hj : ixN zs.length z with
        | none => rw [hj] at ha; cases ha
        | some j =>
          rw [hj] at ha
          show (zs.map V.int)[j]? = some (V.int w)
          rw [List.getElem?_map, show zs[j]? = some w from ha]; rfl
  | str w =>
    cases dy <;> first | cases e | skip
    rename_i z
    unfold oIx at e
    dsimp only at e
    split at e
    · rename_i hl
      cases ha : L2.atI w.cps.toList z with
      | none => rw [ha] at e; cases e
      | some c =>
        rw [ha] at e
        cases e
        refine .inl (.inr (.inr ⟨w, z, c, rx.str_inv.1, ry.int_inv, hl, ha, give_str rfl ?_ q⟩))
        refine strOk_mk fun c' hc' => ?_
        obtain rfl : c' = c := by simpa using hc'
        exact strOk_of rx.str_inv.2 _ (mem_of_atI ha)
    · cases e
  | dct o kds =>
    have e' : (keyOf dy).bind (fun k => look k kds) = some d := by
      cases dy <;> exact e
    cases hk : keyOf dy with
    | none => rw [hk] at e'; cases e'
    | some k =>
      rw [hk] at e'
      have e2 : look k kds = some d := e'
      obtain ⟨kk, rfl, rfl⟩ := ry.key hk
      obtain ⟨a, k', ex, hx, r1⟩ := rx.dct_still (mx rfl)
      rcases r1.look (q := kk) with ⟨z, _⟩ | ⟨d', v, qs, z1, z2, z3, z4⟩
      · rw [e2] at z; cases z
      · rw [e2] at z1; cases z1
        have : qs = [] := by
          cases qs with
          | nil => rfl
          | cons b t => exact absurd (z4 b List.mem_cons_self) (fun z => nomatch z)
        subst this
        exact .inr ⟨a, k', kk, v, ex, hx, rfl, z2, give_old z3 q⟩
  | _ => cases dy <;> cases e
end
end HF
namespace HF
open PySem PySem.Spec L2
open PyProof.Rows hiding St
section
variable {X : Cx}
theorem RpL.snoc {K : PySem.W.Frag} {H : Hp} {io : List Addr} {ds : List D} {vs : List V} {d : D} {v : V} (r : RpL K H io ds vs []) (h : Rp K H io d v []) : RpL K H io (ds ++ [d]) (vs ++ [v]) [] := r.append (.cons (os := []) (ps := []) h .nil)
theorem RpL.rev {K : PySem.W.Frag} {H : Hp} {io : List Addr} : ∀ {ds : List D} {vs : List V}, RpL K H io ds vs [] → RpL K H io ds.reverse vs.reverse []
  | [], [], _ => .nil
  | [], _ :: _, h => by have hl := h.length; simp at hl
  | _ :: _, [], h => by have hl := h.length; simp at hl
  | d :: ds, v :: vs, h => by
    generalize hq : ([] : List Addr) = q at h
    cases h with
    | cons h r =>
      obtain ⟨e1, e2⟩ := List.append_eq_nil_iff.mp hq.symm
      subst e1 e2
      rw [List.reverse_cons, List.reverse_cons]
      exact r.rev.snoc h
end
end HF
namespace HF
open PySem PySem.Spec L2
open PyProof.Rows hiding St
section
variable {K : PySem.W.Frag} {H : Hp} {io : List Addr} {a : Addr} {o : HO}
theorem upd_frz {b : Addr} {ob : Obj} {u : HO} (m : Mut (H a)) (h : H b = some (.frz ob u)) : upd H a o b = some (.frz ob u) := by
  rw [upd_ne]; exact h
  intro e; subst e; rw [h] at m; exact m
theorem upd_ls {b : Addr} {vs : List V} (m : Mut (H a)) (h : LS H b vs) : LS (upd H a o) b vs := let ⟨ob, h⟩ := h; ⟨ob, upd_frz m h⟩
theorem upd_lk {b : Addr} {vs : List V} (m : Mut (H a)) (h : LK K H b vs) : LK K (upd H a o) b vs := by
  rcases h with ⟨ob, h⟩ | h
  · exact .inl ⟨ob, upd_frz m h⟩
  · exact .inr h
theorem upd_exAt {c : Str} {b : Addr} {xs : List (Str × V)} (m : Mut (H a)) (h : ExAt K H c b xs) : ExAt K (upd H a o) c b xs := by
  obtain ⟨C, ob, u, h1, h2, h3, h4, h5⟩ := h
  refine ⟨C, ob, u, h1, upd_frz m h2, h3, h4, ?_⟩
  cases hd : ob.dict with
  | none => rw [hd] at h5; exact h5
  | some d =>
    rw [hd] at h5
    have h6 : H d = some (.xd xs) := h5
    show upd H a o d = _
    rw [upd_ne (fun e => by subst e; rw [h6] at m; exact m)]
    exact h6
theorem upd_oth {b : Addr} {u : HO} (h : H b = some u) (n : b ≠ a) : upd H a o b = some u := by rw [upd_ne n]; exact h
mutual
theorem Rp.upd (m : Mut (H a)) : ∀ {d : D} {v : V} {os : List Addr}, Rp K H io d v os → a ∉ os → Rp K (upd H a o) io d v os
  | _, _, _, .non, _ => .non
  | _, _, _, .bl b, _ => .bl b
  | _, _, _, .int z, _ => .int z
  | _, _, _, .str h, _ => .str h
  | _, _, _, .lstS h r, _ => .lstS (upd_ls m h) (RpL.upd m r fun z => nomatch z)
  | _, _, _, .lstO h n r, hs => .lstO (upd_oth h fun e => hs (e ▸ List.mem_cons_self)) n (RpL.upd m r fun z => hs (List.mem_cons_of_mem _ z))
  | _, _, _, .tup h r, hs => .tup (h.of fun _ e => upd_frz m e) (RpL.upd m r hs)
  | _, _, _, .dctS h e r, _ => .dctS (upd_frz m h) e (RpK.upd m r fun z => nomatch z)
  | _, _, _, .dttS h e r, _ => .dttS (upd_frz m h) e (RpK.upd m r fun z => nomatch z)
  | _, _, _, .dtvS h e r, _ => .dtvS (upd_frz m h) (e.of fun _ _ _ q => upd_frz m q) (RpK.upd m r fun z => nomatch z)
  | _, _, _, .dctO h e r, hs => .dctO (upd_oth h fun q => hs (q ▸ List.mem_cons_self)) e (RpK.upd m r fun z => hs (List.mem_cons_of_mem _ z))
  | _, _, _, .dttO h e r, hs => .dttO (upd_oth h fun q => hs (q ▸ List.mem_cons_self)) e (RpK.upd m r fun z => hs (List.mem_cons_of_mem _ z))
  | _, _, _, .dtvO h e r, hs => .dtvO (upd_oth h fun q => hs (q ▸ List.mem_cons_self)) (e.of fun _ _ _ q => upd_frz m q) (RpK.upd m r fun z => hs (List.mem_cons_of_mem _ z))
  | _, _, _, .box h, _ => .box h
  | _, _, _, .scr h, _ => .scr (upd_lk m h)
  | _, _, _, .exc h r, _ => .exc (upd_exAt m h) (RpK.upd m r fun z => nomatch z)
theorem RpL.upd (m : Mut (H a)) : ∀ {ds : List D} {vs : List V} {os : List Addr}, RpL K H io ds vs os → a ∉ os → RpL K (upd H a o) io ds vs os
  | _, _, _, .nil, _ => .nil
  | _, _, _, .cons h r, hs => .cons (h.upd m fun z => hs (List.mem_append_left _ z)) (RpL.upd m r fun z => hs (List.mem_append_right _ z))
theorem RpK.upd (m : Mut (H a)) : ∀ {ds : List (DK × D)} {vs : List (DK × V)} {os : List Addr}, RpK K H io ds vs os → a ∉ os → RpK K (upd H a o) io ds vs os
  | _, _, _, .nil, _ => .nil
  | _, _, _, .cons hk h r, hs => .cons hk (h.upd m fun z => hs (List.mem_append_left _ z)) (RpK.upd m r fun z => hs (List.mem_append_right _ z))
end
theorem RpE.upd (m : Mut (H a)) : ∀ {r : Env} {σ : St} {oss : List (List Addr)}, RpE K H io r σ oss → a ∉ oss.flatten → RpE K (upd H a o) io r σ oss
  | _, _, _, .nil, _ => .nil
  | _, _, _, .no r, h => .no (RpE.upd m r fun z => h (by simpa using z))
  | _, _, _, .sh x r, h => .sh (x.upd m fun z => nomatch z) (RpE.upd m r fun z => h (by simpa using z))
  | _, _, _, .ow x r, h => .ow (x.upd m fun z => h (by rw [List.flatten_cons]; exact List.mem_append_left _ z)) (RpE.upd m r fun z => h (by rw [List.flatten_cons]; exact List.mem_append_right _ z))
theorem SR.upd {b : Bx} {r : Env} {oss : List (List Addr)} {σ : St} (S : SR K io b r oss σ H) (m : Mut (H a)) (h1 : a ∉ io) (h2 : a ∉ oss.flatten) : SR K io b r oss σ (upd H a o) :=
  ⟨S.len, fun n c zs e1 e2 => upd_oth (S.bx n c zs e1 e2) fun q => h1 (q ▸ List.mem_of_getElem? e1), S.nd, S.sl.upd m h2, S.od⟩
theorem SR.move {io' : List Addr} {b b' : Bx} {r r2 : Env} {oss oss2 : List (List Addr)} {σ σ2 : St} {H' : Hp} (S : SR K io b r oss σ H) (k : Kp io H io' H') (S2 : SR K io' b' r2 oss2 σ2 H') : SR K io' b' r oss σ H' :=
  ⟨S2.len, S2.bx, S2.nd, S.sl.keep k S.bl, S.od⟩
end
def tT (K : PySem.W.Frag) (f : Ev) : TT := fun σ H Q => ∃ io b r oss, SR K io b r oss σ H ∧ ∃ c b', f r b = some (.bl c, b') ∧ ∀ (H' : Hp) (io' : List Addr), Kp io H io' H' → SR K io' b' r oss σ H' → Q c H'
section
variable {X : Cx}
theorem tv_tt {f : Ev} {σ : St} {H : Hp} {Q : Bool → Hp → Prop} (h : tT X.K f σ H Q) : tV X.K f σ H (fun x H1 => ∃ c, x = .bl c ∧ Q c H1) := by
  obtain ⟨io, b, r, oss, S, c, b', e, q⟩ := h
  exact ⟨io, b, r, oss, S, .bl c, b', e, fun v H' io' os k S' x _ _ => ⟨c, x.bl_inv, q H' io' k S'⟩⟩
theorem dt_val {e : Expr} {f : Ev} (h : PE X e (tV X.K f)) (he : ∀ whole, isTrue e X.env whole = (do let v ← whole; standAt e.pos; holding [v] (truthy v))) : PT X e (tT X.K f) :=
  PT_wk (pt_val h he) fun σ H Q q => tv_tt q
theorem dt_two {a b : Expr} {m1 m2 : Bool} {f g : Ev} {op : D → D → Option D} {r : R2} {e : Expr} (ho : Op2 X.K m1 m2 op r) (ha : PE X a (tM X.K m1 f)) (hb : PE X b (tM X.K m2 g)) (he : ∀ ta tb, PE X a ta → PE X b tb → PT X e (tTest (tOp r ta tb))) : PT X e (tT X.K (e2 op f g)) :=
  PT_wk (he _ _ ha hb) fun σ H Q q => by
    have q' := tv_tt q
    obtain ⟨io, b, r', oss, S, d, b', e, q⟩ := q'
    obtain ⟨dx, b1, e1, e'⟩ := bnd_some e
    obtain ⟨dy, b2, e2, e3⟩ := bnd_some e'
    obtain ⟨e4, rfl⟩ := lift_some e3
    refine ⟨io, b, r', oss, S, dx, b1, e1, fun x H1 io1 os k1 S1 rx m1 => ⟨io1, b1, r', oss, S1, dy, b', e2, fun y H2 io2 ps k2 S2 ry m2 => ?_⟩⟩
    refine ho io2 H2 x y dx dy d os ps _ S2.bl (rx.keep k2 S1.bl) ry m1 m2 e4 fun v H3 qs k3 rv n fr => ?_
    have k12 := k1.trans k2 S.bl
    exact q v H3 io2 qs (k12.trans (Kp.of k3) S.bl) (S2.later k3) rv n fun a ha => fresh_back k12 S2 (fr a ha)
theorem dt_cmp {a b : Expr} {o : CmpOp} {pos : Pos} {m1 m2 : Bool} {f g : Ev} {op : D → D → Option D} {r : R2} (ho : Op2 X.K m1 m2 op r) (hr : OpR X (compareOp o) r) (ha : PE X a (tM X.K m1 f)) (hb : PE X b (tM X.K m2 g)) (hm : behindInMarks o b = false) : PT X (.Compare a [o] [b] pos) (tT X.K (e2 op f g)) :=
  dt_two ho ha hb fun _ _ h1 h2 => pt_cmpR hr h1 h2 hm
theorem dt_not {a : Expr} {pos : Pos} {f : Ev} (ha : PT X a (tT X.K f)) : PT X (.UnaryOp .Not a pos) (tT X.K (e1 oNot f)) :=
  PT_wk (pt_not ha) fun σ H Q ⟨io, b, r, oss, S, c, b', e, q⟩ => by
    obtain ⟨d, b1, e1, e2⟩ := bnd_some e
    obtain ⟨e3, rfl⟩ := lift_some e2
    cases d <;> first | cases e3 | skip
    rename_i k
    exact ⟨io, b, r, oss, S, k, b', e1, fun H' io' k' S' => q H' io' k' S'⟩
theorem dw_or1 {a : Expr} {pos : Pos} {f : Ev} (ha : PT X a (tT X.K f)) : PW X (.BoolOp .Or [a] pos) (tT X.K f) := pw_or1 ha
theorem dw_or {a b : Expr} {rest : List Expr} {pos : Pos} {f g : Ev} (ha : PT X a (tT X.K f)) (hb : PW X (.BoolOp .Or (b :: rest) pos) (tT X.K g)) : PW X (.BoolOp .Or (a :: b :: rest) pos) (tT X.K (eOr f g)) :=
  PW_wk (pw_or ha hb) fun σ H Q ⟨io, b, r, oss, S, c, b', e, q⟩ => by
    obtain ⟨d, b1, e1, e2⟩ := bnd_some e
    cases d <;> first | cases e2 | skip
    rename_i k
    refine ⟨io, b, r, oss, S, k, b1, e1, fun H' io' k' S' => ?_⟩
    cases k with
    | true =>
      rw [if_pos rfl]
      cases e2
      exact q H' io' k' S'
    | false =>
      rw [if_neg Bool.false_ne_true]
      exact ⟨io', b1, r, oss, S', c, b', e2, fun H2 io2 k2 S2 => q H2 io2 (k'.trans k2 S.bl) S2⟩
theorem de_and {a b : Expr} {rest : List Expr} {pos : Pos} {f g : Ev} (ha : PE X a (tV X.K f)) (hb : PE X (.BoolOp .And (b :: rest) pos) (tV X.K g)) : PE X (.BoolOp .And (a :: b :: rest) pos) (tV X.K (eAnd f g)) :=
  PE_wk (pe_and ha hb) fun σ H Q ⟨io, b, r, oss, S, c, b', e, q⟩ => by
    obtain ⟨d, b1, e1, e2⟩ := bnd_some e
    cases d <;> first | cases e2 | skip
    rename_i k
    refine ⟨io, b, r, oss, S, .bl k, b1, e1, fun v H' io' os k' S' x _ _ => ⟨k, x.bl_inv, ?_⟩⟩
    cases k with
    | true =>
      rw [if_pos rfl]
      exact ⟨io', b1, r, oss, S', c, b', e2, fun v H2 io2 os k2 S2 x n fr => q v H2 io2 os (k'.trans k2 S.bl) S2 x n fun a ha => fresh_back k' S' (fr a ha)⟩
    | false =>
      rw [if_neg Bool.false_ne_true]
      obtain ⟨rfl, rfl⟩ := ret_some e2
      exact q _ H' io' [] k' S' (.bl false) List.nodup_nil nil_all
theorem de_one {o : BoolOp} {a : Expr} {pos : Pos} {f : Ev} (h : PE X a (tV X.K f)) : PE X (.BoolOp o [a] pos) (tV X.K f) := pe_one h
theorem de_not {a : Expr} {pos : Pos} {f : Ev} (ha : PE X a (tV X.K f)) : PE X (.UnaryOp .Not a pos) (tV X.K (e1 oNot f)) :=
  PE_wk (pe_not ha) fun σ H Q ⟨io, b, r, oss, S, c, b', e, q⟩ => by
    obtain ⟨d, b1, e1, e2⟩ := bnd_some e
    obtain ⟨e3, rfl⟩ := lift_some e2
    cases d <;> first | cases e3 | skip
    rename_i k
    exact ⟨io, b, r, oss, S, .bl k, b', e1, fun v H' io' os k' S' x _ _ => ⟨k, x.bl_inv, q _ H' io' [] k' S' (.bl _) List.nodup_nil nil_all⟩⟩
theorem de_neg {a : Expr} {pos : Pos} {f : Ev} (ha : PE X a (tM X.K false f)) : PE X (.UnaryOp .USub a pos) (tV X.K (e1 oNeg f)) :=
  PE_wk (pe_un un_neg ha) fun σ H Q ⟨io, b, r, oss, S, c, b', e, q⟩ => by
    obtain ⟨d, b1, e1, e2⟩ := bnd_some e
    obtain ⟨e3, rfl⟩ := lift_some e2
    cases d <;> first | cases e3 | skip
    rename_i k
    exact ⟨io, b, r, oss, S, .int k, b', e1, fun v H' io' os k' S' x _ => ⟨k, x.int_inv, q _ H' io' [] k' S' (.int _) List.nodup_nil nil_all⟩⟩
def Tg.slots : Tg → List Nat
  | .one i => [i]
  | .two i j => [i, j]
  | .three i j k => [i, j, k]
def tG (K : PySem.W.Frag) (t : Tg) : TG := fun v σ H Q => ∃ io b r oss x r', SR K io b r oss σ H ∧ Rp K H io x v [] ∧ bindT t x r = some r' ∧
  ∀ (σ' : St) (oss' : List (List Addr)), SR K io b r' oss' σ' H → (∀ a ∈ oss'.flatten, a ∈ oss.flatten) → (∀ vs : List Nat, (∀ j ∈ t.slots, j ∈ vs) → wipe σ' vs = wipe σ vs) → Q σ' H
theorem wipe_set {i : Nat} {x : Option V} : ∀ {vs : List Nat} {σ : St}, i ∈ vs → wipe (σ.set i x) vs = wipe σ vs := by
  have get : ∀ (vs : List Nat) (σ : St) (j : Nat), (wipe σ vs)[j]? = if j ∈ vs ∧ j < σ.length then some none else σ[j]? := by
    intro vs
    induction vs with
    | nil => intro σ j; simp [wipe]
    | cons v vs ih =>
      intro σ j
      unfold wipe
      by_cases hj : v = j
      · subst hj
        by_cases hl : v < σ.length
        · rw [List.getElem?_set_self (by rw [wipe_length]; exact hl), if_pos ⟨List.mem_cons_self, hl⟩]
        · rw [List.getElem?_eq_none (by rw [List.length_set, wipe_length]; omega), if_neg (fun z => hl z.2), List.getElem?_eq_none (by omega)]
      · rw [List.getElem?_set_ne hj, ih]
        have : (j ∈ vs ∧ j < σ.length) ↔ (j ∈ v :: vs ∧ j < σ.length) := by
          constructor
          · exact fun z => ⟨List.mem_cons_of_mem _ z.1, z.2⟩
          · rintro ⟨z1, z2⟩
            exact ⟨(List.mem_cons.mp z1).resolve_left (fun e => hj e.symm), z2⟩
        simp only [this]
  intro vs σ hi
  refine List.ext_getElem? fun j => ?_
  rw [get, get, List.length_set]
  by_cases h : j ∈ vs ∧ j < σ.length
  · rw [if_pos h, if_pos h]
  · rw [if_neg h, if_neg h]
    by_cases hj : i = j
    · subst hj
      have : ¬ i < σ.length := fun z => h ⟨hi, z⟩
      rw [List.getElem?_eq_none (by rw [List.length_set]; omega), List.getElem?_eq_none (by omega)]
    · rw [List.getElem?_set_ne hj]
theorem SR.setS' {K : PySem.W.Frag} {io : List Addr} {b : Bx} {r : Env} {oss : List (List Addr)} {σ : St} {H : Hp} {i : Nat} {d : D} {v : V} (S : SR K io b r oss σ H) (x : Rp K H io d v []) : ∃ oss', SR K io b (r.set i (.sh d)) oss' (σ.set i (some v)) H ∧ ∀ a ∈ oss'.flatten, a ∈ oss.flatten := by
  by_cases hi : i < r.length
  · exact ⟨_, S.setS x hi, fun a ha => (mem_set_flat ha).elim (fun z => nomatch z) id⟩
  · refine ⟨oss, ?_, fun _ h => h⟩
    rw [List.set_eq_of_length_le (by omega), List.set_eq_of_length_le (by rw [← S.sl.lens.1]; omega)]
    exact S
theorem dg_one {i : Nat} {x : Str} {pos : Pos} (hN : X.N.Nodup) (hi : X.N[i]? = some x) (hx : Loc X.env.scope x) (hf : X.fn x = true ∨ X.env.scope.names.lookup x = some .local) : PG X (.Name x pos) (tG X.K (.one i)) :=
  ⟨fun pins s σ H v u Q I rv ⟨io, b, r, oss, d, r', S, rx, e, q⟩ => (pg_name hN hi hx hf).run pins s σ H v u Q I rv (by
    cases e
    obtain ⟨oss', S', m'⟩ := S.setS' (i := i) rx
    exact q _ oss' S' m' fun vs h => wipe_set (h i (by simp [Tg.slots])))⟩
theorem Rp.two0 {H : Hp} {io : List Addr} {d1 d2 : D} {vs : List V} (rl : RpL X.K H io [d1, d2] vs []) : ∃ v1 v2, vs = [v1, v2] ∧ Rp X.K H io d1 v1 [] ∧ Rp X.K H io d2 v2 [] := by
  generalize hq : ([] : List Addr) = qq at rl
  cases rl with
  | cons h1 rl =>
    cases rl with
    | cons h2 rl =>
      cases rl
      obtain ⟨z1, z2⟩ := List.append_eq_nil_iff.mp hq.symm
      rw [List.append_nil] at z2
      subst z1 z2
      exact ⟨_, _, rfl, h1, h2⟩
theorem Rp.three0 {H : Hp} {io : List Addr} {d1 d2 d3 : D} {vs : List V} (rl : RpL X.K H io [d1, d2, d3] vs []) : ∃ v1 v2 v3, vs = [v1, v2, v3] ∧ Rp X.K H io d1 v1 [] ∧ Rp X.K H io d2 v2 [] ∧ Rp X.K H io d3 v3 [] := by
  generalize hq : ([] : List Addr) = qq at rl
  cases rl with
  | cons h1 rl =>
    obtain ⟨z1, z2⟩ := List.append_eq_nil_iff.mp hq.symm
    subst z1 z2
    obtain ⟨v2, v3, rfl, h2, h3⟩ := Rp.two0 rl
    exact ⟨_, _, _, rfl, h1, h2, h3⟩
theorem dg_two {i j : Nat} {x y : Str} {p1 p2 pos : Pos} {kk : Nat} (hc : X.calm = true) (hN : X.N.Nodup) (hi : X.N[i]? = some x) (hj : X.N[j]? = some y) (hx : Loc X.env.scope x) (hy : Loc X.env.scope y)
    (hf : X.fn x = true ∨ X.env.scope.names.lookup x = some .local) (hf2 : X.fn y = true ∨ X.env.scope.names.lookup y = some .local) : PG X (.Tuple [.Name x p1, .Name y p2] kk pos) (tG X.K (.two i j)) :=
  ⟨fun pins s σ H v u Q I rv ⟨io, b, r, oss, d, r', S, rx, e, q⟩ => by
    have G := pgs_cons (pg_name (pos := p1) hN hi hx hf) (pgs_cons (pg_name (pos := p2) hN hj hy hf2) pgs_nil)
    have fin : ∀ d1 d2 v1 v2, some r' = some ((r.set i (.sh d1)).set j (.sh d2)) → Rp X.K H io d1 v1 [] → Rp X.K H io d2 v2 [] → Q ((σ.set i (some v1)).set j (some v2)) H := fun d1 d2 v1 v2 e h1 h2 => by
      cases e
      obtain ⟨oss1, S1, m1⟩ := S.setS' (i := i) h1
      obtain ⟨oss2, S2, m2⟩ := S1.setS' (i := j) h2
      refine q _ oss2 S2 (fun a ha => m1 a (m2 a ha)) fun ws h => ?_
      rw [wipe_set (h j (by simp [Tg.slots])), wipe_set (h i (by simp [Tg.slots]))]
    match d, e, rx with
    | .tup [d1, d2], e, rx =>
      obtain ⟨a, vs, ev, hs, rl⟩ := rx.tup_inv
      obtain ⟨v1, v2, rfl, h1, h2⟩ := Rp.two0 rl
      exact (pg_tup hc G).run pins s σ H v u Q I rv ⟨a, _, ev, hs, rfl, _, _, rfl, _, _, rfl, rfl, fin d1 d2 v1 v2 e.symm h1 h2⟩
    | .lst false [d1, d2], e, rx =>
      cases rx with
      | lstS h rl =>
        obtain ⟨v1, v2, rfl, h1, h2⟩ := Rp.two0 rl
        exact (pg_unl hc G).run pins s σ H _ u Q I rv ⟨_, _, rfl, h.sq, rfl, _, _, rfl, _, _, rfl, rfl, fin d1 d2 v1 v2 e.symm h1 h2⟩⟩
theorem dg_three {i j k : Nat} {x y z : Str} {p1 p2 p3 pos : Pos} {kk : Nat} (hc : X.calm = true) (hN : X.N.Nodup) (hi : X.N[i]? = some x) (hj : X.N[j]? = some y) (hk : X.N[k]? = some z) (hx : Loc X.env.scope x) (hy : Loc X.env.scope y) (hz : Loc X.env.scope z)
    (hf : X.fn x = true ∨ X.env.scope.names.lookup x = some .local) (hf2 : X.fn y = true ∨ X.env.scope.names.lookup y = some .local) (hf3 : X.fn z = true ∨ X.env.scope.names.lookup z = some .local) : PG X (.Tuple [.Name x p1, .Name y p2, .Name z p3] kk pos) (tG X.K (.three i j k)) :=
  ⟨fun pins s σ H v u Q I rv ⟨io, b, r, oss, d, r', S, rx, e, q⟩ => by
    have G := pgs_cons (pg_name (pos := p1) hN hi hx hf) (pgs_cons (pg_name (pos := p2) hN hj hy hf2) (pgs_cons (pg_name (pos := p3) hN hk hz hf3) pgs_nil))
    have fin : ∀ d1 d2 d3 v1 v2 v3, some r' = some (((r.set i (.sh d1)).set j (.sh d2)).set k (.sh d3)) → Rp X.K H io d1 v1 [] → Rp X.K H io d2 v2 [] → Rp X.K H io d3 v3 [] → Q (((σ.set i (some v1)).set j (some v2)).set k (some v3)) H := fun d1 d2 d3 v1 v2 v3 e h1 h2 h3 => by
      cases e
      obtain ⟨oss1, S1, m1⟩ := S.setS' (i := i) h1
      obtain ⟨oss2, S2, m2⟩ := S1.setS' (i := j) h2
      obtain ⟨oss3, S3, m3⟩ := S2.setS' (i := k) h3
      refine q _ oss3 S3 (fun a ha => m1 a (m2 a (m3 a ha))) fun ws h => ?_
      rw [wipe_set (h k (by simp [Tg.slots])), wipe_set (h j (by simp [Tg.slots])), wipe_set (h i (by simp [Tg.slots]))]
    match d, e, rx with
    | .tup [d1, d2, d3], e, rx =>
      obtain ⟨a, vs, ev, hs, rl⟩ := rx.tup_inv
      obtain ⟨v1, v2, v3, rfl, h1, h2, h3⟩ := Rp.three0 rl
      exact (pg_tup hc G).run pins s σ H v u Q I rv ⟨a, _, ev, hs, rfl, _, _, rfl, _, _, rfl, _, _, rfl, rfl, fin d1 d2 d3 v1 v2 v3 e.symm h1 h2 h3⟩
    | .lst false [d1, d2, d3], e, rx =>
      cases rx with
      | lstS h rl =>
        obtain ⟨v1, v2, v3, rfl, h1, h2, h3⟩ := Rp.three0 rl
        exact (pg_unl hc G).run pins s σ H _ u Q I rv ⟨_, _, rfl, h.sq, rfl, _, _, rfl, _, _, rfl, _, _, rfl, rfl, fin d1 d2 d3 v1 v2 v3 e.symm h1 h2 h3⟩⟩
end
end HF
namespace HF
open PySem PySem.Spec L2
open PyProof.Rows hiding St
structure Kf (io : List Addr) (H : Hp) (io' : List Addr) (H' : Hp) : Prop where
  st : ∀ a o, H a = some o → ¬ Mut (some o) → H' a = some o
  pre : io <+: io'
theorem Kf.refl (io : List Addr) (H : Hp) : Kf io H io H := ⟨fun _ _ h _ => h, List.prefix_refl _⟩
theorem Kf.trans {io io1 io2 : List Addr} {H H1 H2 : Hp} (a : Kf io H io1 H1) (b : Kf io1 H1 io2 H2) : Kf io H io2 H2 := ⟨fun c o h n => b.st c o (a.st c o h n) n, a.pre.trans b.pre⟩
theorem Kp.kf {io io' : List Addr} {H H' : Hp} (k : Kp io H io' H') (bl : BL io H) : Kf io H io' H' := ⟨fun a o h n => k.keep a o h fun hm => by
  obtain ⟨vs, e⟩ := bl a hm
  rw [h] at e; cases e; exact n trivial, k.pre⟩
theorem Kf.upd {io : List Addr} {H : Hp} {a : Addr} {o : HO} (m : Mut (H a)) : Kf io H io (L2.upd H a o) := ⟨fun b u h n => by
  rw [upd_ne]; exact h
  intro e; subst e; rw [h] at m; exact n m, List.prefix_refl _⟩
theorem Fz.kf {io : List Addr} {os : List Addr} {H H' : Hp} (f : Fz os H H') : Kf io H io H' := ⟨fun a o h n => f.other h n, List.prefix_refl _⟩
theorem Kf.sqT {K : PySem.W.Frag} {io io' : List Addr} {H H' : Hp} {a : Addr} {vs : List V} (k : Kf io H io' H') (h : SqT K H a vs) : SqT K H' a vs := by
  rcases h with (h | ⟨o, h⟩) | h
  · exact .inl (.inl (k.st a _ h fun z => z))
  · exact .inl (.inr ⟨o, k.st a _ h fun z => z⟩)
  · exact .inr h
theorem Kf.ls {io io' : List Addr} {H H' : Hp} {a : Addr} {vs : List V} (k : Kf io H io' H') (h : LS H a vs) : LS H' a vs := let ⟨o, h⟩ := h; ⟨o, k.st a _ h fun z => z⟩
theorem Kf.lk {K : PySem.W.Frag} {io io' : List Addr} {H H' : Hp} {a : Addr} {vs : List V} (k : Kf io H io' H') (h : LK K H a vs) : LK K H' a vs := by
  rcases h with ⟨o, h⟩ | h
  · exact .inl ⟨o, k.st a _ h fun z => z⟩
  · exact .inr h
theorem Kf.exAt {K : PySem.W.Frag} {io io' : List Addr} {H H' : Hp} {c : Str} {a : Addr} {xs : List (Str × V)} (k : Kf io H io' H') (h : ExAt K H c a xs) : ExAt K H' c a xs := by
  obtain ⟨C, ob, u, h1, h2, h3, h4, h5⟩ := h
  refine ⟨C, ob, u, h1, k.st _ _ h2 fun z => z, h3, h4, ?_⟩
  cases hd : ob.dict with
  | none => rw [hd] at h5; exact h5
  | some d =>
    rw [hd] at h5
    exact k.st d _ h5 fun z => z
section
variable {K : PySem.W.Frag} {io io' : List Addr} {H H' : Hp}
mutual
theorem Rp.keepS (k : Kf io H io' H') : ∀ {d : D} {v : V} {os : List Addr}, Rp K H io d v os → os = [] → Rp K H' io' d v []
  | _, _, _, .non, _ => .non
  | _, _, _, .bl b, _ => .bl b
  | _, _, _, .int z, _ => .int z
  | _, _, _, .str h, _ => .str h
  | _, _, _, .lstS h r, _ => .lstS (k.ls h) (RpL.keepS k r rfl)
  | _, _, _, .lstO _ _ _, h => nomatch h
  | _, _, _, .tup h r, e => .tup (h.of fun _ e => k.st _ _ e fun z => z) (RpL.keepS k r e)
  | _, _, _, .dctS h e r, _ => .dctS (k.st _ _ h fun z => z) e (RpK.keepS k r rfl)
  | _, _, _, .dttS h e r, _ => .dttS (k.st _ _ h fun z => z) e (RpK.keepS k r rfl)
  | _, _, _, .dtvS h e r, _ => .dtvS (k.st _ _ h fun z => z) (e.of fun _ _ _ q => k.st _ _ q fun z => z) (RpK.keepS k r rfl)
  | _, _, _, .dctO _ _ _, h => nomatch h
  | _, _, _, .dttO _ _ _, h => nomatch h
  | _, _, _, .dtvO _ _ _, h => nomatch h
  | _, _, _, .box h, _ => .box (by
      obtain ⟨t, e⟩ := k.pre
      rw [← e]
      rw [List.getElem?_append_left (List.getElem?_eq_some_iff.mp h).1]
      exact h)
  | _, _, _, .scr h, _ => .scr (k.lk h)
  | _, _, _, .exc h r, _ => .exc (k.exAt h) (RpK.keepS k r rfl)
theorem RpL.keepS (k : Kf io H io' H') : ∀ {ds : List D} {vs : List V} {os : List Addr}, RpL K H io ds vs os → os = [] → RpL K H' io' ds vs []
  | _, _, _, .nil, _ => .nil
  | _, _, _, .cons h r, e => by
    obtain ⟨e1, e2⟩ := List.append_eq_nil_iff.mp e
    exact .cons (os := []) (ps := []) (h.keepS k e1) (RpL.keepS k r e2)
theorem RpK.keepS (k : Kf io H io' H') : ∀ {ds : List (DK × D)} {vs : List (DK × V)} {os : List Addr}, RpK K H io ds vs os → os = [] → RpK K H' io' ds vs []
  | _, _, _, .nil, _ => .nil
  | _, _, _, .cons hk h r, e => by
    obtain ⟨e1, e2⟩ := List.append_eq_nil_iff.mp e
    exact .cons (os := []) (ps := []) hk (h.keepS k e1) (RpK.keepS k r e2)
end
end
def Feed (K : PySem.W.Frag) (J : L2.It) (io : List Addr) (H : Hp) (ds : List D) : Prop :=
  Walk J ds.length (fun H' => ∃ io', Kf io H io' H') fun i H' x H'' => (∀ a o, H' a = some o → H'' a = some o) ∧ ∃ d, ds[i]? = some d ∧ ∀ io', Kf io H io' H' → BL io' H' → Rp K H'' io' d x []
def tI (K : PySem.W.Frag) (it : Ws) : TI := fun σ H R => ∃ io b r oss, SR K io b r oss σ H ∧ ∃ ds b', it r b = some (ds, b') ∧ ∀ J H' io', Kp io H io' H' → SR K io' b' r oss σ H' → Feed K J io' H' ds → R J H'
section
variable {X : Cx} {K : PySem.W.Frag} {io : List Addr} {H : Hp}
theorem Feed.list {a : Addr} {vs : List V} {ds : List D} (h : LS H a vs) (r : RpL K H io ds vs []) : Feed K (Itl K a) io H ds := by
  have w : Walk (Itl K a) vs.length _ _ := walk_list (K := K) (a := a) (xs := vs)
  unfold Feed
  rw [r.length]
  refine w.mono (fun H' ⟨io', k⟩ => (k.ls h).sq) fun i H' x H'' hi ⟨_, _⟩ y => ?_
  obtain ⟨rfl, e⟩ := y
  obtain ⟨d, e', rx⟩ := r.get0 e
  exact ⟨fun _ _ z => z, d, e', fun io' k _ => rx.keepS k rfl⟩
theorem Feed.tup {a : Addr} {vs : List V} {ds : List D} (h : SqT K H a vs) (r : RpL K H io ds vs []) : Feed K (Itt K a) io H ds := by
  have w : Walk (Itt K a) vs.length _ _ := walk_tup (K := K) (a := a) (xs := vs)
  unfold Feed
  rw [r.length]
  refine w.mono (fun H' ⟨io', k⟩ => k.sqT h) fun i H' x H'' hi ⟨_, _⟩ y => ?_
  obtain ⟨rfl, e⟩ := y
  obtain ⟨d, e', rx⟩ := r.get0 e
  exact ⟨fun _ _ z => z, d, e', fun io' k _ => rx.keepS k rfl⟩
theorem Feed.range {lo : Int} {n : Nat} {ds : List D} (hl : ds.length = n) (hd : ∀ i, i < n → ds[i]? = some (.int (lo + i))) : Feed K (Itr lo n) io H ds := by
  have w : Walk (Itr lo n) n _ _ := walk_range (lo := lo) (n := n)
  unfold Feed
  rw [hl]
  refine w.mono (fun _ _ => trivial) fun i H' x H'' hi ⟨_, _⟩ y => ?_
  obtain ⟨rfl, rfl⟩ := y
  exact ⟨fun _ _ z => z, _, hd i hi, fun io' k _ => .int _⟩
end
end HF
namespace HF
open PySem PySem.Spec L2
open PyProof.Rows hiding St
inductive SK where
  | l | t
def itO (k : SK) (a : Addr) : Obj := match k with
  | .l => { cls := .type "list_iterator", data := .fields #[.ref a, .int 0 0] }
  | .t => { cls := .type "tuple_iterator", data := .fields #[.ref a, .int 0 0] }
def IsSq (k : SK) (h : Heap) (a : Addr) (items : Array Value) : Prop := match k with
  | .l => h.IsList a items
  | .t => h.IsTuple a items
def IsIt (k : SK) (h : Heap) (it a : Addr) (i : Nat) : Prop := match k with
  | .l => h.IsListIter it a i
  | .t => h.IsTupleIter it a i
def SqX (k : SK) (K : PySem.W.Frag) (H : Hp) (a : Addr) (xs : List V) : Prop := match k with
  | .l => SqL K H a xs
  | .t => SqT K H a xs
theorem drawsX {prog : Program} {w : World} {A : Around} (k : SK) (hh : A.handled = none) (it a : Addr) (hne : a ≠ it) (items : Array Value) : Draws prog w A it [it, a] items.size (fun i v => items[i]? = some v) (fun i h => IsIt k h it a i ∧ IsSq k h a items) := by
  cases k with
  | l => exact .list hh it a hne items
  | t => exact .tuple hh it a hne items
theorem beginsX (k : SK) (a : Addr) (items : Array Value) : Begins (.ref a) (itO k a) fun h => IsSq k h a items := by
  cases k with
  | l => exact begins_list a items
  | t => exact begins_tuple a items
theorem isIt0 {k : SK} {h : Heap} {it a : Addr} (e : h.get? it = some (itO k a)) : IsIt k h it a 0 := by
  cases k with
  | l => exact ⟨_, e, rfl, rfl⟩
  | t => exact ⟨_, e, rfl, rfl⟩
theorem IsIt.at' {k : SK} {h h' : Heap} {it a : Addr} {i : Nat} (x : IsIt k h it a i) (f : ∀ o, h.get? it = some o → h'.get? it = some o) : IsIt k h' it a i := by
  cases k with
  | l => exact Heap.IsListIter.at x f
  | t => exact Heap.IsTupleIter.at x f
theorem IsIt.ob {k : SK} {h : Heap} {it a : Addr} {i : Nat} (x : IsIt k h it a i) : ∃ o, h.get? it = some o ∧ ∀ v, o.data ≠ .cell v := by
  cases k with
  | l => obtain ⟨o, e, _, d⟩ := x; exact ⟨o, e, fun v q => by rw [d] at q; cases q⟩
  | t => obtain ⟨o, e, _, d⟩ := x; exact ⟨o, e, fun v q => by rw [d] at q; cases q⟩
theorem IsSq.lt {k : SK} {h : Heap} {a : Addr} {items : Array Value} (x : IsSq k h a items) : a < h.objs.size := by
  cases k with
  | l => obtain ⟨o, e, _⟩ := x; exact Heap.lt_size e
  | t => obtain ⟨o, e, _⟩ := x; exact Heap.lt_size e
section
variable {X : Cx} {pins : List (Addr × Obj)} {σ : St} {H : Hp} {s : Shared}
theorem inv_sq {k : SK} {a : Addr} {xs : List V} (I : Inv X pins σ H s) (h : SqX k X.K H a xs) : ∃ its : List Value, Vals xs its ∧ IsSq k s.heap a its.toArray ∧ xs.length ≤ sizeLine := by
  cases k with
  | l =>
    obtain ⟨its, r, p, z⟩ := I.list h
    exact ⟨its, r, p.isList, z⟩
  | t =>
    obtain ⟨its, r, p, z⟩ := I.tuple h
    exact ⟨its, r, p, z⟩
theorem sq_inj {k : SK} {a : Addr} {xs ys : List V} (I : Inv X pins σ H s) (h : SqX k X.K H a xs) (h' : SqX k X.K H a ys) : xs = ys := by
  cases k with
  | l => exact I.list_inj h h'
  | t => exact I.tuple_inj h h'
end
def ItzF (k1 k2 : SK) (K : PySem.W.Frag) (a b : Addr) : L2.It :=
  ⟨fun i H => ∃ (xs ys : List V) (x y : V), SqX k1 K H a xs ∧ SqX k2 K H b ys ∧ xs[i]? = some x ∧ ys[i]? = some y,
    fun i H v H' => ∃ T o x y, v = .ref T ∧ H T = none ∧ o.dict = none ∧ H' = upd H T (.frz o (.tup [x, y])) ∧ (∀ xs, SqX k1 K H a xs → xs[i]? = some x) ∧ ∀ ys, SqX k2 K H b ys → ys[i]? = some y,
    fun i H => ∃ xs ys : List V, SqX k1 K H a xs ∧ SqX k2 K H b ys ∧ i ≤ xs.length ∧ i ≤ ys.length ∧ (xs.length = i ∨ ys.length = i)⟩
theorem pair_new {X : Cx} {H : Hp} {h'' : Heap} {T : Addr} {x y : V} {u u2 : Value} (ru : RelV x u) (ru2 : RelV y u2) (hT : h''.get? T = some (tupO #[u, u2])) : ObjOk X.prog X.w (upd H T (.frz (tupO #[u, u2]) (.tup [x, y]))) h'' T (.frz (tupO #[u, u2]) (.tup [x, y])) :=
  ⟨hT, by show 2 ≤ sizeLine; decide, [u, u2], .cons ru (.cons ru2 .nil), ⟨_, hT, rfl, _, rfl⟩⟩
theorem turn_zipF {P : Program} {w : World} {K : PySem.W.Frag} {elts : List Expr} {kk : Nat} {tpos : Pos} {k1 k2 : SK} {a b z TI TO i1 i2 : Addr} (S : ZipSep2 z TI TO i1 i2 [i1, a] [i2, b]) (n1 : a ≠ i1) (n2 : b ≠ i2) :
    Turn P w K (.Tuple elts kk tpos) (ItzF k1 k2 K a b) [z, TI, TO, i1, i2] z (fun i h => IsZip h z TI TO .none ∧ IsTupOf2 h TI (.ref i1) (.ref i2) ∧ (∃ x y, IsTupOf2 h TO x y) ∧ IsIt k1 h i1 a i ∧ IsIt k2 h i2 b i) where
  mem := by simp
  obj := fun i h st c hc => by
    obtain ⟨hz, hTI, ⟨x, y, hTO⟩, h1, h2⟩ := st
    have e' : c = z ∨ c = TI ∨ c = TO ∨ c = i1 ∨ c = i2 := by simpa using hc
    rcases e' with rfl | rfl | rfl | rfl | rfl
    · exact ⟨_, hz, fun v q => nomatch q⟩
    · exact ⟨_, hTI, fun v q => nomatch q⟩
    · exact ⟨_, hTO, fun v q => nomatch q⟩
    · exact h1.ob
    · exact h2.ob
  keep := fun i h h' ⟨hz, hTI, ⟨x, y, hTO⟩, h1, h2⟩ k => ⟨k z (by simp) _ hz, k TI (by simp) _ hTI, ⟨x, y, k TO (by simp) _ hTO⟩, h1.at' fun o q => k i1 (by simp) o q, h2.at' fun o q => k i2 (by simp) o q⟩
  item := by
    intro X hP hw hK hc i pins s σ H E I hf ⟨hz, hTI, ⟨x0, y0, hTO⟩, h1, h2⟩ ⟨xs, ys, x, y, hqx, hqy, hx, hy⟩
    subst hP hw hK
    obtain ⟨its, rv, p, _⟩ := inv_sq I hqx
    obtain ⟨its2, rv2, p2, _⟩ := inv_sq I hqy
    obtain ⟨u, hu, ru⟩ := rv.get hx
    obtain ⟨u2, hu2, ru2⟩ := rv2.get hy
    have hd := I.ok.hd hc
    have D1 := drawsX (prog := X.prog) (w := X.w) (A := X.A.in1) k1 hd i1 a n1 its.toArray
    have D2 := drawsX (prog := X.prog) (w := X.w) (A := X.A.in1) k2 hd i2 b n2 its2.toArray
    have e1 := (List.getElem?_eq_some_iff.mp hu).1
    have e2 := (List.getElem?_eq_some_iff.mp hu2).1
    refine wpAny_pyNext_zipD2_item S D1 D2 hz hTI hTO ⟨h1, p⟩ ⟨h2, p2⟩ (by simpa using e1) (by simpa using e2) fun x1 x2 h' tk g1 g2 z' TO' ⟨h1', _⟩ ⟨h2', _⟩ hT hsz hk => ?_
    obtain rfl : u = x1 := Option.some.inj (hu.symm.trans (by simpa using g1))
    obtain rfl : u2 = x2 := Option.some.inj (hu2.symm.trans (by simpa using g2))
    have lt : ∀ {c o}, s.heap.get? c = some o → c < s.heap.objs.size := fun e => Heap.lt_size e
    have zl := lt hz
    have ne5 : ∀ {c : Addr} {l : List Addr}, c ∉ l → ∀ d ∈ l, c ≠ d := fun h d hd e => h (e ▸ hd)
    refine ⟨_, rfl, wpAny_letOwnedTupleGo_zip (s := { s with heap := h', toks := tk }) z' fun h'' z'' sb => ?_⟩
    have hT2 : h''.get? s.heap.objs.size = some (tupO #[u, u2]) := (sb.2 _ (Nat.ne_of_gt zl)).trans hT
    have I1 : Inv X pins σ (upd H s.heap.objs.size (.frz (tupO #[u, u2]) (.tup [x, y]))) { s with heap := h'', toks := tk } :=
      I.turnedNew (ch := [z, TI, TO, i1, i2]) (fun c o hb q => by
        have hb' : c ≠ z ∧ c ≠ TI ∧ c ≠ TO ∧ c ≠ i1 ∧ c ≠ i2 := by simpa using hb
        exact (sb.2 c hb'.1).trans (hk c o hb'.1 hb'.2.2.1 hb'.2.2.2.1 hb'.2.2.2.2 q)) hf (Nat.le_refl _) (pair_new ru ru2 hT2)
    refine ⟨.ref s.heap.objs.size, _, I1, rfl, ⟨_, _, x, y, rfl, I.hok.fresh (Nat.le_refl _), rfl, rfl, fun l hl => by rw [sq_inj I hl hqx]; exact hx, fun l hl => by rw [sq_inj I hl hqy]; exact hy⟩, ⟨z'', ?_, ⟨u, u2, ?_⟩, ?_, ?_⟩, fun c hcm => ?_⟩
    · exact (sb.2 _ S.TIz).trans (hk _ _ S.TIz S.TITO S.TIi1 S.TIi2 hTI)
    · exact (sb.2 _ S.TOz).trans TO'
    · exact h1'.at' fun o q => (sb.2 _ S.zi1.symm).trans q
    · exact h2'.at' fun o q => (sb.2 _ S.zi2.symm).trans q
    · have hlt : c < s.heap.objs.size := by
        have e' : c = z ∨ c = TI ∨ c = TO ∨ c = i1 ∨ c = i2 := by simpa using hcm
        rcases e' with rfl | rfl | rfl | rfl | rfl
        · exact zl
        · exact lt hTI
        · exact lt hTO
        · obtain ⟨_, q, _⟩ := h1.ob; exact lt q
        · obtain ⟨_, q, _⟩ := h2.ob; exact lt q
      rw [upd_ne (Nat.ne_of_lt hlt)]
      exact (hf c hcm).1
  done := by
    intro X hP hw hK hc i pins s σ H E I hf ⟨hz, hTI, ⟨x0, y0, hTO⟩, h1, h2⟩ ⟨xs, ys, hqx, hqy, hl1, hl2, hend⟩
    subst hP hw hK
    obtain ⟨its, rv, p, _⟩ := inv_sq I hqx
    obtain ⟨its2, rv2, p2, _⟩ := inv_sq I hqy
    have hd := I.ok.hd hc
    have D1 := drawsX (prog := X.prog) (w := X.w) (A := X.A.in1) k1 hd i1 a n1 its.toArray
    have D2 := drawsX (prog := X.prog) (w := X.w) (A := X.A.in1) k2 hd i2 b n2 its2.toArray
    have l1 := rv.length
    have l2 := rv2.length
    refine wpAny_pyNext_zipD2_end S D1 D2 hz hTI hTO ⟨h1, p⟩ ⟨h2, p2⟩ (by simp; omega) (by simp; omega) (by simp; omega) fun h' tk hk => ⟨rfl, ?_⟩
    exact I.turnedL (ch := [z, TI, TO, i1, i2]) (fun c o hb q => by
      have hb' : c ≠ z ∧ c ≠ TI ∧ c ≠ TO ∧ c ≠ i1 ∧ c ≠ i2 := by simpa using hb
      exact hk c o hb'.1 hb'.2.2.1 hb'.2.2.2.1 hb'.2.2.2.2 q) hf
  self := fun A i s Q E st h => wpAny_pyIter_zip st.1 h
def iZipF (K : PySem.W.Frag) (ta : TA) : TI := fun σ H R => ta σ H fun vs H1 => ∃ k1 k2 a b xs ys, vs = [.ref a, .ref b] ∧ SqX k1 K H1 a xs ∧ SqX k2 K H1 b ys ∧ R (ItzF k1 k2 K a b) H1
theorem pi_zipF {X : Cx} {e e2 : Expr} {ta : TA} {p pos tpos : Pos} {elts : List Expr} {kk : Nat} (hg : Gl X "zip") (hm : X.mg "zip" = none) (ha : PA X [e, e2] ta) (hs : starEach [e, e2] X.env = (false, eval e X.env) :: starEach [e2] X.env) (hpl : (backTo pos (starEach [e2] X.env)).any (·.1) = false) :
    PI X (.Tuple elts kk tpos) (.Call (.Name "zip" p) [e, e2] [] pos) (iZipF X.K ta) := by
  refine ⟨fun pins s σ H R I h => ?_⟩
  refine Call_ (ld_blt I hg hm PyProof.Rows.boot_zip (PyProof.Rows.callWith_type1 (thn (ha.run pos pins s σ H _ I h) fun us s1 ⟨vs, H1, I1, r1, k1, k2, a, b, xs, ys, ex, hqx, hqy, q⟩ => ?_) hs hpl))
  subst ex
  obtain ⟨u1, u2, rfl, r1, r2⟩ := r1.two
  cases r1
  cases r2
  obtain ⟨its, rv, p1, _⟩ := inv_sq I1 hqx
  obtain ⟨its2, rv2, p2, _⟩ := inv_sq I1 hqy
  refine zip_begins2 (beginsX k1 a its.toArray) (beginsX k2 b its2.toArray) p1 p2 fun h' hz hTI hTO g1 g2 hsz hk => wpAny_pyIter_zip hz ?_
  have I2 : Inv X pins σ H1 { s1 with heap := h' } := I1.kept (t' := s1.toks) hk
  have S := zip_sep2 (N := s1.heap.objs.size) (fp1 := [a]) (fp2 := [b]) (fun c hc => by rw [List.mem_singleton.mp hc]; exact p1.lt) (fun c hc => by rw [List.mem_singleton.mp hc]; exact p2.lt)
  refine ⟨s1.heap.objs.size + 4, [s1.heap.objs.size + 4, s1.heap.objs.size + 2, s1.heap.objs.size + 3, s1.heap.objs.size, s1.heap.objs.size + 1], _, _, H1, rfl, I2, turn_zipF S (Nat.ne_of_lt p1.lt) (Nat.ne_of_lt (Nat.lt_succ_of_lt p2.lt)), ⟨hz, hTI, ⟨_, _, hTO⟩, isIt0 g1, isIt0 g2⟩, fun c hcm => ?_, q⟩
  have e' : c = s1.heap.objs.size + 4 ∨ c = s1.heap.objs.size + 2 ∨ c = s1.heap.objs.size + 3 ∨ c = s1.heap.objs.size ∨ c = s1.heap.objs.size + 1 := by simpa using hcm
  have hle : s1.heap.objs.size ≤ c := by
    rcases e' with z | z | z | z | z
    · rw [z]; exact Nat.le_add_right _ _
    · rw [z]; exact Nat.le_add_right _ _
    · rw [z]; exact Nat.le_add_right _ _
    · rw [z]; exact Nat.le_refl _
    · rw [z]; exact Nat.le_add_right _ _
  exact I1.fpOk hle (I1.hok.fresh hle)
end HF
namespace HF
open PySem PySem.Spec L2
open PyProof.Rows hiding St
section
variable {X : Cx} {tg : Expr}
theorem Rp.lstF {K : PySem.W.Frag} {H : Hp} {io : List Addr} {o : Bool} {ds : List D} {v : V} (h : Rp K H io (.lst o ds) v []) : o = false ∧ ∃ a vs, v = .ref a ∧ LS H a vs ∧ RpL K H io ds vs [] := by
  generalize hq : ([] : List Addr) = q at h
  cases h with
  | lstS h r => exact ⟨rfl, _, _, rfl, h, r⟩
  | lstO _ _ _ => cases hq
theorem Rp.dctF {K : PySem.W.Frag} {H : Hp} {io : List Addr} {o : Bool} {ds : List (DK × D)} {v : V} (h : Rp K H io (.dct o ds) v []) : o = false ∧ ∃ a ob kvs ks, v = .ref a ∧ H a = some (.frz ob (.dK ks)) ∧ kvs = ks.map (fun p => (keyDK p.1, p.2)) ∧ RpK K H io ds kvs [] := by
  generalize hq : ([] : List Addr) = q at h
  cases h with
  | dctS h e r =>
    obtain ⟨k, rfl, e2⟩ := e
    exact ⟨rfl, _, _, _, _, rfl, h, e2, r⟩
  | dctO _ _ _ => cases hq
theorem RpK.keys {K : PySem.W.Frag} {H : Hp} {io : List Addr} : ∀ {ds : List (DK × D)} {vs : List (DK × V)} {os : List Addr}, RpK K H io ds vs os → ds.map Prod.fst = vs.map Prod.fst
  | _, _, _, .nil => rfl
  | _, _, _, .cons _ _ r => by simp [RpK.keys r]
theorem RpK.okAll {K : PySem.W.Frag} {H : Hp} {io : List Addr} : ∀ {ds : List (DK × D)} {vs : List (DK × V)} {os : List Addr}, RpK K H io ds vs os → ∀ p ∈ ds, okK p.1 = true
  | _, _, _, .nil, _, h => nomatch h
  | _, _, _, .cons hk _ r, p, h => by
    rcases List.mem_cons.mp h with rfl | h
    · exact hk
    · exact r.okAll p h
theorem Feed.keys {K : PySem.W.Frag} {H : Hp} {io : List Addr} {a : Addr} {ob : Obj} {ks : List (Key × V)} {ds : List (DK × D)} (h : H a = some (.frz ob (.dK ks))) (r : RpK K H io ds (ks.map fun p => (keyDK p.1, p.2)) []) : Feed K (Itk a ob ks) io H (ds.map fun p => keyD p.1) := by
  have w : Walk (Itk a ob ks) ks.length _ _ := walk_keys (d := a) (o := ob) (kvs := ks)
  have hk : ds.map Prod.fst = ks.map fun p => keyDK p.1 := by
    rw [r.keys, List.map_map]
    rfl
  have hl : ks.length = (ds.map fun p => keyD p.1).length := by
    have := congrArg List.length hk
    simpa using this.symm
  unfold Feed
  rw [← hl]
  refine w.mono (fun H' ⟨io', k⟩ => k.st _ _ h fun z => z) fun i H' x H'' hi ⟨_, _⟩ y => ?_
  obtain ⟨rfl, k, v, e, rfl⟩ := y
  have e1 : (ds.map Prod.fst)[i]? = some (keyDK k) := by rw [hk]; simp [e]
  have e2 : ∃ p, ds[i]? = some p ∧ p.1 = keyDK k := by
    rw [List.getElem?_map] at e1
    cases q : ds[i]? with
    | none => rw [q] at e1; cases e1
    | some p => rw [q] at e1; exact ⟨p, rfl, by simpa using e1⟩
  obtain ⟨p, e3, e4⟩ := e2
  refine ⟨fun _ _ z => z, keyD p.1, by simp [e3], fun io' _ _ => ?_⟩
  rw [e4]
  cases k with
  | inl z => exact .int z
  | inr z =>
    have := r.okAll p (List.mem_of_getElem? e3)
    rw [e4] at this
    exact .str this
theorem Feed.str {K : PySem.W.Frag} {H : Hp} {io : List Addr} {z : Str} (h : PyData.strOk z = true) : Feed K (Its z) io H (signs z) := by
  have w : Walk (Its z) z.cps.size _ _ := walk_str (z := z)
  unfold Feed
  rw [show (signs z).length = z.cps.size by simp [signs]]
  refine w.mono (fun _ _ => trivial) fun i H' x H'' hi ⟨_, _⟩ y => ?_
  obtain ⟨rfl, c, e, rfl⟩ := y
  refine ⟨fun _ _ z => z, .str ⟨#[c]⟩, by simp [signs, e], fun io' _ _ => .str ?_⟩
  have : c ∈ z.cps := Array.mem_of_getElem? e
  have := Array.all_eq_true_iff_forall_mem.mp h c this
  simpa [PyData.strOk] using this
theorem di_seq {e : Expr} {f : Ev} (h : PE X e (tS X.K f)) : PI X tg e (tI X.K (itD itSeq f)) := by
  refine ⟨fun pins s σ H R I ⟨io, b, r, oss, S, ds, b', e, q⟩ => ?_⟩
  obtain ⟨d, b1, e1, e2⟩ := bnd_some e
  obtain ⟨e3, rfl⟩ := lift_some e2
  cases d with
  | lst o xs =>
    cases e3
    refine (pi_list h).run pins s σ H R I ⟨io, b, r, oss, S, _, b', e1, fun v H' io' k S' x => ?_⟩
    obtain ⟨rfl, a, vs, rfl, hl, rl⟩ := x.lstF
    exact ⟨a, rfl, ⟨vs, hl.sq⟩, q _ H' io' k S' (.list hl rl)⟩
  | tup xs =>
    cases e3
    refine (pi_tup h).run pins s σ H R I ⟨io, b, r, oss, S, _, b', e1, fun v H' io' k S' x => ?_⟩
    obtain ⟨a, vs, rfl, hl, rl⟩ := x.tup_inv
    exact ⟨a, rfl, ⟨vs, hl⟩, q _ H' io' k S' (.tup hl rl)⟩
  | str z =>
    cases e3
    refine (pi_str h).run pins s σ H R I ⟨io, b, r, oss, S, _, b', e1, fun v H' io' k S' x => ?_⟩
    cases x with
    | str hz => exact ⟨z, rfl, q _ H' io' k S' (.str hz)⟩
  | dct o kvs =>
    cases o with
    | true => cases e3
    | false =>
      cases e3
      refine (pi_keys h).run pins s σ H R I ⟨io, b, r, oss, S, _, b', e1, fun v H' io' k S' x => ?_⟩
      obtain ⟨_, a, ob, _, ks, rfl, ha, rfl, rk⟩ := x.dctF
      exact ⟨a, ob, rfl, .inl ⟨ks, ha, q _ H' io' k S' (.keys ha rk)⟩⟩
  | non => cases e3
  | bl _ => cases e3
  | int _ => cases e3
  | dtt _ _ => cases e3
  | dtv _ _ _ => cases e3
  | box _ => cases e3
  | scr _ => cases e3
  | exc _ _ => cases e3
def itN (op : List D → Option (List D)) (fs : List Ev) : Ws := fun r => bnd (evs fs r) fun xs => lift (op xs)
def l1 (op : D → Option (List D)) : List D → Option (List D)
  | [x] => op x
  | _ => none
def l2 (op : D → D → Option (List D)) : List D → Option (List D)
  | [x, y] => op x y
  | _ => none
theorem RpL.pair {K : PySem.W.Frag} {H : Hp} {io : List Addr} {d : D} {v : V} {ds : List D} {vs : List V} (h : RpL K H io (d :: ds) (v :: vs) []) : Rp K H io d v [] ∧ RpL K H io ds vs [] := by
  generalize hq : ([] : List Addr) = q at h
  cases h with
  | cons h r =>
    obtain ⟨z1, z2⟩ := List.append_eq_nil_iff.mp hq.symm
    subst z1 z2
    exact ⟨h, r⟩
def YPairF (xs ys : Nat → Option V) : Nat → Hp → V → Hp → Prop := fun i H v H' => ∃ T o x y, v = .ref T ∧ H T = none ∧ o.dict = none ∧ H' = upd H T (.frz o (.tup [x, y])) ∧ xs i = some x ∧ ys i = some y
theorem walk_zipF {K : PySem.W.Frag} {k1 k2 : SK} {a b : Addr} {xs ys : List V} {n : Nat} (hn : n = min xs.length ys.length) : Walk (ItzF k1 k2 K a b) n (fun H => SqX k1 K H a xs ∧ SqX k2 K H b ys) (YPairF (fun i => xs[i]?) (fun i => ys[i]?)) := by
  subst hn
  refine ⟨fun i _ hi q => ?_, fun _ q => ⟨xs, ys, q.1, q.2, by omega, by omega, by omega⟩, fun i H v H' _ q ⟨T, o, x, z, h1, h2, h3, h4, h5, h6⟩ => ⟨T, o, x, z, h1, h2, h3, h4, h5 xs q.1, h6 ys q.2⟩⟩
  have h1 : i < xs.length := by omega
  have h2 : i < ys.length := by omega
  exact ⟨xs, ys, xs[i], ys[i], q.1, q.2, by simp [h1], by simp [h2]⟩
theorem Rp.sqX {K : PySem.W.Frag} {H : Hp} {io : List Addr} {d : D} {v : V} {ds : List D} (h : Rp K H io d v []) (e : itemsD d = some ds) : ∃ k a vs, v = .ref a ∧ (∀ io' H', Kf io H io' H' → SqX k K H' a vs) ∧ RpL K H io ds vs [] := by
  cases d <;> cases e
  · obtain ⟨rfl, a, vs, rfl, hl, rl⟩ := h.lstF
    exact ⟨.l, a, vs, rfl, fun io' H' k => (k.ls hl).sq, rl⟩
  · obtain ⟨a, vs, rfl, hl, rl⟩ := h.tup_inv
    exact ⟨.t, a, vs, rfl, fun io' H' k => k.sqT hl, rl⟩
theorem Feed.pairs {K : PySem.W.Frag} {H : Hp} {io : List Addr} {J : L2.It} {n : Nat} {ds es : List D} {vs ws : List V} (w : Walk J n (fun H' => ∃ io', Kf io H io' H') (YPairF (fun i => vs[i]?) (fun i => ws[i]?))) (hn : n = min ds.length es.length) (r : RpL K H io ds vs []) (r' : RpL K H io es ws []) : Feed K J io H ((ds.zip es).map fun p => .tup [p.1, p.2]) := by
  unfold Feed
  rw [show ((ds.zip es).map fun p => D.tup [p.1, p.2]).length = n by simp [hn]]
  refine w.mono (fun H' k => k) fun i H' x H'' hi ⟨_, _⟩ y => ?_
  obtain ⟨T, o, x, y, rfl, hT, ho, rfl, e1, e2⟩ := y
  obtain ⟨d, e1', rx⟩ := r.get0 e1
  obtain ⟨d2, e2', ry⟩ := r'.get0 e2
  refine ⟨ext_upd hT, .tup [d, d2], ?_, fun io' k bl => ?_⟩
  · rw [List.getElem?_map, List.getElem?_zip_eq_some (z := (d, d2)) |>.mpr ⟨e1', e2'⟩]; rfl
  · exact .newT ho bl hT (os := []) (.cons (os := []) (ps := []) (rx.keepS k rfl) (.cons (os := []) (ps := []) (ry.keepS k rfl) .nil))
end
end HF
namespace HF
open PySem PySem.Spec L2
open PyProof.Rows hiding St
def tAS (K : PySem.W.Frag) (fs : List Ev) : TA := fun σ H Q => ∃ io b r oss, SR K io b r oss σ H ∧ ∃ ds b', evs fs r b = some (ds, b') ∧
  ∀ (vs : List V) (H' : Hp) (io' : List Addr), Kp io H io' H' → SR K io' b' r oss σ H' → RpL K H' io' ds vs [] → Q vs H'
section
variable {X : Cx} {tg : Expr}
theorem da_nilS : PA X [] (tAS X.K []) := PA_wk pa_nil fun σ H Q ⟨io, b, r, oss, S, d, b', e, q⟩ => by
  obtain ⟨rfl, rfl⟩ := ret_some e
  exact q [] H io (Kp.refl _ _) S .nil
theorem da_consS {e : Expr} {es : List Expr} {f : Ev} {fs : List Ev} (he : PE X e (tS X.K f)) (hes : PA X es (tAS X.K fs)) (hs : starEach (e :: es) X.env = (false, eval e X.env) :: starEach es X.env) : PA X (e :: es) (tAS X.K (f :: fs)) :=
  PA_wk (pa_cons he hes hs) fun σ H Q ⟨io, b, r, oss, S, ds, b', e, q⟩ => by
    obtain ⟨d, b1, e1, e'⟩ := bnd_some e
    obtain ⟨ds', b2, e2, e3⟩ := bnd_some e'
    obtain ⟨rfl, rfl⟩ := ret_some e3
    refine ⟨io, b, r, oss, S, d, b1, e1, fun x H1 io1 k1 S1 rx => ⟨io1, b1, r, oss, S1, ds', b', e2, fun xs H2 io2 k2 S2 rxs => ?_⟩⟩
    exact q (x :: xs) H2 io2 (k1.trans k2 S.bl) S2 (.cons (os := []) (ps := []) (rx.keep k2 S1.bl) rxs)
theorem RpL.one {K : PySem.W.Frag} {H : Hp} {io : List Addr} {d : D} {ds : List D} {vs : List V} (h : RpL K H io (d :: ds) vs []) : ∃ v ws, vs = v :: ws ∧ Rp K H io d v [] ∧ RpL K H io ds ws [] := by
  cases vs with
  | nil => cases h
  | cons v ws => exact ⟨v, ws, rfl, h.pair⟩
theorem RpL.zero {K : PySem.W.Frag} {H : Hp} {io : List Addr} {vs : List V} {os : List Addr} (h : RpL K H io [] vs os) : vs = [] := by cases h; rfl
theorem di_zip {e e2 : Expr} {f g : Ev} {p pos tpos : Pos} {elts : List Expr} {kk : Nat} (hg : Gl X "zip") (hm : X.mg "zip" = none) (ha : PA X [e, e2] (tAS X.K [f, g]))
    (hs : starEach [e, e2] X.env = (false, eval e X.env) :: starEach [e2] X.env) (hpl : (backTo pos (starEach [e2] X.env)).any (·.1) = false) :
    PI X (.Tuple elts kk tpos) (.Call (.Name "zip" p) [e, e2] [] pos) (tI X.K (itN (l2 itZip) [f, g])) := by
  refine PI_wk (pi_zipF hg hm ha hs hpl) fun σ H R ⟨io, b, r, oss, S, ds, b', e, q⟩ => ?_
  obtain ⟨xs, b1, e1, e2⟩ := bnd_some e
  obtain ⟨e3, rfl⟩ := lift_some e2
  refine ⟨io, b, r, oss, S, xs, b', e1, fun vs H' io' k S' x => ?_⟩
  match xs, e3, x with
  | [dx, dy], e3, x =>
    obtain ⟨v, ws, rfl, rx, x⟩ := x.one
    obtain ⟨w, ws, rfl, ry, x⟩ := x.one
    obtain rfl := x.zero
    replace e3 : itZip dx dy = some ds := e3
    unfold itZip at e3
    cases h1 : itemsD dx with
    | none => rw [h1] at e3; cases e3
    | some xs =>
      cases h2 : itemsD dy with
      | none => rw [h1, h2] at e3; cases e3
      | some ys =>
        rw [h1, h2] at e3
        cases e3
        obtain ⟨k1, a, vs, rfl, hl, rl⟩ := rx.sqX h1
        obtain ⟨k2, a', vs', rfl, hl', rl'⟩ := ry.sqX h2
        have w := (walk_zipF (K := X.K) (k1 := k1) (k2 := k2) (a := a) (b := a') (xs := vs) (ys := vs') rfl).mono (G' := fun H2 => ∃ io2, Kf io' H' io2 H2) (fun H2 ⟨io2, k⟩ => ⟨hl io2 H2 k, hl' io2 H2 k⟩) fun i H2 x H3 hi _ y => y
        exact ⟨k1, k2, a, a', vs, vs', rfl, hl _ _ (Kf.refl _ _), hl' _ _ (Kf.refl _ _), q _ H' io' k S' (.pairs w (by rw [rl.length, rl'.length]) rl rl')⟩
def itEnumD (x : D) : Option (List D) := (itemsD x).map fun xs => xs.zipIdx.map fun p => .tup [.int p.2, p.1]
theorem wipe_wipe (σ : St) (vs : List Nat) : wipe (wipe σ vs) vs = wipe σ vs := by
  refine List.ext_getElem? fun j => ?_
  by_cases h : j ∈ vs
  · have get : ∀ (vs : List Nat) (σ : St) (j : Nat), j ∈ vs → (wipe σ vs)[j]? = if j < σ.length then some none else none := by
      intro vs
      induction vs with
      | nil => intro σ j h; cases h
      | cons v vs ih =>
        intro σ j h
        unfold wipe
        by_cases hj : v = j
        · subst hj
          by_cases hl : v < σ.length
          · rw [List.getElem?_set_self (by rw [wipe_length]; exact hl), if_pos hl]
          · rw [List.getElem?_eq_none (by rw [List.length_set, wipe_length]; omega), if_neg hl]
        · rw [List.getElem?_set_ne hj]
          exact ih σ j ((List.mem_cons.mp h).resolve_left fun e => hj e.symm)
    rw [get _ _ _ h, get _ _ _ h, wipe_length]
  · rw [wipe_out h, wipe_out h]
theorem SR.set_no {K : PySem.W.Frag} {io : List Addr} {b : Bx} {r : Env} {oss : List (List Addr)} {σ : St} {H : Hp} (i : Nat) (S : SR K io b r oss σ H) : ∃ oss', SR K io b (r.set i .no) oss' (σ.set i none) H ∧ ∀ a ∈ oss'.flatten, a ∈ oss.flatten := by
  have go : ∀ {r : Env} {σ : St} {oss : List (List Addr)} (i : Nat), RpE K H io r σ oss → RpE K H io (r.set i .no) (σ.set i none) (oss.set i []) := by
    intro r σ oss i h
    induction h generalizing i with
    | nil => exact .nil
    | no r ih => cases i with
      | zero => exact .no r
      | succ i => exact .no (ih i)
    | sh x r ih => cases i with
      | zero => exact .no r
      | succ i => exact .sh x (ih i)
    | ow x r ih => cases i with
      | zero => exact .no r
      | succ i => exact .ow x (ih i)
  exact ⟨_, ⟨S.len, S.bx, S.nd, go i S.sl, nodup_set_flat List.nodup_nil S.od fun _ h => nomatch h⟩, fun a ha => (mem_set_flat ha).elim (fun z => nomatch z) id⟩
theorem SR.wipe {K : PySem.W.Frag} {io : List Addr} {b : Bx} {r : Env} {oss : List (List Addr)} {σ : St} {H : Hp} (S : SR K io b r oss σ H) : ∀ vs : List Nat, ∃ oss', SR K io b (wipeE r vs) oss' (L2.wipe σ vs) H ∧ ∀ a ∈ oss'.flatten, a ∈ oss.flatten
  | [] => ⟨oss, S, fun _ h => h⟩
  | v :: vs => by
    obtain ⟨o1, S1, h1⟩ := S.wipe vs
    obtain ⟨o2, S2, h2⟩ := S1.set_no v
    exact ⟨o2, S2, fun a ha => h1 a (h2 a ha)⟩
def tC? (K : PySem.W.Frag) : Option Ev → TT
  | none => tYes
  | some f => tT K f
theorem dts_nil : PTs X [] (tC? X.K none) := pts_nil
theorem dts_one {c : Expr} {f : Ev} (h : PT X c (tT X.K f)) : PTs X [c] (tC? X.K (some f)) := pts_one h
end
end HF
namespace HF
open PySem PySem.Spec L2
open PyProof.Rows hiding St
section
variable {X : Cx} {tg : Expr}
structure LcI (K : PySem.W.Frag) (t : Tg) (co : Option Ev) (f : Ev) (ds : List D) (r0 : Env) (σ0 : St) (o0 : List (List Addr)) (io1 : List Addr) (H1 : Hp) (A : Addr) (res : D) (bf : Bx) (i : Nat) (H : Hp) : Prop where
  ex : ∃ io b acc vs os, Kp io1 H1 io H ∧ SR K io b r0 o0 σ0 H ∧ H A = some (.lst vs) ∧ A ∉ io ∧ RpL K H io acc vs os ∧ os.Nodup ∧ A ∉ os ∧ (∀ a ∈ os, H1 a = none) ∧ lcGo t r0 co f (ds.drop i) acc b = some (res, bf)
theorem RpL.append' {K : PySem.W.Frag} {H : Hp} {io : List Addr} {ds : List D} {vs : List V} {os ps : List Addr} {d : D} {v : V} (h : RpL K H io ds vs os) (x : Rp K H io d v ps) : RpL K H io (ds ++ [d]) (vs ++ [v]) (os ++ ps) := by
  have := h.append (.cons x .nil)
  rwa [List.append_nil] at this
theorem lc_step {K : PySem.W.Frag} {t : Tg} {co : Option Ev} {f : Ev} {ds : List D} {r0 : Env} {σ0 : St} {o0 : List (List Addr)} {io1 : List Addr} {H1 : Hp} {A : Addr} {res : D} {bf : Bx} {i : Nat} {H H' : Hp} {x : V} {own : List Nat} {b1 : Bx}
    (S1 : SR K io1 b1 r0 o0 σ0 H1) (hA : H1 A = none) (hs : ∀ i ∈ t.slots, i ∈ own) (hw : σ0 = L2.wipe σ0 own) (p : LcI K t co f ds r0 σ0 o0 io1 H1 A res bf i H) (ext : ∀ a o, H a = some o → H' a = some o) (d : D) (ed : ds[i]? = some d) (rx : ∀ io', Kf io1 H1 io' H → BL io' H → Rp K H' io' d x []) :
    tG K t x σ0 H' fun σ2 H2 => L2.wipe σ2 own = σ0 ∧ tC? K co σ2 H2 fun b H3 =>
      if b = true then tV K f σ2 H3 fun y H4 => ∃ acc, H4 A = some (.lst acc) ∧ acc.length < sizeLine ∧ LcI K t co f ds r0 σ0 o0 io1 H1 A res bf (i + 1) (upd H4 A (.lst (acc ++ [y]))) else LcI K t co f ds r0 σ0 o0 io1 H1 A res bf (i + 1) H3 := by
  obtain ⟨io, b, acc, vs, os, k, S, eA, nA, rl, nd, nAo, fr, go⟩ := p.ex
  have hdr : ds.drop i = d :: ds.drop (i + 1) := by
    obtain ⟨hi, e⟩ := List.getElem?_eq_some_iff.mp ed
    rw [List.drop_eq_getElem_cons hi, e]
  rw [hdr] at go
  unfold lcGo at go
  have S' := S.later ext
  have k' : Kp io1 H1 io H' := k.trans (Kp.of ext) S1.bl
  have bl1 := S1.bl
  cases hb : bindT t d r0 with
  | none => rw [hb] at go; cases go
  | some r1 =>
    rw [hb] at go
    dsimp only at go
    refine ⟨io, b, r0, o0, d, r1, S', rx io (k.kf bl1) S.bl, hb, fun σ2 o2 S2 _ hw2 => ⟨by rw [hw2 own hs, ← hw], ?_⟩⟩
    have nA0 : A ∉ o0.flatten := fun hm => by
      obtain ⟨_, u, e, _⟩ := S1.sl.ownd bl1 A hm
      rw [hA] at e; cases e
    -- the next item put on
    have put : ∀ (b2 : Bx) (io2 : List Addr) (H3 : Hp), Kp io H' io2 H3 → SR K io2 b2 r1 o2 σ2 H3 → (if acc.length < sizeLine then bnd (f r1) fun d => lcGo t r0 co f (ds.drop (i + 1)) (acc ++ [d]) else fail) b2 = some (res, bf) →
        tV K f σ2 H3 fun y H4 => ∃ acc, H4 A = some (.lst acc) ∧ acc.length < sizeLine ∧ LcI K t co f ds r0 σ0 o0 io1 H1 A res bf (i + 1) (upd H4 A (.lst (acc ++ [y]))) := by
      intro b2 io2 H3 k3 S3 g
      split at g
      · rename_i hl
        obtain ⟨dy, b4, g1, g2⟩ := bnd_some g
        refine ⟨io2, b2, r1, o2, S3, dy, b4, g1, fun y H4 io4 os4 k4 S4 ry n4 f4 => ?_⟩
        have k34 := k3.trans k4 S'.bl
        have eA' : H4 A = some (.lst vs) := k34.keep A _ (ext A _ eA) nA
        have nA4 : A ∉ io4 := k34.notin (ext A _ eA) nA
        have SB : SR K io4 b4 r0 o0 σ0 H4 := S'.move k34 S4
        have m : Mut (H4 A) := by rw [eA']; trivial
        have rl4 : RpL K H4 io4 acc vs os := (rl.keep (Kp.of ext) S.bl).keep k34 S'.bl
        have nA44 : A ∉ os4 := fun hm => by
          have z := f4 A hm
          rw [k3.keep A _ (ext A _ eA) nA] at z; cases z
        have kA : Kp io1 H1 io4 H4 := k'.trans k34 bl1
        refine ⟨vs, eA', by rw [← rl.length]; exact hl, ⟨io4, b4, acc ++ [dy], vs ++ [y], os ++ os4, ⟨fun a o e n => ?_, kA.pre, kA.new⟩, SB.upd m nA4 nA0, upd_same, nA4, (rl4.upd m nAo).append' (ry.upd m nA44), ?_, ?_, ?_, g2⟩⟩
        · rw [upd_ne (fun q => by subst q; rw [hA] at e; cases e)]
          exact kA.keep a o e n
        · refine List.nodup_append.mpr ⟨nd, n4, fun a ha c hc q => ?_⟩
          subst q
          have z := f4 a hc
          obtain ⟨na, u, eu, _⟩ := rl.ownd S.bl a ha
          rw [k3.keep a u (ext a u eu) na] at z; cases z
        · exact fun hm => (List.mem_append.mp hm).elim nAo nA44
        · refine fun a ha => (List.mem_append.mp ha).elim (fr a) fun h => ?_
          exact fresh_back (k'.trans k3 bl1) (S'.move k3 S3) (f4 a h)
      · cases g
    cases co with
    | none => exact put b io H' (Kp.refl _ _) S2 go
    | some c =>
      dsimp only at go
      obtain ⟨dc, b2, g1, g2⟩ := bnd_some go
      cases dc <;> first | cases g2 | skip
      rename_i kk
      refine ⟨io, b, r1, o2, S2, kk, b2, g1, fun H3 io3 k3 S3 => ?_⟩
      cases kk with
      | true =>
        rw [if_pos rfl]
        exact put b2 io3 H3 k3 S3 g2
      | false =>
        rw [if_neg Bool.false_ne_true]
        have SB : SR K io3 b2 r0 o0 σ0 H3 := S'.move k3 S3
        exact ⟨io3, b2, acc, vs, os, k'.trans k3 bl1, SB, k3.keep A _ (ext A _ eA) nA, k3.notin (ext A _ eA) nA, (rl.keep (Kp.of ext) S.bl).keep k3 S'.bl, nd, nAo, fr, g2⟩
theorem lc_reads {K : PySem.W.Frag} {own : List Nat} {t : Tg} {it : Ws} {co : Option Ev} {f : Ev} (hs : ∀ i ∈ t.slots, i ∈ own) {σ : St} {H : Hp} {Q : VK} (h : tV K (eLc own t it co f) σ H Q) : tLc (tI K it) (tG K t) (tC? K co) (tV K f) own σ H Q := by
    obtain ⟨io, b, r, oss, S, d, bf, e, q⟩ := h
    obtain ⟨ds, b1, e1, e2⟩ := bnd_some e
    refine ⟨io, b, r, oss, S, ds, b1, e1, fun J H1 io1 k1 S1 fd A hA => ?_⟩
    obtain ⟨o0, S0, ho⟩ := S1.wipe own
    refine lc_it fd (LcI K t co f ds (wipeE r own) (L2.wipe σ own) o0 io1 H1 A d bf) ?_ (fun i H2 _ p => ?_) (fun i x H2 H3 hlt p y => ?_) fun H2 p => ?_
    · have h0 := S0.later (ext_upd (o := .lst []) hA)
      exact ⟨io1, b1, [], [], [], Kp.of (ext_upd hA), h0, upd_same, S1.bl.fresh hA, .nil, List.nodup_nil, fun z => (nomatch z), nil_all, e2⟩
    · obtain ⟨io2, _, _, _, _, k, _⟩ := p.ex
      exact ⟨io2, k.kf S1.bl⟩
    · obtain ⟨ext, d1, ed, rx⟩ := y
      have := lc_step S0 hA hs (wipe_wipe _ _).symm p ext d1 ed rx
      exact this
    · obtain ⟨io2, b2, acc, vs, os, k, S2, eA, nA, rl, nd, nAo, fr, go⟩ := p.ex
      rw [List.drop_length] at go
      unfold lcGo at go
      cases go
      have kk := k1.trans k S.bl
      exact q _ H2 io2 (A :: os) kk (S1.move k S2) (.lstO eA nA rl) (List.nodup_cons.mpr ⟨nAo, nd⟩) fun a ha => by
        rcases List.mem_cons.mp ha with rfl | ha
        · exact fresh_back k1 S1 hA
        · exact fresh_back k1 S1 (fr a ha)
theorem de_lc {elt iter : Expr} {ifs : List Expr} {scope : Scope} {own : List (Str × Nat)} {pos : Pos} {t : Tg} {it : Ws} {co : Option Ev} {f : Ev} (hc : X.calm = true) (hN : X.N.Nodup) (hi : PI X tg iter (tI X.K it)) (ok : BlkOk X.N X.env.scope scope own) (hs : ∀ i ∈ t.slots, i ∈ own.map (·.2))
    (hg : ∀ (s : Shared) (H : Hp) (C : Addr) (cl : List (Str × Addr)) (fp : List Addr), PG (X.blk s H scope (compEnvC scope cl C X.env) fp) tg (tG X.K t)) (ht : ∀ (s : Shared) (H : Hp) (C : Addr) (cl : List (Str × Addr)) (fp : List Addr), PTs (X.blk s H scope (compEnvC scope cl C X.env) fp) ifs (tC? X.K co))
    (he : ∀ (s : Shared) (H : Hp) (C : Addr) (cl : List (Str × Addr)) (fp : List Addr), PE (X.blk s H scope (compEnvC scope cl C X.env) fp) elt (tV X.K f)) (hf : ∀ x, foldedSetIterable iter X.env x = pure x) :
    PE X (.ListComp elt [⟨tg, iter, ifs, 0⟩] scope pos) (tV X.K (eLc (own.map (·.2)) t it co f)) :=
  PE_wk (pe_lc hc hN hi ok hg ht he hf) fun σ H Q h => lc_reads hs h
end
end HF
namespace HF
open PySem PySem.Spec L2
open PyProof.Rows hiding St
def putD (kvs : List (DK × D)) (k : DK) (d : D) : List (DK × D) := if (kvs.any fun p => decide (p.1 = k)) = true then kvs.map (fun p => if p.1 = k then (p.1, d) else p) else kvs ++ [(k, d)]
def dcGo (t : Tg) (r : Env) (cond : Option Ev) (fk fv : Ev) : List D → List (DK × D) → M D
  | [], acc => ret (.dct true acc)
  | x :: xs, acc => match bindT t x r with
    | none => fail
    | some r' => match cond with
      | none => if acc.length < PySem.sizeLine then bnd (fk r') fun dk => bnd (fv r') fun d => match keyOf dk with
          | some k => dcGo t r cond fk fv xs (putD acc k d)
          | none => fail
        else fail
      | some c => bnd (c r') fun b => match b with
        | .bl true => if acc.length < PySem.sizeLine then bnd (fk r') fun dk => bnd (fv r') fun d => match keyOf dk with
            | some k => dcGo t r cond fk fv xs (putD acc k d)
            | none => fail
          else fail
        | .bl false => dcGo t r cond fk fv xs acc
        | _ => fail
section
variable {X : Cx} {tg : Expr}
theorem RpK.len {K : PySem.W.Frag} {H : Hp} {io : List Addr} : ∀ {ds : List (DK × D)} {vs : List (DK × V)} {os : List Addr}, RpK K H io ds vs os → ds.length = vs.length
  | _, _, _, .nil => rfl
  | _, _, _, .cons _ _ r => by simpa using r.len
theorem keyDK_inj {a b : Key} (h : keyDK a = keyDK b) : a = b := by
  cases a <;> cases b <;> simp [keyDK] at h <;> simp [h]
theorem RpK.map {K : PySem.W.Frag} {H : Hp} {io : List Addr} {k : Key} {d : D} {v : V} (x : Rp K H io d v []) : ∀ {ds : List (DK × D)} {ks : List (Key × V)}, RpK K H io ds (ks.map fun p => (keyDK p.1, p.2)) [] → RpK K H io (ds.map fun p => if p.1 = keyDK k then (p.1, d) else p) ((ks.map fun kv => if kv.1 = k then (kv.1, v) else kv).map fun p => (keyDK p.1, p.2)) [] ∧ (ds.any fun p => decide (p.1 = keyDK k)) = ks.any fun kv => decide (kv.1 = k)
  | ds, [], h => by
    cases h
    exact ⟨.nil, rfl⟩
  | ds, (j, w) :: ks, h => by
    generalize hq : ([] : List Addr) = q at h
    cases h with
    | cons hj h r =>
      rename_i d1 ds o1 o2
      obtain ⟨z1, z2⟩ := List.append_eq_nil_iff.mp hq.symm
      subst z1 z2
      obtain ⟨i1, i2⟩ := RpK.map (k := k) x r
      by_cases e : j = k
      · subst e
        refine ⟨?_, by simp [i2]⟩
        simp only [List.map_cons, if_true]
        exact .cons (os := []) (ps := []) hj x i1
      · have e' : ¬ keyDK j = keyDK k := fun z => e (keyDK_inj z)
        refine ⟨?_, by simp [i2, e, e']⟩
        simp only [List.map_cons, if_neg e, if_neg e']
        exact .cons (os := []) (ps := []) hj h i1
theorem RpK.app {K : PySem.W.Frag} {H : Hp} {io : List Addr} {k : DK} {d : D} {v : V} (hk : okK k = true) (x : Rp K H io d v []) : ∀ {ds : List (DK × D)} {vs : List (DK × V)}, RpK K H io ds vs [] → RpK K H io (ds ++ [(k, d)]) (vs ++ [(k, v)]) []
  | ds, [], h => by
    cases h
    exact .cons (os := []) (ps := []) hk x .nil
  | ds, (j, w) :: vs, h => by
    generalize hq : ([] : List Addr) = q at h
    cases h with
    | cons hj h r =>
      obtain ⟨z1, z2⟩ := List.append_eq_nil_iff.mp hq.symm
      subst z1 z2
      exact .cons (os := []) (ps := []) hj h (RpK.app hk x r)
theorem RpK.put {K : PySem.W.Frag} {H : Hp} {io : List Addr} {k : Key} {d : D} {v : V} (hk : okK (keyDK k) = true) (x : Rp K H io d v []) {ds : List (DK × D)} {ks : List (Key × V)} (h : RpK K H io ds (ks.map fun p => (keyDK p.1, p.2)) []) : RpK K H io (putD ds (keyDK k) d) ((putK ks k v).map fun p => (keyDK p.1, p.2)) [] := by
  obtain ⟨i1, i2⟩ := h.map (k := k) x
  unfold putD putK
  rw [i2]
  split
  · exact i1
  · rw [List.map_append]
    exact h.app hk x
theorem Rp.keyK {K : PySem.W.Frag} {H : Hp} {io : List Addr} {d : D} {v : V} {os : List Addr} {q : DK} (h : Rp K H io d v os) (e : keyOf d = some q) : ∃ k : Key, v = kV k ∧ q = keyDK k ∧ okK q = true := by
  cases h <;> first | cases e | skip
  · exact ⟨.inl _, rfl, rfl, rfl⟩
  · exact ⟨.inr _, rfl, rfl, by assumption⟩
structure DcI (K : PySem.W.Frag) (t : Tg) (co : Option Ev) (fk f : Ev) (ds : List D) (r0 : Env) (σ0 : St) (o0 : List (List Addr)) (io1 : List Addr) (H1 : Hp) (A : Addr) (res : D) (bf : Bx) (i : Nat) (H : Hp) : Prop where
  ex : ∃ io b acc ks, Kp io1 H1 io H ∧ SR K io b r0 o0 σ0 H ∧ H A = some (.dK ks) ∧ A ∉ io ∧ RpK K H io acc (ks.map fun p => (keyDK p.1, p.2)) [] ∧ dcGo t r0 co fk f (ds.drop i) acc b = some (res, bf)
end
end HF
namespace HF
open PySem PySem.Spec L2
open PyProof.Rows hiding St
def EndN (K : PySem.W.Frag) (io0 : List Addr) (H0 : Hp) (io : List Addr) (H : Hp) (r' : Env) (b' : Bx) (P : St → Hp → Prop) : Prop :=
  ∀ (σ' : St) (H' : Hp) (io' : List Addr) (oss' : List (List Addr)), SR K io' b' r' oss' σ' H' → Kp io0 H0 io' H' → Kf io H io' H' → (∀ a ∈ oss'.flatten, H0 a = none) → P σ' H'
def EndR (K : PySem.W.Frag) (io0 : List Addr) (H0 : Hp) (d : D) (b' : Bx) (P : VK) : Prop :=
  ∀ (v : V) (H' : Hp) (io' os : List Addr), SR K io' b' [] [] [] H' → Kp io0 H0 io' H' → Rp K H' io' d v os → os.Nodup → (∀ a ∈ os, H0 a = none) → P v H'
def EndF (K : PySem.W.Frag) (io0 : List Addr) (H0 : Hp) (io : List Addr) (H : Hp) (D : Ends) (b' : Bx) : Fl → Env → Prop
  | .nx, r' => EndN K io0 H0 io H r' b' D.nx
  | .bk, r' => EndN K io0 H0 io H r' b' D.bk
  | .ct, r' => EndN K io0 H0 io H r' b' D.ct
  | .rt d, _ => EndR K io0 H0 d b' D.rt
structure At (K : PySem.W.Frag) (io0 : List Addr) (H0 : Hp) (io : List Addr) (b : Bx) (r : Env) (oss : List (List Addr)) (σ : St) (H : Hp) : Prop where
  sr : SR K io b r oss σ H
  kp : Kp io0 H0 io H
  bl : BL io0 H0
  fr : ∀ a ∈ oss.flatten, H0 a = none
def tD (K : PySem.W.Frag) (sv : Sv) : TS := fun D σ H => ∃ io0 H0 io b r oss, At K io0 H0 io b r oss σ H ∧ ∃ fl r' b', sv r b = some ((fl, r'), b') ∧ EndF K io0 H0 io H D b' fl r'
theorem SR.bare {K : PySem.W.Frag} {io : List Addr} {b : Bx} {r : Env} {oss : List (List Addr)} {σ : St} {H : Hp} (S : SR K io b r oss σ H) : SR K io b [] [] [] H := ⟨S.len, S.bx, S.nd, .nil, List.nodup_nil⟩
theorem EndN.mono {K : PySem.W.Frag} {io0 io io1 : List Addr} {H0 H H1 : Hp} {r' : Env} {b' : Bx} {P : St → Hp → Prop} (h : EndN K io0 H0 io H r' b' P) (k : Kf io H io1 H1) : EndN K io0 H0 io1 H1 r' b' P := fun σ' H' io' oss' S k0 kf fr => h σ' H' io' oss' S k0 (k.trans kf) fr
theorem EndF.mono {K : PySem.W.Frag} {io0 io io1 : List Addr} {H0 H H1 : Hp} {D : Ends} {b' : Bx} {fl : Fl} {r' : Env} (h : EndF K io0 H0 io H D b' fl r') (k : Kf io H io1 H1) : EndF K io0 H0 io1 H1 D b' fl r' := by
  cases fl with
  | nx => exact EndN.mono h k
  | bk => exact EndN.mono h k
  | ct => exact EndN.mono h k
  | rt d => exact h
section
variable {X : Cx}
theorem ds_nil : PSs X [] (tD X.K sNx) := PSs_wk pss_nil fun D σ H ⟨io0, H0, io, b, r, oss, A, fl, r', b', e, q⟩ => by
  cases e
  exact q σ H io oss A.sr A.kp (Kf.refl _ _) A.fr
theorem ds_one {s : Stmt} {f : Sv} (h : PS X s (tD X.K f)) : PSs X [s] (tD X.K f) := pss_one h
theorem ds_cons {s : Stmt} {rest : List Stmt} {f g : Sv} (h : PS X s (tD X.K f)) (h2 : PSs X rest (tD X.K g)) : PSs X (s :: rest) (tD X.K (sSeq f g)) :=
  PSs_wk (pss_cons h h2) fun D σ H ⟨io0, H0, io, b, r, oss, A, fl, r', b', e, q⟩ => by
    obtain ⟨⟨fl1, r1⟩, b1, e1, e2⟩ := bnd_some e
    refine ⟨io0, H0, io, b, r, oss, A, fl1, r1, b1, e1, ?_⟩
    cases fl1 with
    | nx =>
      intro σ1 H1 io1 oss1 S1 k1 kf1 fr1
      exact ⟨io0, H0, io1, b1, r1, oss1, ⟨S1, k1, A.bl, fr1⟩, fl, r', b', e2, q.mono kf1⟩
    | bk => cases e2; exact q
    | ct => cases e2; exact q
    | rt d => cases e2; exact q
theorem SR.setF {K : PySem.W.Frag} {io : List Addr} {b : Bx} {r : Env} {oss : List (List Addr)} {σ : St} {H : Hp} {i : Nat} {d : D} {v : V} (S : SR K io b r oss σ H) (x : Rp K H io d v []) : ∃ oss', SR K io b (r.set i (.sh d)) oss' (σ.set i (some v)) H ∧ ∀ a ∈ oss'.flatten, a ∈ oss.flatten := by
  by_cases hi : i < r.length
  · exact ⟨_, S.setS x hi, fun a ha => (mem_set_flat ha).elim (fun z => nomatch z) id⟩
  · refine ⟨oss, ?_, fun _ h => h⟩
    rw [List.set_eq_of_length_le (by omega), List.set_eq_of_length_le (by rw [← S.sl.lens.1]; omega)]
    exact S
theorem SR.setO {K : PySem.W.Frag} {io : List Addr} {b : Bx} {r : Env} {oss : List (List Addr)} {σ : St} {H : Hp} {i : Nat} {d : D} {v : V} {os : List Addr} (S : SR K io b r oss σ H) (x : Rp K H io d v os) (n : os.Nodup) (h2 : ∀ a ∈ os, a ∉ oss.flatten) : ∃ oss', SR K io b (r.set i (.ow d)) oss' (σ.set i (some v)) H ∧ ∀ a ∈ oss'.flatten, a ∈ os ∨ a ∈ oss.flatten := by
  by_cases hi : i < r.length
  · exact ⟨_, S.set x n h2 hi, fun a ha => mem_set_flat ha⟩
  · refine ⟨oss, ?_, fun _ h => .inr h⟩
    rw [List.set_eq_of_length_le (by omega), List.set_eq_of_length_le (by rw [← S.sl.lens.1]; omega)]
    exact S
theorem SR.apart {K : PySem.W.Frag} {io : List Addr} {b : Bx} {r : Env} {oss : List (List Addr)} {σ : St} {H : Hp} (S : SR K io b r oss σ H) {os : List Addr} (f : ∀ a ∈ os, H a = none) : ∀ a ∈ os, a ∉ oss.flatten := fun a ha hm => by
  obtain ⟨_, u, e, _⟩ := S.sl.ownd S.bl a hm
  rw [f a ha] at e; cases e
theorem ds_set {i : Nat} {x : Str} {e : Expr} {f : Ev} {pos pos' : Pos} (hN : X.N.Nodup) (hi : X.N[i]? = some x) (hx : Loc X.env.scope x) (he : PE X e (tS X.K f)) (hs : swapsWith e (some (.Name x pos')) pos.line X.env = pure false) (hf : X.fn x = true ∨ X.env.scope.names.lookup x = some .local) :
    PS X (.Assign [.Name x pos'] e pos) (tD X.K (sSet i f)) :=
  PS_wk (ps_set hN hi hx he hs hf) fun D σ H ⟨io0, H0, io, b, r, oss, A, fl, r', b', e, q⟩ => by
    obtain ⟨d, b1, e1, e2⟩ := bnd_some e
    cases e2
    refine ⟨io, b, r, oss, A.sr, d, _, e1, fun v H1 io1 k1 S1 rx => ?_⟩
    obtain ⟨oss2, S2, ho⟩ := S1.setF (i := i) rx
    exact q _ H1 io1 oss2 S2 (A.kp.trans k1 A.bl) (k1.kf A.sr.bl) fun a ha => A.fr a (ho a ha)
theorem RpL.consI {K : PySem.W.Frag} {H : Hp} {io : List Addr} {d : D} {ds : List D} {vs : List V} {os : List Addr} (h : RpL K H io (d :: ds) vs os) : ∃ v ws o1 o2, vs = v :: ws ∧ os = o1 ++ o2 ∧ Rp K H io d v o1 ∧ RpL K H io ds ws o2 := by
  cases h with
  | cons h r => exact ⟨_, _, _, _, rfl, rfl, h, r⟩
def putS (o : Bool) (i : Nat) (d : D) (r : Env) : Option Env := if o then some (r.set i (.ow d)) else if still d then some (r.set i (.sh d)) else none
def sPar (i : Nat) (oi : Bool) (j : Nat) (oj : Bool) (f g : Ev) : Sv := fun r => bnd (evs [f, g] r) fun ds => match ds with
  | [d, e] => match putS oi i d r with
    | some r1 => match putS oj j e r1 with
      | some r2 => ret (.nx, r2)
      | none => fail
    | none => fail
  | _ => fail
theorem SR.putS {K : PySem.W.Frag} {io : List Addr} {b : Bx} {r r' : Env} {oss : List (List Addr)} {σ : St} {H : Hp} {i : Nat} {o : Bool} {d : D} {v : V} {os : List Addr} (S : SR K io b r oss σ H) (x : Rp K H io d v os) (n : os.Nodup) (h2 : ∀ a ∈ os, a ∉ oss.flatten) (e : HF.putS o i d r = some r') : ∃ oss', SR K io b r' oss' (σ.set i (some v)) H ∧ ∀ a ∈ oss'.flatten, a ∈ os ∨ a ∈ oss.flatten := by
  unfold HF.putS at e
  split at e
  · cases e
    exact S.setO x n h2
  · split at e
    · rename_i hs
      cases e
      obtain rfl := x.still_nil hs
      obtain ⟨o2, S2, h⟩ := S.setF (i := i) x
      exact ⟨o2, S2, fun a ha => .inr (h a ha)⟩
    · cases e
theorem ds_par {i j : Nat} {oi oj : Bool} {x y : Str} {a c : Expr} {f g : Ev} {px py pt pos : Pos} {kt k2 pt2} (hc : X.calm = true) (hN : X.N.Nodup) (hi : X.N[i]? = some x) (hj : X.N[j]? = some y) (hij : i ≠ j)
    (hx : X.env.scope.names.lookup x = some .local) (hy : X.env.scope.names.lookup y = some .local) (ha : PA X [a, c] (tAV X.K [f, g]))
    (hw : swappedStores [.Tuple [.Name x px, .Name y py] kt pt] (.Tuple [a, c] k2 pt2) X.env = pure (some [x, y]))
    (hs : swapsWithSole [.Tuple [.Name x px, .Name y py] kt pt] (.Tuple [a, c] k2 pt2) pos.line X.env = pure false) :
    PS X (.Assign [.Tuple [.Name x px, .Name y py] kt pt] (.Tuple [a, c] k2 pt2) pos) (tD X.K (sPar i oi j oj f g)) :=
  PS_wk (ps_par hc hN hi hj hij hx hy ha hw hs) fun D σ H ⟨io0, H0, io, b, r, oss, A, fl, r', b', e, q⟩ => by
    obtain ⟨ds, b1, e1, e2⟩ := bnd_some e
    refine ⟨io, b, r, oss, A.sr, ds, b1, e1, fun vs H1 io1 os k1 S1 rl n f => ?_⟩
    match ds, e2, rl, e1 with
    | [d, d2], e2, rl, _ =>
      dsimp only at e2
      cases h1 : putS oi i d r with
      | none => rw [h1] at e2; cases e2
      | some r1 =>
        rw [h1] at e2
        dsimp only at e2
        cases h2 : putS oj j d2 r1 with
        | none => rw [h2] at e2; cases e2
        | some r2 =>
          rw [h2] at e2
          cases e2
          obtain ⟨v, ws, o1, o2, rfl, rfl, x, rl⟩ := rl.consI
          obtain ⟨w, ws, o2, o3, rfl, rfl, y, rl⟩ := rl.consI
          cases rl
          rw [List.append_nil] at n f
          obtain ⟨n1, n2, n3⟩ := List.nodup_append.mp n
          have f1 : ∀ a ∈ o1, H a = none := fun a ha => f a (List.mem_append_left _ ha)
          have f2 : ∀ a ∈ o2, H a = none := fun a ha => f a (List.mem_append_right _ ha)
          obtain ⟨p1, S2, m2⟩ := S1.putS x n1 (A.sr.apart f1) h1
          obtain ⟨p2, S3, m3⟩ := S2.putS y n2 (fun a ha hm => (m2 a hm).elim (fun z => n3 a z a ha rfl) (A.sr.apart f2 a ha)) h2
          refine ⟨v, w, rfl, q _ H1 io1 p2 S3 (A.kp.trans k1 A.bl) (k1.kf A.sr.bl) fun a ha => ?_⟩
          rcases m3 a ha with z | z
          · exact fresh_back A.kp A.sr (f2 a z)
          · rcases m2 a z with z | z
            · exact fresh_back A.kp A.sr (f1 a z)
            · exact A.fr a z
theorem ds_ret {e : Expr} {f : Ev} {pos : Pos} (he : PE X e (tV X.K f)) : PS X (.Return (some e) pos) (tD X.K (sRet f)) :=
  PS_wk (ps_ret he) fun D σ H ⟨io0, H0, io, b, r, oss, A, fl, r', b', e, q⟩ => by
    obtain ⟨d, b1, e1, e2⟩ := bnd_some e
    cases e2
    exact ⟨io, b, r, oss, A.sr, d, _, e1, fun v H1 io1 os k1 S1 rx n f => q v H1 io1 os S1.bare (A.kp.trans k1 A.bl) rx n fun a ha => fresh_back A.kp A.sr (f a ha)⟩
theorem mem_flat {oss : List (List Addr)} {i : Nat} {os : List Addr} (h : oss[i]? = some os) : (∀ a ∈ os, a ∈ oss.flatten) ∧ (oss.flatten.Nodup → os.Nodup) := by
  have hm := List.mem_of_getElem? h
  exact ⟨fun a ha => List.mem_flatten.mpr ⟨os, hm, ha⟩, fun n => (List.pairwise_flatten.mp n).1 os hm⟩
theorem ds_retV {i : Nat} {x : Str} {pos pos' : Pos} (hN : X.N[i]? = some x) (hv : Vis X.env.scope x) (hd : (x == ("__debug__" : Str)) = false) (hcd : (x == ("__classdict__" : Str)) = false) : PS X (.Return (some (.Name x pos')) pos) (tD X.K (sRetV i)) :=
  PS_wk (ps_ret (pe_var hN hv hd hcd)) fun D σ H ⟨io0, H0, io, b, r, oss, A, fl, r', b', e, q⟩ => by
    unfold sRetV at e
    cases hr : r[i]? with
    | none => rw [hr] at e; cases e
    | some sl =>
      rw [hr] at e
      rcases A.sr.sl.get hr with rfl | ⟨d', v, rfl, hv, hx⟩ | ⟨d', v, os, rfl, hv, ho, hx⟩
      · cases e
      · cases e
        exact ⟨v, hv, q v H io [] A.sr.bare A.kp hx List.nodup_nil nil_all⟩
      · cases e
        obtain ⟨m1, m2⟩ := mem_flat ho
        exact ⟨v, hv, q v H io os A.sr.bare A.kp hx (m2 A.sr.od) fun a ha => A.fr a (m1 a ha)⟩
theorem ds_if {c : Expr} {a z : List Stmt} {fc : Ev} {f g : Sv} {pos : Pos} (hc : PT X c (tT X.K fc)) (ha : PSs X a (tD X.K f)) (hb : PSs X z (tD X.K g)) : PS X (.If c a z pos) (tD X.K (sIf fc f g)) :=
  PS_wk (ps_if hc ha hb) fun D σ H ⟨io0, H0, io, b, r, oss, A, fl, r', b', e, q⟩ => by
    obtain ⟨d, b1, e1, e2⟩ := bnd_some e
    cases d <;> first | cases e2 | skip
    rename_i k
    refine ⟨io, b, r, oss, A.sr, k, b1, e1, fun H1 io1 k1 S1 => ?_⟩
    have A1 : At X.K io0 H0 io1 b1 r oss σ H1 := ⟨S1, A.kp.trans k1 A.bl, A.bl, A.fr⟩
    cases k with
    | true => exact ⟨io0, H0, io1, b1, r, oss, A1, fl, r', b', e2, q.mono (k1.kf A.sr.bl)⟩
    | false => exact ⟨io0, H0, io1, b1, r, oss, A1, fl, r', b', e2, q.mono (k1.kf A.sr.bl)⟩
theorem ds_for {tg iter : Expr} {body : List Stmt} {t : Tg} {it : Ws} {f : Sv} {pos : Pos} (hp : PassesOwn (model X.prog X.w) X.A X.env X.xe) (hc : X.calm = true) (hi : PI X tg iter (tI X.K it)) (hg : PG X tg (tG X.K t)) (hb : PSs X body (tD X.K f))
    (hs : ∀ x, foldedSetIterable iter X.env x = pure x) : PS X (.For tg iter body [] pos) (tD X.K (sFor t it f)) :=
  PS_wk (ps_for hp hc hi hg hb hs) fun D σ H ⟨io0, H0, io, b, r, oss, A, fl, r', b', e, q⟩ => by
    obtain ⟨ds, b1, e1, e2⟩ := bnd_some e
    refine ⟨io, b, r, oss, A.sr, ds, b1, e1, fun J H1 io1 k1 S1 fd => ?_⟩
    have A1 : At X.K io0 H0 io1 b1 r oss σ H1 := ⟨S1, A.kp.trans k1 A.bl, A.bl, A.fr⟩
    have q1 := q.mono (k1.kf A.sr.bl)
    refine for_it fd (fun i σ2 H2 => ∃ io2 b2 r2 oss2, At X.K io0 H0 io2 b2 r2 oss2 σ2 H2 ∧ Kf io1 H1 io2 H2 ∧ forGo t f (ds.drop i) r2 b2 = some ((fl, r'), b')) ?_ (fun i σ2 H2 _ p => ?_) (fun i x σ2 H2 H3 hlt p y => ?_) fun σ2 H2 p => ?_
    · exact ⟨io1, b1, r, oss, A1, Kf.refl _ _, e2⟩
    · obtain ⟨io2, _, _, _, _, k, _⟩ := p
      exact ⟨io2, k⟩
    · obtain ⟨io2, b2, r2, oss2, A2, k2, go⟩ := p
      obtain ⟨ext, d, ed, rx⟩ := y
      have hdr : ds.drop i = d :: ds.drop (i + 1) := by
        obtain ⟨hi, e⟩ := List.getElem?_eq_some_iff.mp ed
        rw [List.drop_eq_getElem_cons hi, e]
      rw [hdr] at go
      unfold forGo at go
      cases hb : bindT t d r2 with
      | none => rw [hb] at go; cases go
      | some r3 =>
        rw [hb] at go
        dsimp only at go
        obtain ⟨⟨fl3, r4⟩, b4, g1, g2⟩ := bnd_some go
        have kk : Kp io2 H2 io2 H3 := Kp.of ext
        have S3 := A2.sr.later ext
        refine ⟨io2, b2, r2, oss2, d, r3, S3, rx io2 k2 A2.sr.bl, hb, fun σ4 o4 S4 ho _ => ?_⟩
        have k03 : Kp io0 H0 io2 H3 := A2.kp.trans kk A2.bl
        have k13 : Kf io1 H1 io2 H3 := k2.trans (kk.kf A2.sr.bl)
        refine ⟨io0, H0, io2, b2, r3, o4, ⟨S4, k03, A2.bl, fun a ha => A2.fr a (ho a ha)⟩, fl3, r4, b4, g1, ?_⟩
        cases fl3 with
        | nx => exact fun σ5 H5 io5 o5 S5 k05 k35 fr5 => ⟨io5, b4, r4, o5, ⟨S5, k05, A2.bl, fr5⟩, k13.trans k35, g2⟩
        | ct => exact fun σ5 H5 io5 o5 S5 k05 k35 fr5 => ⟨io5, b4, r4, o5, ⟨S5, k05, A2.bl, fr5⟩, k13.trans k35, g2⟩
        | bk => cases g2; exact fun σ5 H5 io5 o5 S5 k05 k35 fr5 => q1 σ5 H5 io5 o5 S5 k05 (k13.trans k35) fr5
        | rt d => cases g2; exact q1
    · obtain ⟨io2, b2, r2, oss2, A2, k2, go⟩ := p
      rw [List.drop_length] at go
      cases go
      exact q1 σ2 H2 io2 oss2 A2.sr A2.kp k2 A2.fr
end
end HF
namespace HF
open PySem PySem.Spec L2
open PyProof.Rows hiding St
abbrev CXn : CXT := fun _ _ _ _ _ _ => False
structure FnG (P : Program) (w : World) (K : PySem.W.Frag) (mg : Str → Option Value) (base : Heap) (k : Nat) (f : Addr) (fd : FuncData) (ps : List Str) (sp : Sp) : Prop where
  len : ∀ vs H Q E, sp vs H Q E → vs.length = ps.length
  run : ∀ (A : Around) (outer : List PySem.Env) (s : Shared) (H : Hp) (args : Args) (us : List Value) (vs : List V) (Q : VK) (E : XK), A.guards = some [] → Room k A →
    Env0 P w K mg base A outer s H → BindsTo s fd args (ps.zip us) → Vals vs us → sp vs H Q E → codeAny (model P w) A (.call (.ref f) args) (CR CXn outer P w H s Q E) s
theorem FnG.mono {P : Program} {w : World} {K : PySem.W.Frag} {mg : Str → Option Value} {base : Heap} {j k : Nat} {f : Addr} {fd : FuncData} {ps : List Str} {sp : Sp}
    (F : FnG P w K mg base j f fd ps sp) (h : j ≤ k) : FnG P w K mg base k f fd ps sp :=
  ⟨F.len, fun A outer s H args us vs Q E hg hr => F.run A outer s H args us vs Q E hg (hr.mono h)⟩
def spF (K : PySem.W.Frag) (fn : Fn) (n : Nat) : Sp := fun vs H Q _ => ∃ io b ds d b', SR K io b [] [] [] H ∧ RpL K H io ds vs [] ∧ ds.length = n ∧ fn ds b = some (d, b') ∧
  ∀ (v : V) (H' : Hp) (io' os : List Addr), Kp io H io' H' → SR K io' b' [] [] [] H' → Rp K H' io' d v os → os.Nodup → (∀ a ∈ os, H a = none) → Q v H'
theorem spF.len {K : PySem.W.Frag} {fn : Fn} {n : Nat} : ∀ vs H Q E, spF K fn n vs H Q E → vs.length = n := fun vs H Q E ⟨_, _, _, _, _, _, r, h, _⟩ => by rw [← r.length]; exact h
theorem start_rp {K : PySem.W.Frag} {H : Hp} {io : List Addr} {m : Nat} : ∀ {ds : List D} {vs : List V}, RpL K H io ds vs [] → RpE K H io (ds.map Sl.sh ++ List.replicate m Sl.no) (vs.map some ++ List.replicate m none) (List.replicate (ds.length + m) [])
  | [], vs, h => by
    obtain rfl := h.zero
    simp only [List.map_nil, List.nil_append, List.length_nil, Nat.zero_add]
    induction m with
    | zero => exact .nil
    | succ m ih => exact .no ih
  | d :: ds, vs, h => by
    obtain ⟨v, ws, rfl, x, r⟩ := h.one
    have := start_rp (m := m) r
    rw [show (d :: ds).length + m = (ds.length + m) + 1 by simp; omega]
    exact .sh x this
theorem flat_nil : ∀ n : Nat, (List.replicate n ([] : List Addr)).flatten = []
  | 0 => rfl
  | n + 1 => by rw [List.replicate_succ, List.flatten_cons, flat_nil n]; rfl
section
variable {P : Program} {w : World} {K : PySem.W.Frag} {mg : Str → Option Value} {base : Heap}
theorem fn_g {k : Nat} {f : Addr} {name qual : Str} {params : Arguments} {body : List Stmt} {scope : Scope} {dV kV doc pm cdv ct oc : Value} {an od : Option Addr} {osl : Array (Option Value)} {N ps : List Str} {sv : Sv} (n : Nat)
    (lk : K.lookup f = some ⟨oc, od, .func (PySem.W.fnOf name qual params body scope dV kV doc pm an cdv ct), osl⟩) (hcd : PySem.W.codeIn K cdv qual = true) (S : FnScope N ps scope) (hn : N.length = ps.length + n)
    (hbody : ∀ (A : Around) (outer : List PySem.Env) (s : Shared) (H : Hp) (E : XK), A.guards = some [] → Room k (A.deeper (envOfC qual scope s.heap.objs.size f cdv)) → PSs (cxOf CXn P w K mg base N qual scope f cdv A outer s H E).nox body (tD K sv)) :
    FnG P w K mg base (k + 1) f (PySem.W.fnOf name qual params body scope dV kV doc pm an cdv ct) ps (spF K (runFn n sv) ps.length) := by
  refine ⟨spF.len, fun A outer s H args us vs Q E hg hr e0 hb r hsp => ?_⟩
  have hl := spF.len _ _ _ _ hsp
  have inK : K.In s.heap := e0.mod.kin.keeps fun b o e => (e0.bs b o e).1
  have noL : s.heap.NoLimit := e0.mod.nolimit.keeps fun b o e => (e0.bs b o e).1
  refine codeAny_call_function hr.depth (inK _ _ lk) rfl S.co S.gen rfl (PySem.W.codeRec_of inK hcd) (hb _ _ _ _ ?_)
  refine wpAny_newFunctionEnv_cells S.kind (fun y hy => (S.par y.1 (List.of_mem_zip hy).1).imp id fun q => ⟨q, PySem.W.cellsFrom_some _ _ _ (.inl q)⟩) fun env he s1 x => ?_
  subst he
  refine ⟨noL.keeps x.toInCall.keep, codeAny_func ?_⟩
  have I := inv_start (CX := CXn) (E := E) S hr.hd e0 hl r x
  obtain ⟨io, b, ds, d, b', S0, rl, hlen, e, q⟩ := hsp
  have hv : vs.length = ds.length := rl.length.symm
  have hst : L2.start N vs = vs.map some ++ List.replicate n none := by
    unfold L2.start
    rw [show N.length - vs.length = n by omega]
  have hS : SR K io b (ds.map Sl.sh ++ List.replicate n Sl.no) (List.replicate (ds.length + n) []) (L2.start N vs) H := ⟨S0.len, S0.bx, S0.nd, hst ▸ start_rp rl, by rw [flat_nil]; exact List.nodup_nil⟩
  obtain ⟨⟨fl, r'⟩, b1, e1, e2⟩ := bnd_some e
  have hq : tD K sv { nx := fun _ H' => Q .non H', rt := Q } (L2.start N vs) H := by
    refine ⟨io, H, io, b, _, _, ⟨hS, Kp.refl _ _, S0.bl, fun a ha => by rw [flat_nil] at ha; cases ha⟩, fl, r', b1, e1, ?_⟩
    cases fl with
    | nx =>
      cases e2
      exact fun σ' H' io' oss' S' k0 _ _ => q .non H' io' [] k0 S'.bare .non List.nodup_nil nil_all
    | rt d0 =>
      cases e2
      exact fun v H' io' os S' k0 rx nd fr => q v H' io' os k0 S' rx nd fr
    | bk => cases e2
    | ct => cases e2
  refine wpAny_mono ((hbody A outer s H E hg (hr.deeper _)).nox.run [] s1 (L2.start N vs) H _ I hq) (fun fl s' hs => ?_) fun e s' hs => hs
  cases fl with
  | ret u =>
    obtain ⟨v, σ', H', J, rv, q⟩ := hs
    exact ⟨v, H', J.os, J.bare, J.base, J.hok, rv, q⟩
  | next =>
    obtain ⟨σ', H', J, q⟩ := hs
    exact ⟨.non, H', J.os, J.bare, J.base, J.hok, rfl, q⟩
  | brk => exact hs.choose_spec.choose_spec.2.elim
  | cont => exact hs.choose_spec.choose_spec.2.elim
end
section
variable {X : Cx} {k : Nat} {f : Addr} {fd : FuncData} {ps : List Str} {fn : Fn} {x : Str} {p pos : Pos} {e : Expr} {es : List Expr}
def pick {α : Type} (idx : List Nat) (xs : List α) : List α := idx.filterMap fun i => xs[i]?
theorem Vals.pick {vs : List V} {us : List Value} (h : Vals vs us) : ∀ idx : List Nat, Vals (HF.pick idx vs) (HF.pick idx us)
  | [] => .nil
  | i :: idx => by
    unfold HF.pick
    have ih := Vals.pick h idx
    cases e : vs[i]? with
    | none =>
      have e2 : us[i]? = none := by
        rw [List.getElem?_eq_none_iff] at e ⊢
        rw [← h.length]; exact e
      rw [List.filterMap_cons_none e, List.filterMap_cons_none e2]
      exact ih
    | some v =>
      obtain ⟨u, e2, r⟩ := h.get e
      rw [List.filterMap_cons_some e, List.filterMap_cons_some e2]
      exact .cons r ih
theorem RpL.pick {K : PySem.W.Frag} {H : Hp} {io : List Addr} {ds : List D} {vs : List V} (h : RpL K H io ds vs []) : ∀ idx : List Nat, RpL K H io (HF.pick idx ds) (HF.pick idx vs) []
  | [] => .nil
  | i :: idx => by
    unfold HF.pick
    have ih := RpL.pick h idx
    cases e : vs[i]? with
    | none =>
      have e2 : ds[i]? = none := by
        rw [List.getElem?_eq_none_iff] at e ⊢
        rw [h.length]; exact e
      rw [List.filterMap_cons_none e, List.filterMap_cons_none e2]
      exact ih
    | some v =>
      obtain ⟨d, e2, r⟩ := h.get0 e
      rw [List.filterMap_cons_some e, List.filterMap_cons_some e2]
      exact .cons (os := []) (ps := []) r ih
theorem evs_len : ∀ {fs : List Ev} {r : Env} {b b' : Bx} {ds : List D}, evs fs r b = some (ds, b') → ds.length = fs.length
  | [], _, _, _, _, e => by cases e; rfl
  | f :: fs, _, _, _, _, e => by
    obtain ⟨d1, b2, g1, g2⟩ := bnd_some e
    obtain ⟨ds2, b3, g3, g4⟩ := bnd_some g2
    cases g4
    simpa using evs_len g3
theorem go_fn {sp : Sp} {pins : List (Addr × Obj)} {σ : St} {H : Hp} {s : Shared} {Q : VK} {us : List Value} {kw : List (Str × Value)} {as : List Value} {vs : List V} (F : FnG X.prog X.w X.K X.mg X.base k f fd ps sp) (hg : X.A.guards = some []) (hr : Room k X.A)
    (hb : BindsTo s fd ⟨us, kw⟩ (ps.zip as)) (I : Inv X pins σ H s) (r : Vals vs as) (h : sp vs H Q E0) : wpAny (model X.prog X.w) X.A (call (.ref f) us kw) (EP X pins σ Q) X.xe s := by
  refine wpAny_call (codeAny_mono (F.run X.A X.stack s H ⟨us, kw⟩ as vs Q E0 hg hr I.env0 hb r h) fun r s' hq => ?_)
  cases r with
  | error e => exact False.elim hq
  | ok fl =>
    cases fl with
    | ret u => exact I.after hq
    | next => exact False.elim hq
    | brk => exact False.elim hq
    | cont => exact False.elim hq
theorem sp_call {K : PySem.W.Frag} {io io1 : List Addr} {b b1 b' : Bx} {r : Env} {oss : List (List Addr)} {σ : St} {H H1 : Hp} {n : Nat} {ds : List D} {vs : List V} {d : D} {Q : VK} (S : SR K io b r oss σ H) (k1 : Kp io H io1 H1) (S1 : SR K io1 b1 r oss σ H1) (rl : RpL K H1 io1 ds vs []) (hn : ds.length = n) (e : fn ds b1 = some (d, b'))
    (q : ∀ (v : V) (H' : Hp) (io' os : List Addr), Kp io H io' H' → SR K io' b' r oss σ H' → Rp K H' io' d v os → os.Nodup → (∀ a ∈ os, H a = none) → Q v H') : spF K fn n vs H1 Q E0 :=
  ⟨io1, b1, ds, d, b', S1.bare, rl, hn, e, fun v H' io' os k2 S2 rx nd fr => q v H' io' os (k1.trans k2 S.bl) (S1.move k2 S2) rx nd fun a ha => fresh_back k1 S1 (fr a ha)⟩
theorem de_call {fs : List Ev} {n : Nat} (F : FnG X.prog X.w X.K X.mg X.base k f fd ps (spF X.K fn n)) (hg : X.A.guards = some []) (hr : Room k X.A) (hgl : Gl X x) (hm : X.mg x = some (.ref f)) (hk : PySem.W.keepIn X.K (.ref f) = true)
    (hb : ∀ (s : Shared) (us : List Value), X.K.In s.heap → us.length = n → BindsTo s fd ⟨us, []⟩ (ps.zip us)) (hn : fs.length = n) (ha : PA X (e :: es) (tAS X.K fs)) (hdb : (x == ("__debug__" : Str)) = false)
    (he : starEach (e :: es) X.env = (false, eval e X.env) :: starEach es X.env) (hpl : (backTo pos (starEach es X.env)).any (·.1) = false) : PE X (.Call (.Name x p) (e :: es) [] pos) (tV X.K (eCall fn fs)) := by
  refine ⟨fun pins s σ H Q I ⟨io, b, r, oss, S, d, b', e, q⟩ => ?_⟩
  obtain ⟨ds, b1, e1, e2⟩ := bnd_some e
  refine wpAny_Call_Name_kw (ld_glob I hgl hm ?_ hdb)
  refine PySem.W.callWith_K (h₀ := X.base) I.ok.mod.kin hk (thn (ha.run pos pins s σ H (fun vs H1 => ∃ io1, Kp io H io1 H1 ∧ SR X.K io1 b1 r oss σ H1 ∧ RpL X.K H1 io1 ds vs []) I ⟨io, b, r, oss, S, ds, b1, e1, fun vs H1 io1 k1 S1 rl => ⟨io1, k1, S1, rl⟩⟩) fun us s1 ⟨vs, H1, I1, rv, io1, k1, S1, rl⟩ => ⟨I1.kIn, ?_⟩) he hpl
  have hds : ds.length = n := (evs_len e1).trans hn
  exact go_fn F hg hr (hb s1 us I1.kIn (by rw [← rv.length, ← rl.length]; exact hds)) I1 rv (sp_call S k1 S1 rl hds e2 q)
end
end HF
namespace HF
open PySem PySem.Spec L2
open PyProof.Rows hiding St
theorem LK.of {K : PySem.W.Frag} {H : Hp} {a : Addr} {vs : List V} (hO : Only H) (h : SqL K H a vs) : LK K H a vs := by
  rcases h with (h | h) | h
  · rcases hO a with z | ⟨o, xs, z⟩
    · rw [h] at z; cases z
    · rw [h] at z; cases z
  · exact .inl h
  · exact .inr h
abbrev Told (s : Shared) (r : Result) (s' : Shared) : Prop := r = .ok (.ret (.bool true)) ∧ OldK s.heap s'.heap ∧ s'.os = s.os ∧ AllBare s'.gens
section
variable {P : Program} {w : World} {K : PySem.W.Frag} {mg mb : Str → Option Value} {k : Nat} {fa a : Addr} {fd : FuncData} {x : Str} {fn : Fn} {s : Shared} {vs : List Value} {ns : List Int}
theorem law_at (H : Hp) (inK : K.In s.heap) (hns : s.heap.Ns mainGlobals mg) (hb : s.heap.Ns builtinsNs mb) (hbb : ∀ x : Str, x ≠ "__name__" → mb x = bootBuiltins x) (hlim : s.heap.NoLimit) (hg : s.gens = #[])
    (ha : s.heap.get? a = some { cls := .type "list", data := .seq vs.toArray }) (hr : Room k callerA) (F : ∀ base : Heap, K.In base → base.Ns mainGlobals mg → FnG P w K mg base k fa fd [x] (spF K fn 1))
    (hbind : ∀ (s : Shared) (u : Value), BindsTo s fd ⟨[u], []⟩ [(x, u)]) (hp : ∃ b', fn [.scr ns] [] = some (.bl true, b'))
    (hO : Only H) (hS : SqL K H a (ns.map V.int)) (ok : HOk P w H s.heap) (hA : ∀ b, H b ≠ none → b = a) (hK : H a ≠ none → K.lookup a = none) :
    codeAny (model P w) callerA (.call (.ref fa) ⟨[.ref a], []⟩) (Told s) s := by
  have only : ∀ {b : Addr}, b ≠ a → H b = none := fun {b} n => Classical.byContradiction fun z => n (hA b z)
  have keepB : ∀ {b : Addr} {o : Obj}, s.heap.get? b = some o → (b = a → H a = none) → (hidT s.heap H).get? b = some o := fun {b o} e n => hidT_get e (by
    by_cases hb : b = a
    · rw [hb]; exact n hb
    · exact only hb)
  have keepN : ∀ {b : Addr} {m : Str → Option Value}, s.heap.Ns b m → (hidT s.heap H).Ns b m := fun {b m} ⟨o, es, ep, e, d, r⟩ => ⟨o, es, ep, keepB e (fun z => by
    rw [z, ha] at e
    cases e
    cases d), d, r⟩
  have inB : K.In (hidT s.heap H) := fun b o e => keepB (inK b o e) fun z => Classical.byContradiction fun q => by
    rw [z, hK q] at e; cases e
  have nsB := keepN hns
  have md : Mod K mg (hidT s.heap H) := ⟨inB, nsB, ⟨mb, keepN hb, hbb⟩, hlim.elim fun mc h => ⟨mc, keepN h.1, h.2⟩⟩
  have e0 : Env0 P w K mg (hidT s.heap H) callerA [] s H := { frames := rfl, mod := md, bs := fun b o e => of_hidT e, bsz := Nat.le_of_eq (hidT_size _ _), funs := trivial, frf := fun b z => (by cases z), hok := ok, bare := .of_eq hg }
  obtain ⟨b', hb'⟩ := hp
  have sp0 : spF K fn 1 [.ref a] H (fun v _ => v = .bl true) E0 := by
    refine ⟨[], [], [.scr ns], .bl true, b', ⟨rfl, fun n a zs e => by simp at e, List.nodup_nil, .nil, List.nodup_nil⟩, .cons (os := []) (ps := []) (.scr (.of hO hS)) .nil, rfl, hb', fun v H' io' os _ _ rx _ _ => ?_⟩
    exact rx.bl_inv
  have run := (F _ inB nsB).run callerA [] s H ⟨[.ref a], []⟩ [.ref a] [.ref a] _ _ rfl hr e0 (hbind s (.ref a)) (.cons rfl .nil) sp0
  refine codeAny_mono run fun r s' h => ?_
  match r, h with
  | .ok (.ret u), ⟨v, H', os, bare, un, ok', rv, q⟩ =>
    obtain rfl : v = .bl true := q
    obtain rfl : u = Value.bool true := rv
    refine ⟨rfl, OldK.of_keep fun b o e => ?_, os, bare⟩
    cases hq : H b with
    | none => exact un.keep b o e hq (fun z => by cases z) (by simp)
    | some u =>
      rcases hO b with z | ⟨ob, xs, z⟩
      · rw [hq] at z; cases z
      · obtain ⟨e1, _⟩ := ok b _ z
        obtain ⟨e2, _⟩ := ok' b _ (un.frzs b ob _ z)
        rw [e] at e1; cases e1
        exact e2
theorem law_go (inK : K.In s.heap) (hns : s.heap.Ns mainGlobals mg) (hb : s.heap.Ns builtinsNs mb) (hbb : ∀ x : Str, x ≠ "__name__" → mb x = bootBuiltins x) (hlim : s.heap.NoLimit) (hg : s.gens = #[])
    (ha : s.heap.get? a = some { cls := .type "list", data := .seq vs.toArray }) (hi : IntsAre vs ns) (hl : ns.length ≤ sizeLine) (hr : Room k callerA) (F : ∀ base : Heap, K.In base → base.Ns mainGlobals mg → FnG P w K mg base k fa fd [x] (spF K fn 1))
    (hbind : ∀ (s : Shared) (u : Value), BindsTo s fd ⟨[u], []⟩ [(x, u)]) (hp : ∃ b', fn [.scr ns] [] = some (.bl true, b')) : codeAny (model P w) callerA (.call (.ref fa) ⟨[.ref a], []⟩) (Told s) s := by
  have rv : Vals (ns.map V.int) vs := vals_ints hi
  cases hk : K.lookup a with
  | some o =>
    have e := inK a o hk
    rw [ha] at e
    cases e
    refine law_at (fun _ => none) inK hns hb hbb hlim hg ha hr F hbind hp (fun _ => .inl rfl) (.inr ⟨_, vs.toArray, _, hk, rfl, rfl, rfl, by rw [List.size_toArray, hi.length]; exact hl, by simpa using rv⟩) ?_ (fun b z => absurd rfl z) fun z => absurd rfl z
    intro b u z
    simp at z
  | none =>
    let H : Hp := fun b => if b = a then some (.frz { cls := .type "list", data := .seq vs.toArray } (.lst (ns.map V.int))) else none
    have Ha : H a = some (.frz { cls := .type "list", data := .seq vs.toArray } (.lst (ns.map V.int))) := if_pos rfl
    have Hn : ∀ {b : Addr}, b ≠ a → H b = none := fun n => if_neg n
    refine law_at H inK hns hb hbb hlim hg ha hr F hbind hp (fun b => ?_) (.inl (.inr ⟨_, Ha⟩)) (fun b u z => ?_) (fun b z => ?_) fun _ => hk
    · by_cases h : b = a
      · subst h; exact .inr ⟨_, _, Ha⟩
      · exact .inl (Hn h)
    · by_cases h : b = a
      · subst h
        rw [Ha] at z
        cases z
        exact ⟨ha, by rw [List.length_map]; exact hl, vs, _, rv, ha⟩
      · rw [Hn h] at z; cases z
    · exact Classical.byContradiction fun h => z (Hn h)
end
theorem walk_go {l : PySem.W.OpenLaw} {n k : Nat} {q : Program} {loose : List Str} {XP : (Str → Option Value) → Heap → Prop} {YP : World → Heap → Prop} {d : DefRec} {K : Params → PySem.W.Frag} {fn : Fn} {x : Str}
    (hn : l.most = some n) (hn2 : n ≤ sizeLine) (hdf : d.params.defaults = []) (hr : Room k callerA) (hY : ∀ (w : World) (h : Heap), YP w h → (K w.params).In h)
    (F : ∀ (w : World) (mg : Str → Option Value) (fa : Addr) (h : Heap), (K w.params).In h → h.Ns mainGlobals mg → mg d.name = some (.ref fa) → ∃ fd : FuncData, (∀ (s : Shared) (u : Value), BindsTo s fd ⟨[u], []⟩ [(x, u)]) ∧
      ∀ base : Heap, (K w.params).In base → base.Ns mainGlobals mg → FnG l.prog w (K w.params) mg base k fa fd [x] (spF (K w.params) fn 1))
    (hp : ∀ ns : List Int, ns.length ≤ n → ∃ b', fn [.scr ns] [] = some (.bl true, b')) : PySem.W.WalkO q loose XP YP l.row.toRowW d [] (fun f vs => PySem.call f vs) :=
  Att.attach_call hn hdf fun w s0 s mg mb fa o pm cd doc a vs ns G Y ho hd hcd hmg hobj hints hlen hg => by
    obtain ⟨fd, hb, hF⟩ := F w mg fa _ (hY w _ Y) G.T.g hmg
    exact law_go (hY w _ Y) G.T.g G.T.b G.T.builtins G.T.nolimit hg hobj hints (Nat.le_trans hlen hn2) hr hF hb (hp ns hlen)
end HF
namespace HF
open PySem PySem.Spec L2
open PyProof.Rows hiding St
section
variable {K : PySem.W.Frag} {H : Hp} {io : List Addr}
theorem RpE.setU {a : Addr} {o : HO} {d' : D} {os' : List Addr} (m : Mut (H a)) : ∀ {r : Env} {σ : St} {oss : List (List Addr)} {i : Nat} {d : D} {v : V} {os : List Addr}, RpE K H io r σ oss → oss.flatten.Nodup → r[i]? = some (.ow d) → σ[i]? = some (some v) → oss[i]? = some os → a ∈ os →
    Rp K (L2.upd H a o) io d' v os' → RpE K (L2.upd H a o) io (r.set i (.ow d')) σ (oss.set i os')
  | _, _, _, i, _, _, _, .nil, _, h, _, _, _, _ => by simp at h
  | _, _, _, 0, _, _, _, .no _, _, h, _, _, _, _ => by simp at h
  | _, _, _, 0, _, _, _, .sh _ _, _, h, _, _, _, _ => by simp at h
  | _, _, _, 0, _, _, _, .ow (σ := σ) x r, n, h, hv, ho, ha, x' => by
    simp at hv ho
    subst hv ho
    rw [List.flatten_cons] at n
    exact .ow x' (r.upd m fun z => (List.nodup_append.mp n).2.2 _ ha _ z rfl)
  | _, _, _, i + 1, _, _, _, .no r, n, h, hv, ho, ha, x' => by
    rw [List.flatten_cons] at n
    exact .no (RpE.setU m r (List.nodup_append.mp n).2.1 (i := i) (by simpa using h) (by simpa using hv) (by simpa using ho) ha x')
  | _, _, _, i + 1, _, _, _, .sh x r, n, h, hv, ho, ha, x' => by
    rw [List.flatten_cons] at n
    exact .sh (x.upd m fun z => nomatch z) (RpE.setU m r (List.nodup_append.mp n).2.1 (i := i) (by simpa using h) (by simpa using hv) (by simpa using ho) ha x')
  | _, _, _, i + 1, _, _, _, .ow x r, n, h, hv, ho, ha, x' => by
    rw [List.flatten_cons] at n
    obtain ⟨n1, n2, n3⟩ := List.nodup_append.mp n
    exact .ow (x.upd m fun z => n3 _ z _ ((mem_flat (i := i) (by simpa using ho)).1 _ ha) rfl) (RpE.setU m r n2 (i := i) (by simpa using h) (by simpa using hv) (by simpa using ho) ha x')
end
structure OpM (K : PySem.W.Frag) (T : String) (op : D → List D → Option D) (r : V → List V → Hp → VK → Prop) : Prop where
  ty : ∀ (io : List Addr) (H : Hp) (x : V) (dx : D) (dys : List D) (d' : D) (os : List Addr), Rp K H io dx x os → op dx dys = some d' → tyV K T x H
  run : ∀ (io : List Addr) (H : Hp) (x : V) (ys : List V) (dx : D) (dys : List D) (d' : D) (os ps : List Addr) (Q : VK), BL io H → Rp K H io dx x os → os.Nodup → RpL K H io dys ys ps → ps.Nodup → (∀ a ∈ ps, a ∉ os) →
    op dx dys = some d' → (∀ (a : Addr) (o' : HO) (os' : List Addr) (v : V), x = .ref a → a ∈ os → Rp K (L2.upd H a o') io d' x os' → os'.Nodup → (∀ c ∈ os', c ∈ os ∨ c ∈ ps) → Q v (L2.upd H a o')) → r x ys H Q
theorem nodup_setU {os os' ps : List Addr} (h1 : os'.Nodup) (hs : ∀ c ∈ os', c ∈ os ∨ c ∈ ps) : ∀ {oss : List (List Addr)} {i : Nat}, oss.flatten.Nodup → oss[i]? = some os → (∀ a ∈ ps, a ∉ oss.flatten) → (oss.set i os').flatten.Nodup
  | [], _, h, _, _ => by simpa using h
  | x :: r, 0, h, e, h2 => by
    simp at e
    subst e
    rw [List.flatten_cons] at h
    rw [List.set_cons_zero, List.flatten_cons]
    obtain ⟨n1, n2, n3⟩ := List.nodup_append.mp h
    refine List.nodup_append.mpr ⟨h1, n2, fun a ha b hb q => ?_⟩
    rcases hs a ha with z | z
    · exact n3 a z b hb q
    · exact h2 a z (by rw [List.flatten_cons]; exact List.mem_append_right _ (q ▸ hb))
  | x :: r, i + 1, h, e, h2 => by
    rw [List.flatten_cons] at h
    rw [List.set_cons_succ, List.flatten_cons]
    obtain ⟨n1, n2, n3⟩ := List.nodup_append.mp h
    have e' : r[i]? = some os := by simpa using e
    refine List.nodup_append.mpr ⟨n1, nodup_setU h1 hs n2 e' fun a ha hm => h2 a ha (by rw [List.flatten_cons]; exact List.mem_append_right _ hm), fun a ha b hb q => ?_⟩
    rcases mem_set_flat hb with z | z
    · rcases hs b z with y | y
      · exact n3 a ha b ((mem_flat e').1 b y) q
      · exact h2 b y (by rw [List.flatten_cons]; exact List.mem_append_left _ (q ▸ ha))
    · exact n3 a ha b z q
theorem RpL.memO {K : PySem.W.Frag} {H : Hp} {io : List Addr} {ds : List D} {vs : List V} {os : List Addr} (r : RpL K H io ds vs os) (bl : BL io H) {p : Addr} (h : H p = none) : p ∉ os := fun hm => by
  obtain ⟨_, u, e, _⟩ := r.ownd bl p hm
  rw [h] at e; cases e
end HF
namespace HF
open PySem PySem.Spec L2
open PyProof.Rows hiding St
def eIx (f g : Ev) : Ev := fun r => bnd (f r) fun x => bnd (g r) fun y => match x, y with
  | .box n, .int k => fun b => match b[n]? with
    | some zs => match L2.atI zs k with
      | some z => some (.int z, b)
      | none => none
    | none => none
  | x, y => lift (oIx x y)
theorem atI_map {α β : Type} {g : α → β} {xs : List α} {k : Int} {z : α} (h : L2.atI xs k = some z) : L2.atI (xs.map g) k = some (g z) := by
  unfold L2.atI at h ⊢
  rw [List.length_map]
  cases hj : ixN xs.length k with
  | none => rw [hj] at h; cases h
  | some j =>
    rw [hj] at h
    show (xs.map g)[j]? = some (g z)
    rw [List.getElem?_map, show xs[j]? = some z from h]; rfl
section
variable {X : Cx}
theorem de_ixB {a b : Expr} {pos : Pos} {f g : Ev} (ha : PE X a (tM X.K true f)) (hb : PE X b (tM X.K false g)) (hs : PlainIx b) : PE X (.Subscript a b pos) (tV X.K (eIx f g)) :=
  PE_wk (pe_ix ix_any ha hb hs) fun σ H Q ⟨io, b, r, oss, S, d, b', e, q⟩ => by
    obtain ⟨dx, b1, e1, e2⟩ := bnd_some e
    obtain ⟨dy, b2, e3, e4⟩ := bnd_some e2
    refine ⟨io, b, r, oss, S, dx, b1, e1, fun x H1 io1 os k1 S1 rx m1 => ⟨io1, b1, r, oss, S1, dy, b2, e3, fun y H2 io2 ps k2 S2 ry m2 => ?_⟩⟩
    have k12 := k1.trans k2 S.bl
    have plain : lift (oIx dx dy) b2 = some (d, b') → rIxA X.K x y H2 Q := fun e5 => by
      obtain ⟨e6, e7⟩ := lift_some e5
      replace e6 : oIx dx dy = some d := e6
      replace e7 : b' = b2 := e7
      subst e7
      exact o_ix io2 H2 x y dx dy d os ps Q S2.bl (rx.keep k2 S1.bl) ry m1 m2 e6 fun v H3 qs k3 rv n fr => q v H3 io2 qs (k12.trans (Kp.of k3) S.bl) (S2.later k3) rv n fun a ha => fresh_back k12 S2 (fr a ha)
    cases dx <;> first | exact plain e4 | skip
    cases dy <;> first | exact plain e4 | skip
    rename_i n k
    dsimp only at e4
    cases hz : b2[n]? with
    | none => rw [hz] at e4; cases e4
    | some zs =>
      rw [hz] at e4
      dsimp only at e4
      cases ha : L2.atI zs k with
      | none => rw [ha] at e4; cases e4
      | some z =>
        rw [ha] at e4
        cases e4
        cases rx.keep k2 S1.bl with
        | box hn =>
          rename_i a
          exact .inl (.inl ⟨a, zs.map V.int, k, .int z, rfl, ry.int_inv, .inl (.inl (S2.bx n a zs hn hz)), atI_map ha, q _ H2 io2 [] k12 S2 (.int z) List.nodup_nil nil_all⟩)
theorem de_tup {es : List Expr} {x1} {pos : Pos} {fs : List Ev} (h : PA X es (tAV X.K fs)) (hz : fs.length ≤ sizeLine) : PE X (.Tuple es x1 pos) (tV X.K (eTup fs)) :=
  PE_wk (pe_tupF h) fun σ H Q ⟨io, b, r, oss, S, d, b', e, q⟩ => by
    obtain ⟨ds, b1, e1, e2⟩ := bnd_some e
    cases e2
    refine ⟨io, b, r, oss, S, ds, _, e1, fun vs H1 io1 os k1 S1 rl n fr => ⟨by rw [← rl.length, evs_len e1]; exact hz, fun p o hp hd => ?_⟩⟩
    have k2 : Kp io1 H1 io1 (upd H1 p (.frz o (.tup vs))) := Kp.of (ext_upd hp)
    exact q _ _ io1 os (k1.trans k2 S.bl) (S1.later (ext_upd hp)) (.newT hd S1.bl hp rl) n fr
theorem de_lst {es : List Expr} {pos : Pos} {fs : List Ev} (h : PA X es (tAV X.K fs)) (hz : fs.length ≤ sizeLine) : PE X (.List es pos) (tV X.K (eLst fs)) :=
  PE_wk (pe_lst h) fun σ H Q ⟨io, b, r, oss, S, d, b', e, q⟩ => by
    obtain ⟨ds, b1, e1, e2⟩ := bnd_some e
    cases e2
    refine ⟨io, b, r, oss, S, ds, _, e1, fun vs H1 io1 os k1 S1 rl n fr => ⟨by rw [← rl.length, evs_len e1]; exact hz, fun p hp => ?_⟩⟩
    have k2 : Kp io1 H1 io1 (upd H1 p (.lst vs)) := Kp.of (ext_upd hp)
    refine q _ _ io1 (p :: os) (k1.trans k2 S.bl) (S1.later (ext_upd hp)) (.newL S1.bl hp rl) (List.nodup_cons.mpr ⟨rl.memO S1.bl hp, n⟩) fun a ha => ?_
    rcases List.mem_cons.mp ha with rfl | ha
    · exact fresh_back k1 S1 hp
    · exact fr a ha
theorem RpL.ints {K : PySem.W.Frag} {H : Hp} {io : List Addr} : ∀ {ds : List D} {vs : List V} {os : List Addr} {zs : List Int}, RpL K H io ds vs os → intsOf ds = some zs → vs = zs.map V.int
  | _, _, _, _, .nil, e => by cases e; rfl
  | _, _, _, _, .cons (ds := ds) h r, e => by
    cases h <;> first | cases e | skip
    rename_i z
    have e' : (intsOf ds).map (z :: ·) = some _ := e
    cases hi : intsOf ds with
    | none => rw [hi] at e'; cases e'
    | some ys =>
      rw [hi] at e'
      cases e'
      rw [r.ints hi]; rfl
theorem de_box {es : List Expr} {pos : Pos} {fs : List Ev} (h : PA X es (tAV X.K fs)) (hz : fs.length ≤ sizeLine) : PE X (.List es pos) (tV X.K (eBox fs)) :=
  PE_wk (pe_lst h) fun σ H Q ⟨io, b, r, oss, S, d, b', e, q⟩ => by
    obtain ⟨ds, b1, e1, e2⟩ := bnd_some e
    cases hi : intsOf ds with
    | none => rw [hi] at e2; cases e2
    | some zs =>
      rw [hi] at e2
      cases e2
      refine ⟨io, b, r, oss, S, ds, _, e1, fun vs H1 io1 os k1 S1 rl n fr => ⟨by rw [← rl.length, evs_len e1]; exact hz, fun p hp => ?_⟩⟩
      obtain rfl := rl.ints hi
      have nio : p ∉ io1 := S1.bl.fresh hp
      have k2 : Kp io1 H1 (io1 ++ [p]) (upd H1 p (.lst (zs.map V.int))) := ⟨fun a o e _ => ext_upd hp a o e, List.prefix_append _ _, fun a ha hn => by
        rcases List.mem_append.mp ha with z | z
        · exact absurd z hn
        · obtain rfl := List.mem_singleton.mp z
          exact hp⟩
      have S2 : SR X.K (io1 ++ [p]) (b1 ++ [zs]) r oss σ (upd H1 p (.lst (zs.map V.int))) := by
        refine ⟨by simp [S1.len], fun n a ys ha hy => ?_, ?_, S1.sl.keep k2 S1.bl, S1.od⟩
        · by_cases hn : n < io1.length
          · rw [List.getElem?_append_left hn] at ha
            rw [List.getElem?_append_left (S1.len ▸ hn)] at hy
            exact ext_upd hp _ _ (S1.bx n a ys ha hy)
          · have hn' : n = io1.length := by
              have := (List.getElem?_eq_some_iff.mp ha).1
              simp at this
              omega
            subst hn'
            simp at ha
            rw [S1.len] at hy
            simp at hy
            subst ha hy
            exact upd_same
        · refine List.nodup_append.mpr ⟨S1.nd, List.nodup_cons.mpr ⟨fun z => (nomatch z), List.nodup_nil⟩, fun a ha c hc z => ?_⟩
          obtain rfl := List.mem_singleton.mp hc
          exact nio (z ▸ ha)
      exact q _ _ (io1 ++ [p]) [] (k1.trans k2 S.bl) S2 (.box (by rw [← S1.len]; simp)) List.nodup_nil nil_all
theorem SR.updBox {K : PySem.W.Frag} {io : List Addr} {b : Bx} {r : Env} {oss : List (List Addr)} {σ : St} {H : Hp} {n : Nat} {a : Addr} {zs : List Int} (S : SR K io b r oss σ H) (ha : io[n]? = some a) : SR K io (b.set n zs) r oss σ (L2.upd H a (.lst (zs.map V.int))) := by
  have hm := List.mem_of_getElem? ha
  have m : Mut (H a) := by
    obtain ⟨vs, e⟩ := S.bl a hm
    rw [e]; trivial
  refine ⟨by rw [List.length_set]; exact S.len, fun j c ys e1 e2 => ?_, S.nd, S.sl.upd m fun z => (S.sl.ownd S.bl a z).1 hm, S.od⟩
  by_cases hj : j = n
  · subst hj
    rw [ha] at e1
    cases e1
    have hl : j < b.length := by
      have := (List.getElem?_eq_some_iff.mp e2).1
      simpa using this
    rw [List.getElem?_set_self hl] at e2
    cases e2
    exact upd_same
  · rw [List.getElem?_set_ne (fun z => hj z.symm)] at e2
    refine upd_oth (S.bx j c ys e1 e2) fun z => ?_
    subst z
    obtain ⟨h1, g1⟩ := List.getElem?_eq_some_iff.mp ha
    obtain ⟨h2, g2⟩ := List.getElem?_eq_some_iff.mp e1
    exact hj ((List.getElem_inj S.nd).mp (g2.trans g1.symm))
def sBSet (i : Nat) (g f : Ev) : Sv := fun r => bnd (f r) fun x => bnd (g r) fun y => match r[i]?, x, y with
  | some (.sh (.box n)), .int z, .int k => fun b => match b[n]? with
    | some zs => match ixN zs.length k with
      | some j => some ((.nx, r), b.set n (zs.set j z))
      | none => none
    | none => none
  | _, _, _ => fail
theorem ds_bset {i : Nat} {x : Str} {ei ev : Expr} {f g : Ev} {npos spos pos : Pos} (hN : X.N[i]? = some x) (hv : Vis X.env.scope x) (hd : (x == ("__debug__" : Str)) = false) (hcd : (x == ("__classdict__" : Str)) = false) (hi : PE X ei (tM X.K false g)) (he : PE X ev (tM X.K false f))
    (ha : ∀ v, assign (.Subscript (.Name x npos) ei spos) X.env v = (do
      let ov ← holding [v] (eval (.Name x npos) X.env)
      let iv ← holding [v, ov] (eval ei X.env)
      standAt spos
      holding [v, ov, iv] (setItem ov iv v)
      release [v, ov, iv] []))
    (hs : swapsWithSole [.Subscript (.Name x npos) ei spos] ev pos.line X.env = pure false) (hw : swappedStores [.Subscript (.Name x npos) ei spos] ev X.env = pure none) (h1 : (assignEach [.Subscript (.Name x npos) ei spos] X.env).map (·.2) = [assign (.Subscript (.Name x npos) ei spos) X.env]) :
    PS X (.Assign [.Subscript (.Name x npos) ei spos] ev pos) (tD X.K (sBSet i g f)) :=
  PS_wk (ps_asg he (pg_sub (pe_var hN hv hd hcd) hi set_list ha) hs hw h1) fun D σ H ⟨io0, H0, io, b, r, oss, A, fl, r', b', e, q⟩ => by
    obtain ⟨dx, b1, e1, e2⟩ := bnd_some e
    obtain ⟨dy, b2, e3, e4⟩ := bnd_some e2
    refine ⟨io, b, r, oss, A.sr, dx, b1, e1, fun v H1 io1 os k1 S1 rx _ => ?_⟩
    cases hr : r[i]? with
    | none => rw [hr] at e4; cases e4
    | some sl =>
      rw [hr] at e4
      rcases S1.sl.get hr with rfl | ⟨d0, w, rfl, hv, hx⟩ | ⟨d0, w, ps, rfl, hv, _, hx⟩
      · cases e4
      · cases d0 <;> first | cases e4 | skip
        cases dx <;> first | cases e4 | skip
        cases dy <;> first | cases e4 | skip
        rename_i n z _ k
        dsimp only at e4
        cases hz : b2[n]? with
        | none => rw [hz] at e4; cases e4
        | some zs =>
          rw [hz] at e4
          dsimp only at e4
          cases hj : ixN zs.length k with
          | none => rw [hj] at e4; cases e4
          | some j =>
            rw [hj] at e4
            cases e4
            cases rx
            refine ⟨w, hv, io1, b1, r, oss, S1, _, b2, e3, fun y H2 io2 qs k2 S2 ry _ => ?_⟩
            cases ry
            cases hx.keep k2 S1.bl with
            | box hn =>
              rename_i a
              have hA := S2.bx n a zs hn hz
              refine ⟨a, zs.map V.int, k, j, rfl, rfl, hA, by rw [List.length_map]; exact hj, ?_⟩
              have k12 := k1.trans k2 A.sr.bl
              have hset : (zs.map V.int).set j (.int z) = (zs.set j z).map V.int := by rw [List.map_set]
              rw [hset]
              have m : Mut (H2 a) := by rw [hA]; trivial
              have hm := List.mem_of_getElem? hn
              refine q σ _ io2 oss (S2.updBox hn) ?_ ((k12.kf A.sr.bl).trans (Kf.upd m)) A.fr
              have kk := A.kp.trans k12 A.bl
              refine ⟨fun c o e nc => ?_, kk.pre, kk.new⟩
              by_cases hc : c = a
              · subst hc
                have := kk.new c hm nc
                rw [e] at this; cases this
              · rw [upd_ne hc]; exact kk.keep c o e nc
      · cases e4
theorem SR.give {K : PySem.W.Frag} {io : List Addr} {b : Bx} {r : Env} {oss : List (List Addr)} {σ : St} {H H' : Hp} {i : Nat} {d : D} {v : V} {os : List Addr} (S : SR K io b r oss σ H) (hr : r[i]? = some (.ow d)) (hv : σ[i]? = some (some v)) (ho : oss[i]? = some os) (hx : Rp K H io d v os) (f : Fz os H H') : SR K io b (HF.give r i) (oss.set i []) σ H' := by
  have go : ∀ {r : Env} {σ : St} {oss : List (List Addr)} {i : Nat}, RpE K H io r σ oss → oss.flatten.Nodup → r[i]? = some (.ow d) → σ[i]? = some (some v) → oss[i]? = some os → RpE K H' io (r.set i (.sh (share d))) σ (oss.set i []) := by
    intro r σ oss i R
    induction R generalizing i with
    | nil => intro _ h; simp at h
    | no R ih =>
      intro n h h2 h3
      cases i with
      | zero => simp at h
      | succ i =>
        rw [List.flatten_cons] at n
        exact .no (ih (List.nodup_append.mp n).2.1 (by simpa using h) (by simpa using h2) (by simpa using h3))
    | sh x R ih =>
      intro n h h2 h3
      cases i with
      | zero => simp at h
      | succ i =>
        rw [List.flatten_cons] at n
        exact .sh (x.fzo f fun _ z => nomatch z) (ih (List.nodup_append.mp n).2.1 (by simpa using h) (by simpa using h2) (by simpa using h3))
    | ow x R ih =>
      intro n h h2 h3
      rw [List.flatten_cons] at n
      obtain ⟨n1, n2, n3⟩ := List.nodup_append.mp n
      cases i with
      | zero =>
        simp at h2 h3
        subst h2 h3
        exact .sh (hx.fz f fun _ z => z) (R.fzo f fun a ha hm => n3 a hm a ha rfl)
      | succ i =>
        exact .ow (x.fzo f fun a ha hm => n3 a ha a ((mem_flat (i := i) (by simpa using h3)).1 a hm) rfl) (ih n2 (by simpa using h) (by simpa using h2) (by simpa using h3))
  have mo := (mem_flat ho).1
  have hg : HF.give r i = r.set i (.sh (share d)) := by unfold HF.give; rw [hr]
  rw [hg]
  exact ⟨S.len, fun n a zs e1 e2 => f.kp (S.bx n a zs e1 e2) fun hm => (hx.ownd S.bl a hm).1 (List.mem_of_getElem? e1), S.nd, go S.sl S.od hr hv ho, nodup_set_flat List.nodup_nil S.od fun _ h => nomatch h⟩
end
end HF
namespace HF
open PySem PySem.Spec L2
open PyProof.Rows hiding St
abbrev Giv (K : PySem.W.Frag) (io : List Addr) (H : Hp) (d : D) (Q : VK) : Prop := ∀ v H' qs, (∀ a o, H a = some o → H' a = some o) → Rp K H' io d v qs → qs.Nodup → (∀ a ∈ qs, H a = none) → Q v H'
theorem OpN.one {K : PySem.W.Frag} {md : Bool} {op : D → Option D} {r : List V → Hp → VK → Prop} (h : ∀ (io : List Addr) (H : Hp) (x : V) (dx d : D) (os : List Addr) (Q : VK), BL io H → Rp K H io dx x os → (md = true → stillIn dx = true) → op dx = some d → Giv K io H d Q → r [x] H Q) : OpN K md (n1 op) r := by
  intro io H xs ds d os Q bl rl m e q
  match ds, e, rl, m with
  | [dx], e, rl, m =>
    obtain ⟨v, ws, o1, o2, rfl, rfl, x, r'⟩ := rl.consI
    obtain rfl := r'.zero
    exact h io H v dx d o1 Q bl x (fun z => m z dx List.mem_cons_self) e q
theorem OpN.two {K : PySem.W.Frag} {md : Bool} {op : D → D → Option D} {r : List V → Hp → VK → Prop} (h : ∀ (io : List Addr) (H : Hp) (x y : V) (dx dy d : D) (os ps : List Addr) (Q : VK), BL io H → Rp K H io dx x os → Rp K H io dy y ps → (md = true → stillIn dx = true ∧ stillIn dy = true) → op dx dy = some d → Giv K io H d Q → r [x, y] H Q) : OpN K md (n2 op) r := by
  intro io H xs ds d os Q bl rl m e q
  match ds, e, rl, m with
  | [dx, dy], e, rl, m =>
    obtain ⟨v, ws, o1, o2, rfl, rfl, x, r'⟩ := rl.consI
    obtain ⟨w, ws, o2, o3, rfl, rfl, y, r'⟩ := r'.consI
    obtain rfl := r'.zero
    exact h io H v w dx dy d o1 o2 Q bl x y (fun z => ⟨m z dx List.mem_cons_self, m z dy (List.mem_cons_of_mem _ List.mem_cons_self)⟩) e q
section
variable {X : Cx}
theorem de_callT {x : Str} {T : String} {p pos : Pos} {e : Expr} {es : List Expr} {md : Bool} {fs : List Ev} {op : List D → Option D} {r : List V → Hp → VK → Prop} (ho : OpN X.K md op r) (hr : CallR X (.type T) r) (hg : Gl X x) (hm : X.mg x = none) (hv : bootBuiltins x = some (.type T))
    (ha : PA X (e :: es) (tAM X.K md fs)) (hn : x ≠ "__name__") (hd : (x == ("__debug__" : Str)) = false) (hs : starEach (e :: es) X.env = (false, eval e X.env) :: starEach es X.env) (hst : (backTo pos (starEach es X.env)).any (·.1) = false) : PE X (.Call (.Name x p) (e :: es) [] pos) (tV X.K (eN op fs)) :=
  de_n ho ha fun t h => pe_callTy hr hg hm hv h hn hd hs hst
def rLen (K : PySem.W.Frag) : List V → Hp → VK → Prop := fun xs H Q => (∃ x n, xs = [x] ∧ LenV K x H n ∧ Q (.int n) H) ∨ ∃ a kvs, xs = [V.ref a] ∧ Rd H a (.dK kvs) ∧ Q (.int kvs.length) H
theorem cr_len : CallR X (.builtin "len") (rLen X.K) := by
  intro pins s σ H xs us Q I r h
  rcases h with h | ⟨a, kvs, rfl, ha, q⟩
  · exact call_len pins s σ H xs us Q I r h
  · obtain ⟨u, rfl, ru⟩ := vals1 r
    cases ru
    exact d_len I ha fun t s' I' => ⟨.int kvs.length, H, I', ⟨t, rfl⟩, q⟩
theorem o_len : OpN X.K false (n1 oLen) (rLen X.K) := OpN.one fun io H x dx d os Q bl rx _ e q => by
  cases dx <;> first | cases e | skip
  · rename_i z _
    unfold oLen at e
    dsimp only at e
    split at e
    · rename_i hl
      cases e
      obtain ⟨rfl, _⟩ := rx.str_inv
      exact .inl ⟨_, z.length, rfl, ⟨hl, rfl⟩, give_int rfl q⟩
    · cases e
  · obtain ⟨a, vs, ps, rfl, hl, rl, _⟩ := rx.lst_inv
    exact .inl ⟨_, vs.length, rfl, .inl ⟨vs, .inl hl, rfl⟩, by rw [← rl.length]; exact give_int rfl q⟩
  · obtain ⟨a, vs, rfl, hl, rl⟩ := rx.tup_inv
    exact .inl ⟨_, vs.length, rfl, .inr ⟨vs, hl, rfl⟩, by rw [← rl.length]; exact give_int rfl q⟩
  · obtain ⟨a, k, ps, rfl, hl, rl⟩ := rx.dct_inv
    exact .inr ⟨a, k, rfl, hl, by have h := rl.len; rw [List.length_map] at h; rw [← h]; exact give_int rfl q⟩
  · cases rx with
    | scr hk => exact .inl ⟨_, _, rfl, .inl ⟨_, hk.sq, rfl⟩, by rw [List.length_map]; exact give_int rfl q⟩
theorem o_abs {K : PySem.W.Frag} : OpN K false (n1 oAbs) (fun xs H Q => ∃ i, xs = [.int i] ∧ Q (.int (if i < 0 then -i else i)) H) := OpN.one fun io H x dx d os Q bl rx _ e q => by
  cases dx <;> first | cases e | skip
  exact ⟨_, by rw [rx.int_inv], give_int rfl q⟩
theorem o_int {K : PySem.W.Frag} : OpN K false (n1 oInt) (fun xs H Q => (∃ i, xs = [.int i] ∧ Q (.int i) H) ∨ ∃ k, xs = [.bl k] ∧ Q (.int (if k then 1 else 0)) H) := OpN.one fun io H x dx d os Q bl rx _ e q => by
  cases dx <;> first | cases e | skip
  · exact .inr ⟨_, by rw [rx.bl_inv], give_int rfl q⟩
  · exact .inl ⟨_, by rw [rx.int_inv], give_int rfl q⟩
theorem RpL.bls {K : PySem.W.Frag} {H : Hp} {io : List Addr} : ∀ {ds : List D} {vs : List V} {os : List Addr} {bs : List Bool}, RpL K H io ds vs os → blsOf ds = some bs → vs = bs.map V.bl
  | _, _, _, _, .nil, e => by cases e; rfl
  | _, _, _, _, .cons (ds := ds) h r, e => by
    cases h <;> first | cases e | skip
    rename_i z
    have e' : (blsOf ds).map (z :: ·) = some _ := e
    cases hi : blsOf ds with
    | none => rw [hi] at e'; cases e'
    | some ys =>
      rw [hi] at e'
      cases e'
      rw [r.bls hi]; rfl
theorem o_all : OpN X.K false (n1 oAll) (rAll X.K) := OpN.one fun io H x dx d os Q bl rx m e q => by
  cases dx <;> first | cases e | skip
  rename_i o xs
  have e' : (blsOf xs).map (fun bs => D.bl (bs.all id)) = some d := e
  cases hb : blsOf xs with
  | none => rw [hb] at e'; cases e'
  | some bs =>
    rw [hb] at e'
    cases e'
    obtain ⟨a, vs, ps, rfl, hl, rl, _⟩ := rx.lst_inv
    obtain rfl := rl.bls hb
    exact ⟨a, bs, rfl, .inl hl, give_bl rfl q⟩
def leS (a b : Str) : Bool := decide (a.cps.toList ≤ b.cps.toList)
def sortT (ys : List Str) : List Str := ys.mergeSort leS
def Ty.nm : Ty → String
  | .tstr => "str" | .tint => "int" | .tbool => "bool" | .tlist => "list" | .ttuple => "tuple" | .tdict => "dict"
def tyOf : D → Option String
  | .non => some "NoneType"
  | .bl _ => some "bool"
  | .int _ => some "int"
  | .str _ => some "str"
  | .lst _ _ => some "list"
  | .tup _ => some "tuple"
  | .dct _ _ => some "dict"
  | _ => none
theorem Rp.tyX {K : PySem.W.Frag} {H : Hp} {io : List Addr} {d : D} {v : V} {os : List Addr} {n : String} (h : Rp K H io d v os) (e : tyOf d = some n) : TyX K H v (.type n) := by
  cases h with
  | non => cases e; exact .base .non
  | bl b => cases e; exact .base (.bl _)
  | int z => cases e; exact .base (.int _)
  | str h => cases e; exact .base (.str _)
  | lstS hl r =>
    cases e
    obtain ⟨o, h⟩ := hl
    exact .base (.frz h)
  | lstO h n r => cases e; exact .base (.lst h)
  | tup h r =>
    cases e
    rcases h with ⟨o, _, h⟩ | ⟨o, its, n, hk, hc, _⟩
    · exact .fTuple h
    · exact .kTuple hk hc
  | dctS h e1 r =>
    cases e
    obtain ⟨k, rfl, _⟩ := e1
    exact .fDict h
  | dctO h e1 r =>
    cases e
    obtain ⟨k, rfl, _⟩ := e1
    exact .base (.dK h)
  | dttS _ _ _ => cases e
  | dtvS _ _ _ => cases e
  | dttO _ _ _ => cases e
  | dtvO _ _ _ => cases e
  | box _ => cases e
  | scr _ => cases e
  | exc _ _ => cases e
theorem kit_dec (K : PySem.W.Frag) (d : D) (n : String) (t : Ty) (b : Bool) (e : tyOf d = some n) (h : isTy d t = some b) : PySem.W.kitOne K (.type n) (.type t.nm) = some b := by
  cases d <;> cases e <;> cases t <;> cases h <;> rfl
end
section
variable {X : Cx}
theorem kit_any (K : PySem.W.Frag) (d : D) (n : String) (e : tyOf d = some n) : ∀ (ts : List Ty) (r : D), oIsi ts d = some r → ∃ b, r = .bl b ∧ PySem.W.kitAny K (.type n) (ts.map fun t => Value.type t.nm) = some b
  | [], r, h => by cases h; exact ⟨false, rfl, rfl⟩
  | t :: ts, r, h => by
    unfold oIsi at h
    cases hb : isTy d t with
    | none => rw [hb] at h; cases h
    | some b =>
      rw [hb] at h
      have k := kit_dec K d n t b e hb
      rw [List.map_cons]
      unfold PySem.W.kitAny
      cases b with
      | true => cases h; exact ⟨true, rfl, by rw [k]⟩
      | false =>
        obtain ⟨b2, h1, h2⟩ := kit_any K d n e ts r h
        exact ⟨b2, h1, by rw [k]; exact h2⟩
theorem tyOf_isi {d r : D} {t : Ty} {ts : List Ty} (h : oIsi (t :: ts) d = some r) : ∃ n, tyOf d = some n := by
  cases d <;> first | exact ⟨_, rfl⟩ | cases h
theorem Rp.oldTup {K : PySem.W.Frag} {H : Hp} {io : List Addr} {d : D} {v : V} {os : List Addr} {p : Addr} {xs : List V} (h : Rp K H io d v os) (bl : BL io H) (hp : H p = none) : Rp K (L2.upd H p (.tup xs)) io d v os := h.keep (Kp.of (ext_upd hp)) bl
theorem de_isi {a : Expr} {f : Ev} {p p2 pos : Pos} {x : Str} (t : Ty) (hg : Gl X "isinstance") (hm : X.mg "isinstance" = none) (hv : bootBuiltins "isinstance" = some (.builtin "isinstance")) (gx : Gl X x) (mx : X.mg x = none) (vx : bootBuiltins x = some (.type t.nm)) (ha : PE X a (tM X.K false f))
    (hd : (x == ("__debug__" : Str)) = false) (hn : x ≠ "__name__") (hs : starEach [a, .Name x p2] X.env = (false, eval a X.env) :: starEach [.Name x p2] X.env) (hs2 : starEach [.Name x p2] X.env = (false, eval (.Name x p2) X.env) :: starEach [] X.env) (hpl : (backTo pos (starEach [.Name x p2] X.env)).any (·.1) = false) :
    PE X (.Call (.Name "isinstance" p) [a, .Name x p2] [] pos) (tV X.K (e1 (oIsi [t]) f)) :=
  PE_wk (pe_callB call_isi hg hm hv (pa_cons ha (pa_cons (pe_bltn (v := V.ty t.nm) gx mx vx rfl hn hd) pa_nil hs2) hs) (by decide) (by decide) hs hpl) fun σ H Q ⟨io, b, r, oss, S, d, b', e, q⟩ => by
    obtain ⟨dx, b1, e1, e2⟩ := bnd_some e
    obtain ⟨e3, e4⟩ := lift_some e2
    replace e3 : oIsi [t] dx = some d := e3
    replace e4 : b' = b1 := e4
    subst e4
    refine ⟨io, b, r, oss, S, dx, _, e1, fun v H1 io1 os k1 S1 rx _ => ?_⟩
    obtain ⟨n, hn⟩ := tyOf_isi e3
    obtain ⟨c, rfl, hk⟩ := kit_any X.K dx n hn [t] d e3
    have hk' : PySem.W.kitOne X.K (.type n) (.type t.nm) = some c := by
      have hk : (match PySem.W.kitOne X.K (.type n) (.type t.nm) with
        | some true => some true
        | some false => some false
        | none => none) = some c := hk
      cases ho : PySem.W.kitOne X.K (.type n) (.type t.nm) with
      | none => rw [ho] at hk; cases hk
      | some y =>
        rw [ho] at hk
        cases y <;> exact hk
    exact ⟨v, .ty t.nm, .type n, .type t.nm, c, rfl, .ty _, rx.tyX hn, hk', q _ H1 io1 [] k1 S1 (.bl c) List.nodup_nil nil_all⟩
theorem TyX.keepN {K : PySem.W.Frag} {H : Hp} {io : List Addr} {d : D} {v : V} {os : List Addr} {n : String} (h : Rp K H io d v os) (e : tyOf d = some n) (bl : BL io H) {p : Addr} {xs : List V} (hp : H p = none) : TyX K (L2.upd H p (.tup xs)) v (.type n) := (h.oldTup bl hp).tyX e
theorem de_isi2 {a : Expr} {f : Ev} {p p2 p3 p4 pos : Pos} {kk : Nat} {x y : Str} (t u : Ty) (hg : Gl X "isinstance") (hm : X.mg "isinstance" = none) (hv : bootBuiltins "isinstance" = some (.builtin "isinstance")) (gx : Gl X x) (mx : X.mg x = none) (vx : bootBuiltins x = some (.type t.nm)) (gy : Gl X y) (my : X.mg y = none) (vy : bootBuiltins y = some (.type u.nm)) (ha : PE X a (tM X.K false f))
    (hd : (x == ("__debug__" : Str)) = false) (hn : x ≠ "__name__") (hd' : (y == ("__debug__" : Str)) = false) (hn' : y ≠ "__name__")
    (hs : starEach [a, .Tuple [.Name x p2, .Name y p3] kk p4] X.env = (false, eval a X.env) :: starEach [.Tuple [.Name x p2, .Name y p3] kk p4] X.env) (hs2 : starEach [.Tuple [.Name x p2, .Name y p3] kk p4] X.env = (false, eval (.Tuple [.Name x p2, .Name y p3] kk p4) X.env) :: starEach [] X.env) (hpl : (backTo pos (starEach [.Tuple [.Name x p2, .Name y p3] kk p4] X.env)).any (·.1) = false)
    (hs3 : starEach [.Name x p2, .Name y p3] X.env = (false, eval (.Name x p2) X.env) :: starEach [.Name y p3] X.env) (hs4 : starEach [.Name y p3] X.env = (false, eval (.Name y p3) X.env) :: starEach [] X.env) :
    PE X (.Call (.Name "isinstance" p) [a, .Tuple [.Name x p2, .Name y p3] kk p4] [] pos) (tV X.K (e1 (oIsi [t, u]) f)) :=
  PE_wk (pe_callB call_isiT hg hm hv (pa_cons ha (pa_cons (pe_tup (pa_cons (pe_bltn (v := V.ty t.nm) gx mx vx rfl hn hd) (pa_cons (pe_bltn (v := V.ty u.nm) gy my vy rfl hn' hd') pa_nil hs4) hs3)) pa_nil hs2) hs) (by decide) (by decide) hs hpl) fun σ H Q ⟨io, b, r, oss, S, d, b', e, q⟩ => by
    obtain ⟨dx, b1, e1, e2⟩ := bnd_some e
    obtain ⟨e3, e4⟩ := lift_some e2
    replace e3 : oIsi [t, u] dx = some d := e3
    replace e4 : b' = b1 := e4
    subst e4
    refine ⟨io, b, r, oss, S, dx, _, e1, fun v H1 io1 os k1 S1 rx _ => ⟨(by show 2 ≤ sizeLine; decide), fun tp htp => ?_⟩⟩
    obtain ⟨n, hn⟩ := tyOf_isi e3
    obtain ⟨c, rfl, hk⟩ := kit_any X.K dx n hn [t, u] d e3
    have k2 : Kp io1 H1 io1 (upd H1 tp (.tup [.ty t.nm, .ty u.nm])) := Kp.of (ext_upd htp)
    exact ⟨v, tp, [.ty t.nm, .ty u.nm], .type n, [.type t.nm, .type u.nm], c, rfl, upd_same, .cons (.ty _) (.cons (.ty _) .nil), TyX.keepN rx hn S1.bl htp, hk, q _ _ io1 [] (k1.trans k2 S.bl) (S1.later (ext_upd htp)) (.bl c) List.nodup_nil nil_all⟩
end
end HF
namespace HF
open PySem PySem.Spec L2
open PyProof.Rows hiding St
section
variable {X : Cx}
theorem op_gtA : OpR X (compareOp .Gt) rGt := OpR.or op_gt op_gt_str
end
end HF
namespace HF
open PySem PySem.Spec L2
open PyProof.Rows hiding St
section
variable {X : Cx}
theorem strOk_join {a : Str} (ha : PyData.strOk a = true) : ∀ {ys : List Str}, (∀ y ∈ ys, PyData.strOk y = true) → PyData.strOk (Str.join a ys) = true
  | [], _ => strOk_mk fun c hc => by simp [Str.join, Str.empty] at hc
  | [x], h => by show PyData.strOk x = true; exact h x List.mem_cons_self
  | x :: y :: r, h => by
    show PyData.strOk (x ++ a ++ Str.join a (y :: r)) = true
    exact strOk_app (strOk_app (h x List.mem_cons_self) ha) (strOk_join ha fun z hz => h z (List.mem_cons_of_mem _ hz))
end
end HF
namespace HF
open PySem PySem.Spec L2
open PyProof.Rows hiding St
def eCallK (idx : List Nat) (fn : Fn) (fs ks : List Ev) (dds : List D) : Ev := fun r => bnd (evs fs r) fun xs => bnd (evs ks r) fun ys => fn (pick idx (xs ++ ys ++ dds))
section
variable {X : Cx}
theorem PK_wk {kws : List Keyword} {t t' : TA} (h : PK X kws t) (w : ∀ σ H Q, t' σ H Q → t σ H Q) : PK X kws t' := ⟨fun pos pins s σ H Q I q => h.run pos pins s σ H Q I (w σ H Q q)⟩
theorem dk_nil : PK X [] (tAS X.K []) := PK_wk pk_nil fun σ H Q ⟨io, b, r, oss, S, d, b', e, q⟩ => by
  obtain ⟨rfl, rfl⟩ := ret_some e
  exact q [] H io (Kp.refl _ _) S .nil
theorem dk_cons {e : Expr} {nm : Option Str} {kpos : Pos} {kws : List Keyword} {f : Ev} {fs : List Ev} (he : PE X e (tS X.K f)) (hes : PK X kws (tAS X.K fs)) : PK X (⟨nm, e, kpos⟩ :: kws) (tAS X.K (f :: fs)) :=
  PK_wk (pk_cons he hes) fun σ H Q ⟨io, b, r, oss, S, ds, b', e, q⟩ => by
    obtain ⟨d, b1, e1, e'⟩ := bnd_some e
    obtain ⟨ds', b2, e2, e3⟩ := bnd_some e'
    obtain ⟨rfl, rfl⟩ := ret_some e3
    refine ⟨io, b, r, oss, S, d, b1, e1, fun x H1 io1 k1 S1 rx => ⟨io1, b1, r, oss, S1, ds', b', e2, fun xs H2 io2 k2 S2 rxs => ?_⟩⟩
    exact q (x :: xs) H2 io2 (k1.trans k2 S.bl) S2 (.cons (os := []) (ps := []) (rx.keep k2 S1.bl) rxs)
theorem pick_len {α β : Type} {xs : List α} {ys : List β} (h : xs.length = ys.length) : ∀ idx : List Nat, (pick idx xs).length = (pick idx ys).length
  | [] => rfl
  | i :: idx => by
    unfold pick
    have ih := pick_len h idx
    unfold pick at ih
    by_cases hi : i < xs.length
    · rw [List.filterMap_cons_some (List.getElem?_eq_getElem hi), List.filterMap_cons_some (List.getElem?_eq_getElem (h ▸ hi))]
      simp [ih]
    · rw [List.filterMap_cons_none (List.getElem?_eq_none (by omega)), List.filterMap_cons_none (List.getElem?_eq_none (by omega))]
      exact ih
variable {k : Nat} {f : Addr} {fd : FuncData} {ps kn : List Str} {fn : Fn} {x : Str} {p pos : Pos} {e : Expr} {es : List Expr} {kws : List Keyword} {n m : Nat} {idx : List Nat} {dds : List D} {dvs : List V} {dv : List Value}
structure Fill (K : PySem.W.Frag) (dds : List D) (dvs : List V) (dv : List Value) : Prop where
  vals : Vals dvs dv
  rp : ∀ (H : Hp) (io : List Addr), RpL K H io dds dvs []
theorem Fill.nil {K : PySem.W.Frag} : Fill K [] [] [] := ⟨.nil, fun _ _ => .nil⟩
end
end HF
namespace HF
open PySem PySem.Spec L2
open PyProof.Rows hiding St
open Sem (wp)
abbrev IsZs (h : Heap) (z TI TO : Addr) (f0 : Value) (f1 : Bool) : Prop := h.get? z = some { cls := .type "zip", dict := none, data := .fields #[f0, .bool f1, .bool true, .ref TI, .ref TO], slots := #[] }
end HF
namespace HF
open PySem PySem.Spec L2
open PyProof.Rows hiding St
open Sem (wp)
section
variable {prog : Program} {w : World} {A : Around} {E : Value → Shared → Prop} {s : Shared} {z TI TO i1 i2 : Addr} {fp1 fp2 : List Addr} {n i : Nat} {P1 P2 : Nat → Value → Prop} {St1 St2 : Nat → Heap → Prop} {a1 a2 : Value}
abbrev lstO (xs : Array Value) (c : Nat) : Obj := { cls := .type "list", dict := none, data := .seq xs c, slots := #[] }
structure ZLI (k1 k2 : SK) (h0 : Heap) (S z TI TO i1 i2 a b : Addr) (its its2 : List Value) (i : Nat) (h : Heap) : Prop where
  zip : (i = 0 ∧ IsZs h z TI TO .none false ∧ ∃ x y, IsTupOf2 h TO x y) ∨ (0 < i ∧ ∃ f, IsZs h z TI TO (rawInt (S + 1)) f)
  ti : IsTupOf2 h TI (.ref i1) (.ref i2)
  it1 : IsIt k1 h i1 a i ∧ IsSq k1 h a its.toArray
  it2 : IsIt k2 h i2 b i ∧ IsSq k2 h b its2.toArray
  size : h.objs.size = S + 1 + i
  tups : ∀ j x y, j < i → its[j]? = some x → its2[j]? = some y → IsTupOf2 h (S + 1 + j) x y
  keep : ∀ c o, c < S → c ≠ z → c ≠ TO → c ≠ i1 → c ≠ i2 → h0.get? c = some o → h.get? c = some o
structure ZLE (h0 : Heap) (S z TO i1 i2 : Addr) (its its2 : List Value) (n : Nat) (h : Heap) : Prop where
  tups : ∀ j x y, j < n → its[j]? = some x → its2[j]? = some y → IsTupOf2 h (S + 1 + j) x y
  keep : ∀ c o, c < S → c ≠ z → c ≠ TO → c ≠ i1 → c ≠ i2 → h0.get? c = some o → h.get? c = some o
structure ZLA (S z TI TO i1 i2 a b : Addr) : Prop where
  sep : ZipSep2 z TI TO i1 i2 [i1, a] [i2, b]
  n1 : a ≠ i1
  n2 : b ≠ i2
  z : z < S
  ti : TI < S
  to : TO < S
  i1 : i1 < S
  i2 : i2 < S
  a : a < S
  b : b < S
end
end HF
namespace HF
open PySem PySem.Spec L2
open PyProof.Rows hiding St
section
variable {X : Cx}
def oIs (x y : D) : Option D := match y with
  | .non => oIsN x
  | _ => none
theorem o_is : Op2 X.K false false oIs (fun x y H Q => y = .non ∧ Q (.bl (decide (x = .non))) H) := by
  intro io H x y dx dy d os ps Q bl rx ry _ _ e q
  cases dy <;> first | cases e | skip
  cases ry
  refine ⟨rfl, ?_⟩
  cases rx <;> cases e <;> exact give_bl rfl q
theorem de_s1 {e : Expr} {f : Ev} {md : Bool} (h : PE X e (tS X.K f)) : PE X e (tM X.K md f) := PE_wk h fun σ H Q ⟨io, b, r, oss, S, d, b', e, q⟩ =>
  ⟨io, b, r, oss, S, d, b', e, fun v H' io' k S' x => q v H' io' [] k S' x fun _ => stillIn_of_still (x.nil_still rfl)⟩
theorem de_int {i : Int} {j : Nat} {pos : Pos} : PE X (.Constant (.int i) j pos) (tS X.K (eC (.int i))) := de_c pe_int fun _ _ => .int i
theorem de_bl {b : Bool} {j : Nat} {pos : Pos} : PE X (.Constant (.bool b) j pos) (tS X.K (eC (.bl b))) := de_c pe_bl fun _ _ => .bl b
theorem de_non {j : Nat} {pos : Pos} : PE X (.Constant .none j pos) (tS X.K (eC .non)) := de_c pe_non fun _ _ => .non
theorem de_str {x : Str} {j : Nat} {pos : Pos} (h : PyData.strOk x = true) : PE X (.Constant (.str x) j pos) (tS X.K (eC (.str x))) := de_c pe_str fun _ _ => .str h
theorem room64' {k : Nat} {A : Around} (hr : Room k A) : A.units + 64 < cLine := by have := hr.un; omega
end
end HF
namespace HF
open PySem PySem.Spec L2
open PyProof.Rows hiding St
section
variable {X : Cx} {a b c e : Expr} {pos p1 p2 p3 p4 p5 : Pos} {f g h : Ev}
theorem nS (i : Nat) {x : Str} (hN : X.N[i]? = some x := by rfl) (hv : Vis X.env.scope x := by first | exact Or.inl rfl | exact Or.inr (Or.inl rfl) | exact Or.inr (Or.inr rfl)) (hd : (x == ("__debug__" : Str)) = false := by decide) (hcd : (x == ("__classdict__" : Str)) = false := by decide) : PE X (.Name x pos) (tS X.K (eV i)) := de_v hN hv hd hcd
theorem nV (i : Nat) {x : Str} (hN : X.N[i]? = some x := by rfl) (hv : Vis X.env.scope x := by first | exact Or.inl rfl | exact Or.inr (Or.inl rfl) | exact Or.inr (Or.inr rfl)) (hd : (x == ("__debug__" : Str)) = false := by decide) (hcd : (x == ("__classdict__" : Str)) = false := by decide) : PE X (.Name x pos) (tV X.K (eV i)) := de_sv (de_v hN hv hd hcd)
theorem nB (i : Nat) {x : Str} (hN : X.N[i]? = some x := by rfl) (hv : Vis X.env.scope x := by first | exact Or.inl rfl | exact Or.inr (Or.inl rfl) | exact Or.inr (Or.inr rfl)) (hd : (x == ("__debug__" : Str)) = false := by decide) (hcd : (x == ("__classdict__" : Str)) = false := by decide) : PE X (.Name x pos) (tM X.K false (eB i)) := de_b hN hv hd hcd
theorem nI (i : Nat) {x : Str} (hN : X.N[i]? = some x := by rfl) (hv : Vis X.env.scope x := by first | exact Or.inl rfl | exact Or.inr (Or.inl rfl) | exact Or.inr (Or.inr rfl)) (hd : (x == ("__debug__" : Str)) = false := by decide) (hcd : (x == ("__classdict__" : Str)) = false := by decide) : PE X (.Name x pos) (tM X.K true (eI i)) := de_i hN hv hd hcd
theorem aV {es : List Expr} {fs : List Ev} (he : PE X e (tV X.K f)) (hes : PA X es (tAV X.K fs)) (hs : starEach (e :: es) X.env = (false, eval e X.env) :: starEach es X.env := by rfl) : PA X (e :: es) (tAV X.K (f :: fs)) := da_cons he hes hs
theorem aS {es : List Expr} {fs : List Ev} (he : PE X e (tS X.K f)) (hes : PA X es (tAS X.K fs)) (hs : starEach (e :: es) X.env = (false, eval e X.env) :: starEach es X.env := by rfl) : PA X (e :: es) (tAS X.K (f :: fs)) := da_consS he hes hs
theorem aM {es : List Expr} {fs : List Ev} {md : Bool} (he : PE X e (tM X.K md f)) (hes : PA X es (tAM X.K md fs)) (hs : starEach (e :: es) X.env = (false, eval e X.env) :: starEach es X.env := by rfl) : PA X (e :: es) (tAM X.K md (f :: fs)) := da_consM he hes hs
theorem xAdd (ha : PE X a (tM X.K true f)) (hb : PE X b (tM X.K true g)) : PE X (.BinOp a .Add b pos) (tV X.K (e2 oAdd f g)) := de_bin o_add op_addA ha hb
theorem xMul (ha : PE X a (tM X.K true f)) (hb : PE X b (tM X.K false g)) : PE X (.BinOp a .Mult b pos) (tV X.K (e2 oMul f g)) := de_bin o_mul op_mulA ha hb
theorem xFdiv (ha : PE X a (tM X.K false f)) (hb : PE X b (tM X.K false g)) : PE X (.BinOp a .FloorDiv b pos) (tV X.K (e2 oFdiv f g)) := de_bin o_fdiv op_fdivW ha hb
theorem xMod (ha : PE X a (tM X.K false f)) (hb : PE X b (tM X.K false g)) : PE X (.BinOp a .Mod b pos) (tV X.K (e2 oMod f g)) := de_bin o_mod op_mod ha hb
theorem xPow (ha : PE X a (tM X.K false f)) (hb : PE X b (tM X.K false g)) : PE X (.BinOp a .Pow b pos) (tV X.K (e2 oPow f g)) := de_bin o_pow op_pow ha hb
theorem xGe (ha : PE X a (tM X.K false f)) (hb : PE X b (tM X.K false g)) : PE X (.Compare a [.GtE] [b] pos) (tV X.K (e2 oGe f g)) := de_cmp o_ge op_ge ha hb (nomark _)
theorem xIs (ha : PE X a (tM X.K false f)) (hb : PE X b (tM X.K false g)) : PE X (.Compare a [.Is] [b] pos) (tV X.K (e2 oIs f g)) := de_cmp o_is op_isN ha hb (nomark _)
theorem xEq {k : Nat} (hr : Room k X.A) (ha : PE X a (tM X.K false f)) (hb : PE X b (tM X.K false g)) : PE X (.Compare a [.Eq] [b] pos) (tV X.K (e2 oEq f g)) := de_cmp o_eq (op_eqD (room64' hr)) ha hb (nomark _)
theorem tLt (ha : PE X a (tM X.K false f)) (hb : PE X b (tM X.K false g)) : PT X (.Compare a [.Lt] [b] pos) (tT X.K (e2 oLt f g)) := dt_cmp o_lt op_ltA ha hb (nomark _)
theorem tGt (ha : PE X a (tM X.K false f)) (hb : PE X b (tM X.K false g)) : PT X (.Compare a [.Gt] [b] pos) (tT X.K (e2 oGt f g)) := dt_cmp o_gt op_gtA ha hb (nomark _)
theorem tIs (ha : PE X a (tM X.K false f)) (hb : PE X b (tM X.K false g)) : PT X (.Compare a [.Is] [b] pos) (tT X.K (e2 oIs f g)) := dt_cmp o_is op_isN ha hb (nomark _)
theorem tNe {k : Nat} (hr : Room k X.A) (ha : PE X a (tM X.K false f)) (hb : PE X b (tM X.K false g)) : PT X (.Compare a [.NotEq] [b] pos) (tT X.K (e2 oNe f g)) := dt_cmp o_ne (op_neD (room64' hr)) ha hb (nomark _)
theorem tVal (h : PE X e (tV X.K f)) (he : ∀ whole, isTrue e X.env whole = (do let v ← whole; standAt e.pos; holding [v] (truthy v)) := by intro _; rfl) : PT X e (tT X.K f) := dt_val h he
theorem tOr {rest : List Expr} (ha : PT X a (tT X.K f)) (hb : PW X (.BoolOp .Or (b :: rest) pos) (tT X.K g)) : PW X (.BoolOp .Or (a :: b :: rest) pos) (tT X.K (eOr f g)) := dw_or ha hb
theorem xIx (ha : PE X a (tM X.K true f)) (hb : PE X b (tM X.K false g)) (hs : PlainIx b := by intro _ _; rfl) : PE X (.Subscript a b pos) (tV X.K (eIx f g)) := de_ixB ha hb hs
theorem xTup {es : List Expr} {x1} {fs : List Ev} (h : PA X es (tAV X.K fs)) (hz : fs.length ≤ 60 := by decide) : PE X (.Tuple es x1 pos) (tV X.K (eTup fs)) := de_tup h (Nat.le_trans hz (by decide))
theorem xLst {es : List Expr} {fs : List Ev} (h : PA X es (tAV X.K fs)) (hz : fs.length ≤ 60 := by decide) : PE X (.List es pos) (tV X.K (eLst fs)) := de_lst h (Nat.le_trans hz (by decide))
theorem xBox {es : List Expr} {fs : List Ev} (h : PA X es (tAV X.K fs)) (hz : fs.length ≤ 60 := by decide) : PE X (.List es pos) (tV X.K (eBox fs)) := de_box h (Nat.le_trans hz (by decide))
theorem bLen {es : List Expr} {fs : List Ev} (z : X.mg "len" = none) (ha : PA X (e :: es) (tAM X.K false fs)) (hg : Gl X "len" := by rfl) (hs : starEach (e :: es) X.env = (false, eval e X.env) :: starEach es X.env := by rfl) (hp : (backTo pos (starEach es X.env)).any (·.1) = false := by rfl) : PE X (.Call (.Name "len" p1) (e :: es) [] pos) (tV X.K (eN (n1 oLen) fs)) :=
  de_n o_len ha fun t h => pe_callB cr_len hg z PySem.boot_len h (by decide) (by decide) hs hp
theorem bAbs {es : List Expr} {fs : List Ev} (z : X.mg "abs" = none) (ha : PA X (e :: es) (tAM X.K false fs)) (hv : bootBuiltins "abs" = some (.builtin "abs") := by decide +kernel) (hg : Gl X "abs" := by rfl) (hs : starEach (e :: es) X.env = (false, eval e X.env) :: starEach es X.env := by rfl) (hp : (backTo pos (starEach es X.env)).any (·.1) = false := by rfl) : PE X (.Call (.Name "abs" p1) (e :: es) [] pos) (tV X.K (eN (n1 oAbs) fs)) :=
  de_n o_abs ha fun t h => pe_callB call_abs hg z hv h (by decide) (by decide) hs hp
theorem bInt {es : List Expr} {fs : List Ev} (z : X.mg "int" = none) (ha : PA X (e :: es) (tAM X.K false fs)) (hv : bootBuiltins "int" = some (.type "int") := by decide +kernel) (hg : Gl X "int" := by rfl) (hs : starEach (e :: es) X.env = (false, eval e X.env) :: starEach es X.env := by rfl) (hp : (backTo pos (starEach es X.env)).any (·.1) = false := by rfl) : PE X (.Call (.Name "int" p1) (e :: es) [] pos) (tV X.K (eN (n1 oInt) fs)) :=
  de_callT o_int call_int1 hg z hv ha (by decide) (by decide) hs hp
theorem bAll {es : List Expr} {fs : List Ev} (hc : X.calm = true) (z : X.mg "all" = none) (ha : PA X (e :: es) (tAM X.K false fs)) (hv : bootBuiltins "all" = some (.builtin "all") := by decide +kernel) (hg : Gl X "all" := by rfl) (hs : starEach (e :: es) X.env = (false, eval e X.env) :: starEach es X.env := by rfl) (hp : (backTo pos (starEach es X.env)).any (·.1) = false := by rfl) : PE X (.Call (.Name "all" p1) (e :: es) [] pos) (tV X.K (eN (n1 oAll) fs)) :=
  de_n o_all ha fun t h => pe_callB (cr_all hc) hg z hv h (by decide) (by decide) hs hp
theorem bIsi {x : Str} (t : Ty) (z : X.mg "isinstance" = none) (zx : X.mg x = none) (ha : PE X a (tM X.K false f)) (vx : bootBuiltins x = some (.type t.nm) := by decide +kernel) (hv : bootBuiltins "isinstance" = some (.builtin "isinstance") := by decide +kernel) (hg : Gl X "isinstance" := by rfl) (gx : Gl X x := by rfl) (hd : (x == ("__debug__" : Str)) = false := by decide) (hn : x ≠ "__name__" := by decide)
    (hs : starEach [a, .Name x p2] X.env = (false, eval a X.env) :: starEach [.Name x p2] X.env := by rfl) (hs2 : starEach [.Name x p2] X.env = (false, eval (.Name x p2) X.env) :: starEach [] X.env := by rfl) (hpl : (backTo pos (starEach [.Name x p2] X.env)).any (·.1) = false := by rfl) : PE X (.Call (.Name "isinstance" p1) [a, .Name x p2] [] pos) (tV X.K (e1 (oIsi [t]) f)) := de_isi t hg z hv gx zx vx ha hd hn hs hs2 hpl
theorem bIsi2 {x y : Str} {kk : Nat} (t u : Ty) (z : X.mg "isinstance" = none) (zx : X.mg x = none) (zy : X.mg y = none) (ha : PE X a (tM X.K false f)) (vx : bootBuiltins x = some (.type t.nm) := by decide +kernel) (vy : bootBuiltins y = some (.type u.nm) := by decide +kernel) (hv : bootBuiltins "isinstance" = some (.builtin "isinstance") := by decide +kernel) (hg : Gl X "isinstance" := by rfl) (gx : Gl X x := by rfl) (gy : Gl X y := by rfl)
    (hd : (x == ("__debug__" : Str)) = false := by decide) (hn : x ≠ "__name__" := by decide) (hd' : (y == ("__debug__" : Str)) = false := by decide) (hn' : y ≠ "__name__" := by decide)
    (hs : starEach [a, .Tuple [.Name x p2, .Name y p3] kk p4] X.env = (false, eval a X.env) :: starEach [.Tuple [.Name x p2, .Name y p3] kk p4] X.env := by rfl) (hs2 : starEach [.Tuple [.Name x p2, .Name y p3] kk p4] X.env = (false, eval (.Tuple [.Name x p2, .Name y p3] kk p4) X.env) :: starEach [] X.env := by rfl) (hpl : (backTo pos (starEach [.Tuple [.Name x p2, .Name y p3] kk p4] X.env)).any (·.1) = false := by rfl)
    (hs3 : starEach [.Name x p2, .Name y p3] X.env = (false, eval (.Name x p2) X.env) :: starEach [.Name y p3] X.env := by rfl) (hs4 : starEach [.Name y p3] X.env = (false, eval (.Name y p3) X.env) :: starEach [] X.env := by rfl) :
    PE X (.Call (.Name "isinstance" p1) [a, .Tuple [.Name x p2, .Name y p3] kk p4] [] pos) (tV X.K (e1 (oIsi [t, u]) f)) := de_isi2 t u hg z hv gx zx vx gy zy vy ha hd hn hd' hn' hs hs2 hpl hs3 hs4
end
end HF
namespace HF
open PySem PySem.Spec L2
open PyProof.Rows hiding St
structure Cal (P : Program) (w : World) (K : PySem.W.Frag) (mg : Str → Option Value) (base : Heap) (k : Nat) (x : Str) (st : Stmt) (fn : Fn) (ps : List Str) : Prop where
  ex : ∃ (f : Addr) (kV doc pm : Value) (an : Option Addr) (cdv ct : Value), FnG P w K mg base k f (PySem.W.fnOf x x (defArgs st) (defBody st) (defScope st) .none kV doc pm an cdv ct) ps (spF K fn ps.length) ∧ mg x = some (.ref f) ∧ PySem.W.keepIn K (.ref f) = true
structure Std (K : PySem.W.Frag) (mg : Str → Option Value) (x : Str) (st : Stmt) : Prop where
  ex : ∃ (f : Addr) (oc : Value) (od : Option Addr) (kV doc pm : Value) (an : Option Addr) (cdv ct : Value) (osl : Array (Option Value)), K.lookup f = some ⟨oc, od, .func (PySem.W.fnOf x x (defArgs st) (defBody st) (defScope st) .none kV doc pm an cdv ct), osl⟩ ∧ PySem.W.codeIn K cdv x = true ∧ PySem.W.keepIn K (.ref f) = true ∧ mg x = some (.ref f)
theorem std_mk {K : PySem.W.Frag} {h : Heap} {mg : Str → Option Value} {x : Str} {st : Stmt} {f : Addr} {oc : Value} {od an : Option Addr} {osl : Array (Option Value)} {kV doc pm cdv ct : Value} (X : K.In h) (G : h.Ns mainGlobals mg) (a : PySem.W.nsIn K mainGlobals x = some (some (.ref f)))
    (l : K.lookup f = some ⟨oc, od, .func (PySem.W.fnOf x x (defArgs st) (defBody st) (defScope st) .none kV doc pm an cdv ct), osl⟩) (c : PySem.W.codeIn K cdv x = true) (k : PySem.W.keepIn K (.ref f) = true) : Std K mg x st := ⟨⟨f, oc, od, kV, doc, pm, an, cdv, ct, osl, l, c, k, PySem.W.mg_of X G a⟩⟩
theorem Cal.of {P : Program} {w : World} {K : PySem.W.Frag} {mg : Str → Option Value} {base : Heap} {k : Nat} {x : Str} {st : Stmt} {N ps : List Str} {sv : Sv} (n : Nat) (S : Std K mg x st) (sc : FnScope N ps (defScope st)) (hn : N.length = ps.length + n)
    (hb : ∀ (f : Addr) (cdv : Value) (A : Around) (outer : List PySem.Env) (s : Shared) (H : Hp) (E : XK), A.guards = some [] → Room k (A.deeper (envOfC x (defScope st) s.heap.objs.size f cdv)) → PSs (cxOf CXn P w K mg base N x (defScope st) f cdv A outer s H E).nox (defBody st) (tD K sv)) :
    Cal P w K mg base (k + 1) x st (runFn n sv) ps := by
  obtain ⟨f, oc, od, kV, doc, pm, an, cdv, ct, osl, l, c, kp, hm⟩ := S.ex
  exact ⟨f, kV, doc, pm, an, cdv, ct, fn_g n l c sc hn fun A outer s H E hg hr => hb f cdv A outer s H E hg hr, hm, kp⟩
theorem Cal.zero {P : Program} {w : World} {K : PySem.W.Frag} {mg : Str → Option Value} {base : Heap} {k : Nat} {x : Str} {st : Stmt} {ps : List Str} (S : Std K mg x st) : Cal P w K mg base k x st (fun _ => fail) ps := by
  obtain ⟨f, oc, od, kV, doc, pm, an, cdv, ct, osl, l, c, kp, hm⟩ := S.ex
  exact ⟨f, kV, doc, pm, an, cdv, ct, ⟨spF.len, fun A outer s H args us vs Q E hg hr e0 hb r h => by
    obtain ⟨_, _, _, _, _, _, _, _, e, _⟩ := h
    cases e⟩, hm, kp⟩
theorem Cal.mono {P : Program} {w : World} {K : PySem.W.Frag} {mg : Str → Option Value} {base : Heap} {j k : Nat} {x : Str} {st : Stmt} {fn : Fn} {ps : List Str} (c : Cal P w K mg base j x st fn ps) (h : j ≤ k) : Cal P w K mg base k x st fn ps := by
  obtain ⟨f, kV, doc, pm, an, cdv, ct, F, r⟩ := c.ex
  exact ⟨f, kV, doc, pm, an, cdv, ct, F.mono h, r⟩
def sUnp (i : Nat) (oi : Bool) (j : Nat) (oj : Bool) (f : Ev) : Sv := fun r => bnd (f r) fun d => match d with
  | .tup [d, e] => match putS oi i d r with
    | some r1 => match putS oj j e r1 with
      | some r2 => ret (.nx, r2)
      | none => fail
    | none => fail
  | _ => fail
section
variable {X : Cx} {a b c e : Expr} {pos p1 p2 p3 p4 p5 : Pos} {f g h : Ev}
theorem callF {k : Nat} {x : Str} {st : Stmt} {fn : Fn} {ps : List Str} {es : List Expr} {fs : List Ev} (C : Cal X.prog X.w X.K X.mg X.base k x st fn ps) (hg : X.A.guards = some []) (hr : Room k X.A) (ha : PA X (e :: es) (tAS X.K fs))
    (hb : ∀ (kV doc pm : Value) (an : Option Addr) (cdv ct : Value) (us : List Value), us.length = ps.length → bindArgs (PySem.W.fnOf x x (defArgs st) (defBody st) (defScope st) .none kV doc pm an cdv ct) ⟨us, []⟩ = pure (ps.zip us))
    (hn : fs.length = ps.length := by rfl) (hgl : Gl X x := by rfl) (hdb : (x == ("__debug__" : Str)) = false := by decide) (he : starEach (e :: es) X.env = (false, eval e X.env) :: starEach es X.env := by rfl) (hpl : (backTo pos (starEach es X.env)).any (·.1) = false := by rfl) : PE X (.Call (.Name x p1) (e :: es) [] pos) (tV X.K (eCall fn fs)) := by
  obtain ⟨f, kV, doc, pm, an, cdv, ct, F, hm, kp⟩ := C.ex
  exact de_call F hg hr hgl hm kp (fun s us _ hl => .of_eq (hb kV doc pm an cdv ct us hl)) hn ha hdb he hpl
theorem kS {nm : Option Str} {kpos : Pos} {kws : List Keyword} {fs : List Ev} (he : PE X e (tS X.K f)) (hes : PK X kws (tAS X.K fs)) : PK X (⟨nm, e, kpos⟩ :: kws) (tAS X.K (f :: fs)) := dk_cons he hes
theorem wZip {elts : List Expr} {kk : Nat} (z : X.mg "zip" = none) (ha : PA X [a, c] (tAS X.K [f, g])) (hg : Gl X "zip" := by rfl) (hs : starEach [a, c] X.env = (false, eval a X.env) :: starEach [c] X.env := by rfl) (hpl : (backTo pos (starEach [c] X.env)).any (·.1) = false := by rfl) : PI X (.Tuple elts kk p2) (.Call (.Name "zip" p1) [a, c] [] pos) (tI X.K (itN (l2 itZip) [f, g])) := di_zip hg z ha hs hpl
theorem g1 (i : Nat) {x : Str} (hN : X.N.Nodup) (hi : X.N[i]? = some x := by rfl) (hx : Loc X.env.scope x := by first | exact Or.inl rfl | exact Or.inr rfl) (hf : X.fn x = true ∨ X.env.scope.names.lookup x = some .local := by first | exact .inl rfl | exact .inr rfl) : PG X (.Name x pos) (tG X.K (.one i)) := dg_one hN hi hx hf
theorem g2 (i j : Nat) {x y : Str} {kk : Nat} (hc : X.calm = true) (hN : X.N.Nodup) (hi : X.N[i]? = some x := by rfl) (hj : X.N[j]? = some y := by rfl) (hx : Loc X.env.scope x := by first | exact Or.inl rfl | exact Or.inr rfl) (hy : Loc X.env.scope y := by first | exact Or.inl rfl | exact Or.inr rfl)
    (hf : X.fn x = true ∨ X.env.scope.names.lookup x = some .local := by first | exact .inl rfl | exact .inr rfl) (hf2 : X.fn y = true ∨ X.env.scope.names.lookup y = some .local := by first | exact .inl rfl | exact .inr rfl) : PG X (.Tuple [.Name x p1, .Name y p2] kk pos) (tG X.K (.two i j)) := dg_two hc hN hi hj hx hy hf hf2
theorem stSet (i : Nat) {x : Str} (hN : X.N.Nodup) (he : PE X e (tS X.K f)) (hi : X.N[i]? = some x := by rfl) (hx : Loc X.env.scope x := by first | exact Or.inl rfl | exact Or.inr rfl) (hs : swapsWith e (some (.Name x p1)) pos.line X.env = pure false := by rfl) (hf : X.fn x = true ∨ X.env.scope.names.lookup x = some .local := by first | exact .inl rfl | exact .inr rfl) : PS X (.Assign [.Name x p1] e pos) (tD X.K (sSet i f)) := ds_set hN hi hx he hs hf
theorem stPar (i : Nat) (oi : Bool) (j : Nat) (oj : Bool) {x y : Str} {px py pt pt2 : Pos} {kt k2 : Nat} (hc : X.calm = true) (hN : X.N.Nodup) (ha : PA X [a, c] (tAV X.K [f, g])) (hi : X.N[i]? = some x := by rfl) (hj : X.N[j]? = some y := by rfl) (hij : i ≠ j := by decide) (hx : X.env.scope.names.lookup x = some .local := by rfl) (hy : X.env.scope.names.lookup y = some .local := by rfl)
    (hw : swappedStores [.Tuple [.Name x px, .Name y py] kt pt] (.Tuple [a, c] k2 pt2) X.env = pure (some [x, y]) := by rfl) (hs : swapsWithSole [.Tuple [.Name x px, .Name y py] kt pt] (.Tuple [a, c] k2 pt2) pos.line X.env = pure false := by rfl) : PS X (.Assign [.Tuple [.Name x px, .Name y py] kt pt] (.Tuple [a, c] k2 pt2) pos) (tD X.K (sPar i oi j oj f g)) := ds_par hc hN hi hj hij hx hy ha hw hs
theorem stRetV (i : Nat) {x : Str} (hN : X.N[i]? = some x := by rfl) (hv : Vis X.env.scope x := by first | exact Or.inl rfl | exact Or.inr (Or.inl rfl) | exact Or.inr (Or.inr rfl)) (hd : (x == ("__debug__" : Str)) = false := by decide) (hcd : (x == ("__classdict__" : Str)) = false := by decide) : PS X (.Return (some (.Name x p1)) pos) (tD X.K (sRetV i)) := ds_retV hN hv hd hcd
theorem stBset (i : Nat) {x : Str} {ei ev : Expr} {spos : Pos} (hi : PE X ei (tM X.K false g)) (he : PE X ev (tM X.K false f)) (hN : X.N[i]? = some x := by rfl) (hv : Vis X.env.scope x := by first | exact Or.inl rfl | exact Or.inr (Or.inl rfl) | exact Or.inr (Or.inr rfl)) (hd : (x == ("__debug__" : Str)) = false := by decide) (hcd : (x == ("__classdict__" : Str)) = false := by decide)
    (ha : ∀ v, assign (.Subscript (.Name x p1) ei spos) X.env v = (do
      let ov ← holding [v] (eval (.Name x p1) X.env)
      let iv ← holding [v, ov] (eval ei X.env)
      standAt spos
      holding [v, ov, iv] (setItem ov iv v)
      release [v, ov, iv] []) := by intro _; rfl)
    (hs : swapsWithSole [.Subscript (.Name x p1) ei spos] ev pos.line X.env = pure false := by rfl) (hw : swappedStores [.Subscript (.Name x p1) ei spos] ev X.env = pure none := by rfl) (h1 : (assignEach [.Subscript (.Name x p1) ei spos] X.env).map (·.2) = [assign (.Subscript (.Name x p1) ei spos) X.env] := by rfl) :
    PS X (.Assign [.Subscript (.Name x p1) ei spos] ev pos) (tD X.K (sBSet i g f)) := ds_bset hN hv hd hcd hi he ha hs hw h1
theorem stFor {tg iter : Expr} {body : List Stmt} {t : Tg} {it : Ws} {sv : Sv} (hp : PassesOwn (model X.prog X.w) X.A X.env X.xe) (hc : X.calm = true) (hi : PI X tg iter (tI X.K it)) (hg : PG X tg (tG X.K t)) (hb : PSs X body (tD X.K sv)) (hs : ∀ x, foldedSetIterable iter X.env x = pure x := by intro _; rfl) : PS X (.For tg iter body [] pos) (tD X.K (sFor t it sv)) := ds_for hp hc hi hg hb hs
theorem xLc {elt tg iter : Expr} {ifs : List Expr} {scope : Scope} (own : List (Str × Nat)) (t : Tg) {it : Ws} {co : Option Ev} (hc : X.calm = true) (hN : X.N.Nodup) (hi : PI X tg iter (tI X.K it)) (ok : BlkOk X.N X.env.scope scope own)
    (hg : ∀ (s : Shared) (H : Hp) (C : Addr) (cl : List (Str × Addr)) (fp : List Addr), PG (X.blk s H scope (compEnvC scope cl C X.env) fp) tg (tG X.K t)) (ht : ∀ (s : Shared) (H : Hp) (C : Addr) (cl : List (Str × Addr)) (fp : List Addr), PTs (X.blk s H scope (compEnvC scope cl C X.env) fp) ifs (tC? X.K co))
    (he : ∀ (s : Shared) (H : Hp) (C : Addr) (cl : List (Str × Addr)) (fp : List Addr), PE (X.blk s H scope (compEnvC scope cl C X.env) fp) elt (tV X.K f)) (hs : ∀ i ∈ t.slots, i ∈ own.map (·.2) := by decide) (hf : ∀ x, foldedSetIterable iter X.env x = pure x := by intro _; rfl) :
    PE X (.ListComp elt [⟨tg, iter, ifs, 0⟩] scope pos) (tV X.K (eLc (own.map (·.2)) t it co f)) := de_lc hc hN hi ok hs hg ht he hf
end
end HF
namespace HF
open PySem PySem.Spec L2
open PyProof.Rows hiding St
def sMutAt (i j : Nat) (op : D → List D → Option D) (fs : List Ev) : Sv := fun r => bnd (evs fs r) fun xs => match r[i]? with
  | some (.ow (.lst true ds)) => match ds[j]? with
    | some d => bnd (lift (op d xs)) fun d' => ret (.nx, r.set i (.ow (.lst true (ds.set j d'))))
    | none => fail
  | _ => fail
theorem RpL.at {K : PySem.W.Frag} {H : Hp} {io : List Addr} (bl : BL io H) : ∀ {ds : List D} {vs : List V} {os : List Addr} {j : Nat} {d : D}, RpL K H io ds vs os → ds[j]? = some d → ∃ v o1 o2 o3, vs[j]? = some v ∧ os = o1 ++ o2 ++ o3 ∧ Rp K H io d v o2 ∧
    ∀ (H1 : Hp) (io1 : List Addr) (a : Addr) (o : HO) (d' : D) (o2' : List Addr), Kp io H io1 H1 → Mut (H1 a) → a ∉ o1 → a ∉ o3 → Rp K (L2.upd H1 a o) io1 d' v o2' → RpL K (L2.upd H1 a o) io1 (ds.set j d') vs (o1 ++ o2' ++ o3)
  | _, _, _, _, _, .nil, e => by simp at e
  | _, _, _, 0, _, .cons (os := os) (ps := ps) h r, e => by
    simp at e
    subst e
    exact ⟨_, [], os, ps, rfl, rfl, h, fun H1 io1 a o d' o2' k m _ n3 x => .cons x ((r.keep k bl).upd m n3)⟩
  | _, _, _, j + 1, _, .cons (os := os) (ps := ps) h r, e => by
    obtain ⟨v, o1, o2, o3, e1, e2, x, g⟩ := RpL.at bl (j := j) r (by simpa using e)
    subst e2
    refine ⟨v, os ++ o1, o2, o3, by simpa using e1, by simp, x, fun H1 io1 a o d' o2' k m n1 n3 y => ?_⟩
    have := RpL.cons ((h.keep k bl).upd (o := o) m fun z => n1 (List.mem_append_left _ z)) (g H1 io1 a o d' o2' k m (fun z => n1 (List.mem_append_right _ z)) n3 y)
    rw [List.set_cons_succ]
    simpa using this
section
variable {X : Cx}
def sFail : Sv := fun _ => fail
end
end HF
namespace HF
open PySem PySem.Spec PyProof.Rows L2
structure Mk5 (m : Nat) : Prop where
  odd : m % 2 = 1
  back : lcgI m 0 (m + 1) = 0
  all : ∀ j, j ≤ m → ∃ b, b ≤ m ∧ lcgI m 0 b = j
end HF
namespace HF
open PySem PySem.Spec PyProof.Rows L2
structure TabK (t : SetTable) (hs : List Int) : Prop where
  up : Ris t.place.toList
  none_ : t.dummies = #[]
  many : t.place.size = hs.length
  good : Mk5 t.mask
  low : ∀ x ∈ t.place.toList, x ≤ t.mask
  way_ : ∀ (i : Nat) (h : Int) (j : Nat), hs[i]? = some h → t.place.toList[i]? = some j → ∃ k, way t.mask h k = j ∧ ∀ q, q < k → way t.mask h q ∈ t.place.toList
end HF
namespace HF
open PySem PySem.Spec PyProof.Rows L2
abbrev Kt := Addr × List Str
abbrev hT (P : Program) (w : World) (k : List Str) : Int := tupleKeyHash (strKind P w) k
abbrev IsS (P : Program) (w : World) (h : Heap) (k : List Str) (a : Addr) : Prop := IsTupleKey (strKind P w) h k a
section
variable {P : Program} {w : World} {A : Around} {E : Value → Shared → Prop} {s : Shared}
def rowS (P : Program) (w : World) (L : List Kt) : List (Int × Value) := L.map fun p => (hT P w p.2, Value.ref p.1)
structure SetS (P : Program) (w : World) (h : Heap) (a : Addr) (L : List Kt) (es : Array (Int × Value)) (ep : Nat) (t : SetTable) : Prop where
  ob : ∃ o, h.get? a = some o ∧ o.ExactSet ∧ o.data = .set es ep t
  rows : es.toList = rowS P w L
  tab : TabK t (L.map fun p => hT P w p.2)
  nd : (L.map (·.2)).Nodup
  tup : ∀ p ∈ L, IsS P w h p.2 p.1
  led : w.params.followText "set-order" = true ∨ t.led = true
  room : L.length * 5 < t.mask * 3
  small : t.mask = 7 ∨ t.mask = 31 ∨ t.mask = 127 ∨ t.mask = 511
variable {a : Addr} {L : List Kt} {es : Array (Int × Value)} {ep : Nat} {t : SetTable}
theorem SetS.size (R : SetS P w s.heap a L es ep t) : es.size = L.length := by
  have h := congrArg List.length R.rows
  unfold rowS at h
  rwa [Array.length_toList, List.length_map] at h
theorem SetS.fits (R : SetS P w s.heap a L es ep t) : t.fits es.size = true := by
  have h1 := R.tab.many
  rw [List.length_map] at h1
  have h2 := R.size
  have h3 := R.room
  unfold SetTable.fits SetTable.fill
  rw [R.tab.none_, Bool.and_eq_true, beq_iff_eq, decide_eq_true_eq]
  show t.place.size = es.size ∧ t.place.size + 0 ≤ t.mask
  omega
theorem SetS.entry (R : SetS P w s.heap a L es ep t) {i : Nat} {p : Kt} (h : L[i]? = some p) : es[i]? = some (hT P w p.2, Value.ref p.1) := by
  rw [← Array.getElem?_toList, R.rows]
  unfold rowS
  rw [List.getElem?_map, h]; rfl
theorem SetS.kept (R : SetS P w s.heap a L es ep t) : ¬ t.gaveWay = true := by
  unfold SetTable.gaveWay
  rw [R.tab.good.odd]
  decide
end
end HF
namespace HF
open PySem PySem.Spec PyProof.Rows L2
section
variable {P : Program} {w : World} {A : Around} {E : Value → Shared → Prop} {s : Shared} {a : Addr} {L : List Kt} {es : Array (Int × Value)} {ep : Nat} {t : SetTable}
theorem IsS.keep {h h' : Heap} {k : List Str} {b : Addr} (hb : IsS P w h k b) (hk : ∀ c o, h.get? c = some o → h'.get? c = some o) : IsS P w h' k b := by
  obtain ⟨o, items, n, e, r⟩ := hb
  exact ⟨o, items, n, hk b o e, r⟩
end
end HF
namespace HF
open PySem PySem.Spec PyProof.Rows L2
structure GotS (ks : List Kt) (i : Nat) (L : List Kt) : Prop where
  sub : ∀ p ∈ L, p ∈ ks.take i
  all : ∀ p ∈ ks.take i, p.2 ∈ L.map (·.2)
  len : L.length ≤ i
theorem take_succ_of {α : Type} {l : List α} {i : Nat} {x : α} (h : l[i]? = some x) : l.take (i + 1) = l.take i ++ [x] := by rw [List.take_succ, h]; rfl
theorem GotS.new {ks L L' : List Kt} {i : Nat} {x : Kt} (g : GotS ks i L) (h : ks[i]? = some x) (pm : L'.Perm (x :: L)) : GotS ks (i + 1) L' := by
  have e := take_succ_of h
  refine ⟨fun p hp => ?_, fun p hp => ?_, by rw [pm.length_eq, List.length_cons]; exact Nat.succ_le_succ g.len⟩
  · rw [e]
    rcases List.mem_cons.mp (pm.mem_iff.mp hp) with rfl | z
    · exact List.mem_append_right _ (List.mem_singleton.mpr rfl)
    · exact List.mem_append_left _ (g.sub p z)
  · rw [e] at hp
    rw [(pm.map (·.2)).mem_iff, List.map_cons]
    rcases List.mem_append.mp hp with z | z
    · exact List.mem_cons_of_mem _ (g.all p z)
    · rw [List.mem_singleton.mp z]; exact List.mem_cons_self
section
variable {P : Program} {w : World} {A : Around} {E : Value → Shared → Prop} {s : Shared}
theorem SetS.keep {h h' : Heap} {a : Addr} {L : List Kt} {es : Array (Int × Value)} {ep : Nat} {t : SetTable} (R : SetS P w h a L es ep t) (ha : ∀ o, h.get? a = some o → h'.get? a = some o) (ht : ∀ p ∈ L, IsS P w h' p.2 p.1) : SetS P w h' a L es ep t := by
  obtain ⟨o, ho, r⟩ := R.ob
  exact ⟨⟨o, ha o ho, r⟩, R.rows, R.tab, R.nd, ht, R.led, R.room, R.small⟩
end
end HF
namespace HF
open PySem PySem.Spec PyProof.Rows L2
abbrev bare (w : World) : Obj := { cls := .type "set", dict := none, data := .set #[] 0 (.fresh 0 0 (!w.params.followText "set-order")) }
end HF
namespace HF
open PySem PySem.Spec PyProof.Rows L2
def IsFlat (h : Heap) (v : Value) (ks : List Key) : Prop := ∃ (a : Addr) (o : Obj) (its : Array Value) (n : Nat), v = .ref a ∧ h.get? a = some o ∧ o.cls = .type "tuple" ∧ o.data = .seq its n ∧ Vals (ks.map kV) its.toList
theorem IsFlat.keeps {h h' : Heap} {v : Value} {ks : List Key} (x : IsFlat h v ks) (k : ∀ b o, h.get? b = some o → o.cls = .type "tuple" → h'.get? b = some o) : IsFlat h' v ks := by
  obtain ⟨a, o, its, n, e, ho, hc, r⟩ := x
  exact ⟨a, o, its, n, e, k a o ho hc, hc, r⟩
theorem vals_inj : ∀ {ks js : List Key} {us : List Value}, Vals (ks.map kV) us → Vals (js.map kV) us → ks = js
  | [], [], _, _, _ => rfl
  | [], _ :: _, _, .nil, h => nomatch h
  | _ :: _, [], _, h, .nil => nomatch h
  | k :: ks, j :: js, u :: us, .cons r h, .cons r' h' => by
    have e := vals_inj h h'
    subst e
    have : k = j := by
      cases k with
      | inl i =>
        obtain ⟨t, rfl⟩ := (show ∃ t, u = Value.int i t from r)
        cases j with
        | inl i' => obtain ⟨t', e⟩ := (show ∃ t, Value.int i _ = Value.int i' t from r'); cases e; rfl
        | inr x' => obtain ⟨t', e⟩ := (show ∃ t, Value.int i _ = Value.str x' t from r'); cases e
      | inr x =>
        obtain ⟨t, rfl⟩ := (show ∃ t, u = Value.str x t from r)
        cases j with
        | inl i' => obtain ⟨t', e⟩ := (show ∃ t, Value.str x _ = Value.int i' t from r'); cases e
        | inr x' => obtain ⟨t', e⟩ := (show ∃ t, Value.str x _ = Value.str x' t from r'); cases e; rfl
    rw [this]
theorem IsFlat.inj {h : Heap} {v : Value} {ks js : List Key} (x : IsFlat h v ks) (y : IsFlat h v js) : ks = js := by
  obtain ⟨a, o, its, n, e, ho, _, hd, r⟩ := x
  obtain ⟨a', o', its', n', e', ho', _, hd', r'⟩ := y
  rw [e] at e'; cases e'
  rw [ho] at ho'; cases ho'
  rw [hd] at hd'; cases hd'
  exact vals_inj r r'
end HF
namespace HF
open PySem PySem.Spec PyProof.Rows L2
structure SetS0 (P : Program) (w : World) (h : Heap) (a : Addr) (L : List Kt) : Prop where
  ex : ∃ (es : Array (Int × Value)) (ep : Nat) (t : SetTable), (∃ o, h.get? a = some o ∧ o.ExactSet ∧ o.data = .set es ep t) ∧ es.toList = rowS P w L ∧ TabK t (L.map fun p => hT P w p.2) ∧ (L.map (·.2)).Nodup ∧
    (w.params.followText "set-order" = true ∨ t.led = true) ∧ L.length * 5 < t.mask * 3 ∧ (t.mask = 7 ∨ t.mask = 31 ∨ t.mask = 127 ∨ t.mask = 511)
theorem SetS.t0 {P : Program} {w : World} {h : Heap} {a : Addr} {L : List Kt} {es : Array (Int × Value)} {ep : Nat} {t : SetTable} (R : SetS P w h a L es ep t) : SetS0 P w h a L := ⟨es, ep, t, R.ob, R.rows, R.tab, R.nd, R.led, R.room, R.small⟩
end HF
namespace HF
open PySem PySem.Spec L2
open PyProof.Rows hiding St
abbrev Ks := Addr × List Key
section
variable {X : Cx}
def keyOfD : D → Option Key
  | .int i => some (.inl i)
  | .str x => some (.inr x)
  | _ => none
def keysOf : List D → Option (List Key)
  | [] => some []
  | d :: r => match keyOfD d with
    | some k => (keysOf r).map (k :: ·)
    | none => none
def rowOf : D → Option (List Key)
  | .tup ds => keysOf ds
  | _ => none
def rowsOf : List D → Option (List (List Key))
  | [] => some []
  | d :: r => match rowOf d with
    | some k => (rowsOf r).map (k :: ·)
    | none => none
theorem RpL.keys {K : PySem.W.Frag} {H : Hp} {io : List Addr} : ∀ {ds : List D} {vs : List V} {os : List Addr} {ks : List Key}, RpL K H io ds vs os → keysOf ds = some ks → vs = ks.map kV ∧ ∀ x, Sum.inr x ∈ ks → PyData.strOk x = true
  | _, _, _, _, .nil, e => by cases e; exact ⟨rfl, fun _ z => nomatch z⟩
  | _, _, _, _, .cons (ds := ds) h r, e => by
    unfold keysOf at e
    cases h <;> first | cases e | skip
    · rename_i i
      have e' : (keysOf ds).map (Sum.inl i :: ·) = some _ := e
      cases hi : keysOf ds with
      | none => rw [hi] at e'; cases e'
      | some ys =>
        rw [hi] at e'
        cases e'
        obtain ⟨h1, h2⟩ := r.keys hi
        rw [h1]
        exact ⟨rfl, fun x hx => (List.mem_cons.mp hx).elim (fun q => by cases q) (h2 x)⟩
    · rename_i z hz
      have e' : (keysOf ds).map (Sum.inr z :: ·) = some _ := e
      cases hi : keysOf ds with
      | none => rw [hi] at e'; cases e'
      | some ys =>
        rw [hi] at e'
        cases e'
        obtain ⟨h1, h2⟩ := r.keys hi
        rw [h1]
        exact ⟨rfl, fun x hx => (List.mem_cons.mp hx).elim (fun q => by cases q; exact hz) (h2 x)⟩
def RowOk (K : PySem.W.Frag) (H : Hp) (p : Ks) : Prop := TQ K H p.1 (p.2.map kV) ∧ ∀ x, Sum.inr x ∈ p.2 → PyData.strOk x = true
theorem RpL.rows {K : PySem.W.Frag} {H : Hp} {io : List Addr} : ∀ {ds : List D} {vs : List V} {os : List Addr} {kss : List (List Key)}, RpL K H io ds vs os → rowsOf ds = some kss → ∃ kts : List Ks, vs = kts.map (fun p => V.ref p.1) ∧ kts.map (·.2) = kss ∧ ∀ p ∈ kts, RowOk K H p
  | _, _, _, _, .nil, e => by cases e; exact ⟨[], rfl, rfl, fun _ z => nomatch z⟩
  | _, _, _, _, .cons (d := d) (ds := ds) h r, e => by
    unfold rowsOf at e
    cases h with
    | tup h rr =>
      rename_i a ws es
      have e' : (match keysOf es with | some k => (rowsOf ds).map (k :: ·) | none => none) = some _ := e
      cases hk : keysOf es with
      | none => rw [hk] at e'; cases e'
      | some k =>
        rw [hk] at e'
        dsimp only at e'
        cases hr : rowsOf ds with
        | none => rw [hr] at e'; cases e'
        | some kss =>
          rw [hr] at e'
          cases e'
          obtain ⟨kts, h1, h2, h3⟩ := r.rows hr
          obtain ⟨g1, g2⟩ := rr.keys hk
          refine ⟨(a, k) :: kts, by rw [h1]; rfl, by rw [List.map_cons, h2], fun p hp => ?_⟩
          rcases List.mem_cons.mp hp with q | hp
          · subst q
            exact ⟨by rw [← g1]; exact h, g2⟩
          · exact h3 p hp
    | _ => cases e
variable {a b c e : Expr} {pos p1 p2 p3 p4 p5 : Pos} {f g h : Ev}
end
end HF
namespace HF
open PySem PySem.Spec L2
open PyProof.Rows hiding St
def putSs : List (Nat × Bool) → List D → Env → Option Env
  | [], [], r => some r
  | (i, o) :: ts, d :: ds, r => (putS o i d r).bind (putSs ts ds)
  | _, _, _ => none
def setAll : List (Nat × Bool) → List V → L2.St → L2.St
  | (i, _) :: ts, v :: vs, σ => setAll ts vs (σ.set i (some v))
  | _, _, σ => σ
theorem SR.putSs {K : PySem.W.Frag} {io : List Addr} {b : Bx} {H : Hp} : ∀ {ts : List (Nat × Bool)} {ds : List D} {vs : List V} {os : List Addr} {r r' : Env} {oss : List (List Addr)} {σ : L2.St}, SR K io b r oss σ H → RpL K H io ds vs os → os.Nodup → (∀ a ∈ os, a ∉ oss.flatten) → HF.putSs ts ds r = some r' →
    ∃ oss', SR K io b r' oss' (setAll ts vs σ) H ∧ ∀ a ∈ oss'.flatten, a ∈ os ∨ a ∈ oss.flatten
  | [], [], _, _, r, _, oss, σ, S, .nil, _, _, e => by
    cases e
    exact ⟨oss, S, fun a ha => .inr ha⟩
  | [], d :: ds, _, _, r, _, oss, σ, S, _, _, _, e => by cases e
  | (i, o) :: ts, [], _, _, r, _, oss, σ, S, _, _, _, e => by cases e
  | (i, o) :: ts, d :: ds, _, _, r, r', oss, σ, S, .cons (os := o1) (ps := o2) x rl, n, ap, e => by
    have e' : (HF.putS o i d r).bind (HF.putSs ts ds) = some r' := e
    cases h1 : HF.putS o i d r with
    | none => rw [h1] at e'; cases e'
    | some r1 =>
      rw [h1] at e'
      obtain ⟨n1, n2, n3⟩ := List.nodup_append.mp n
      obtain ⟨p1, S2, m2⟩ := S.putS x n1 (fun a ha => ap a (List.mem_append_left _ ha)) h1
      obtain ⟨p2, S3, m3⟩ := SR.putSs S2 rl n2 (fun a ha hm => (m2 a hm).elim (fun z => n3 a z a ha rfl) (ap a (List.mem_append_right _ ha))) e'
      refine ⟨p2, S3, fun a ha => ?_⟩
      rcases m3 a ha with z | z
      · exact .inl (List.mem_append_right _ z)
      · exact (m2 a z).imp (fun y => List.mem_append_left _ y) id
def sParN (ts : List (Nat × Bool)) (fs : List Ev) : Sv := fun r => bnd (evs fs r) fun ds => match putSs ts ds r with
  | some r' => ret (.nx, r')
  | none => fail
def sUnpN (ts : List (Nat × Bool)) (f : Ev) : Sv := fun r => bnd (f r) fun d => match d with
  | .tup ds => match putSs ts ds r with
    | some r' => ret (.nx, r')
    | none => fail
  | _ => fail
end HF
namespace HF
open PySem PySem.Spec L2
open PyProof.Rows hiding St
theorem Rp.dctT {K : PySem.W.Frag} {H : Hp} {io : List Addr} {kds : List (DK × D)} {v : V} {os : List Addr} (h : Rp K H io (.dct true kds) v os) : ∃ a u kvs ps, v = .ref a ∧ os = a :: ps ∧ H a = some u ∧ IsDct u kvs ∧ RpK K H io kds kvs ps := by
  cases h with
  | dctO h e r => exact ⟨_, _, _, _, rfl, rfl, h, e, r⟩
section
variable {X : Cx}
theorem CallR.or {f : Value} {r r' : List V → Hp → VK → Prop} (h : CallR X f r) (h' : CallR X f r') : CallR X f (fun xs H Q => r xs H Q ∨ r' xs H Q) := fun pins s σ H xs us Q I rv q => q.elim (h pins s σ H xs us Q I rv) (h' pins s σ H xs us Q I rv)
end
end HF
namespace HF
open PySem PySem.Spec PyProof.Rows L2
def txOf (e : Int × Value) : Str := match e.2 with | .str x _ => x | _ => ⟨#[]⟩
def GoodX (P : Program) (w : World) (e : Int × Value) : Prop := ∃ x tk, e.2 = Value.str x tk ∧ e.1 = (PySem.strKind P w).hash x
def SetX (P : Program) (w : World) (h : Heap) (a : Addr) (L : List Str) : Prop :=
  ∃ o es ep t, h.get? a = some o ∧ o.ExactSet ∧ o.data = .set es ep t ∧ (∀ e ∈ es.toList, GoodX P w e) ∧ (es.toList.map txOf).Perm L ∧ L.Nodup ∧
    es.size < scanBound ∧ t.fits es.size = true ∧ Ris t.place.toList ∧ (w.params.followText "set-order" = true ∨ t.led = true)
section
variable {P : Program} {w : World} {h h' : Heap} {a : Addr} {L : List Str}
theorem SetX.at (R : SetX P w h a L) (k : ∀ o, h.get? a = some o → h'.get? a = some o) : SetX P w h' a L := by
  obtain ⟨o, es, ep, t, ho, r⟩ := R
  exact ⟨o, es, ep, t, k o ho, r⟩
end
end HF
namespace HF
open PySem PySem.Spec PyProof.Rows L2
def GotX (ks : List Str) (i : Nat) (L : List Str) : Prop := ∀ x, x ∈ L ↔ x ∈ ks.take i
section
variable {P : Program} {w : World} {A : Around} {E : Value → Shared → Prop} {s : Shared}
theorem GotX.len {ks L : List Str} {i : Nat} (g : GotX ks i L) (nd : L.Nodup) : L.length ≤ ks.length := nd.length_le_of_subset fun x hx => List.mem_of_mem_take ((g x).mp hx)
theorem GotX.next {ks L : List Str} {i : Nat} {x : Str} (g : GotX ks i L) (h : ks[i]? = some x) : GotX ks (i + 1) (if x ∈ L then L else x :: L) := fun y => by
  rw [take_succ_of h, List.mem_append, ← g y, List.mem_singleton]
  by_cases c : x ∈ L
  · rw [if_pos c]
    exact ⟨.inl, fun q => q.elim id fun e => e ▸ c⟩
  · rw [if_neg c, List.mem_cons]
    exact Or.comm
end
end HF
namespace HF
open PySem PySem.Spec L2
open PyProof.Rows hiding St
def SetXO (P : Program) (w : World) (a : Addr) (L : List Str) : HO := .ext fun h => SetX P w h a L
end HF
namespace HF
open PySem PySem.Spec L2
open PyProof.Rows hiding St
section
variable {X : Cx} {a b c : Expr} {pos : Pos} {f g h : Ev}
theorem de_gint {x : Str} {i : Int} (hm : ∃ u, X.mg x = some u ∧ RelV (.int i) u) (hg : Gl X x := by rfl) (hd : (x == ("__debug__" : Str)) = false := by decide) : PE X (.Name x pos) (tS X.K (eC (.int i))) := let ⟨_, h, r⟩ := hm; de_c (pe_glob hg h r hd) fun _ _ => .int i
end
theorem gi_mk {mg : Str → Option Value} {x : Str} {i : Int} {t : Tok} (h : mg x = some (.int i t)) : ∃ u, mg x = some u ∧ RelV (.int i) u := ⟨_, h, t, rfl⟩
end HF
namespace HF
open PySem PySem.Spec L2
open PyProof.Rows hiding St
theorem At.own_upd {K : PySem.W.Frag} {io0 io : List Addr} {H0 H : Hp} {b : Bx} {r : Env} {oss : List (List Addr)} {σ : L2.St} (A : At K io0 H0 io b r oss σ H) {i : Nat} {d0 d1 : D} {a : Addr} {u' : HO} {ps : List Addr} (hr : r[i]? = some (.ow d0)) (hv : σ[i]? = some (some (.ref a))) (ho : oss[i]? = some (a :: ps)) (m : Mut (H a))
    (rx : Rp K (L2.upd H a u') io d1 (.ref a) (a :: ps)) : At K io0 H0 io b (r.set i (.ow d1)) (oss.set i (a :: ps)) σ (L2.upd H a u') ∧ Kf io H io (L2.upd H a u') := by
  obtain ⟨mo, no⟩ := mem_flat ho
  have hm : a ∈ oss.flatten := mo a List.mem_cons_self
  obtain ⟨nio, _, _, _⟩ := A.sr.sl.ownd A.sr.bl a hm
  have SE := A.sr.sl.setU m A.sr.od hr hv ho List.mem_cons_self rx
  refine ⟨⟨⟨A.sr.len, fun n c zs g1 g2 => upd_oth (A.sr.bx n c zs g1 g2) fun z => nio (z ▸ List.mem_of_getElem? g1), A.sr.nd, SE, ?_⟩, ?_, A.bl, ?_⟩, Kf.upd m⟩
  · exact nodup_setU (ps := []) (no A.sr.od) (fun c hc => .inl hc) A.sr.od ho (fun a ha => by cases ha)
  · refine ⟨fun c o e n => ?_, A.kp.pre, A.kp.new⟩
    rw [upd_ne (fun z => by subst z; rw [A.fr c hm] at e; cases e)]
    exact A.kp.keep c o e n
  · exact fun c hc => (mem_set_flat hc).elim (fun z => A.fr c (mo c z)) (A.fr c)
theorem At.put {K : PySem.W.Frag} {io0 io : List Addr} {H0 H : Hp} {b : Bx} {r : Env} {oss : List (List Addr)} {σ : L2.St} (A : At K io0 H0 io b r oss σ H) {i : Nat} {kvs : List (DK × D)} {dk dv : D} {q : DK} {y v : V} {ps : List Addr} (hr : r[i]? = some (.ow (.dct true kvs))) (ry : Rp K H io dk y ps) (hq : keyOf dk = some q) (rv : Rp K H io dv v []) (hs : stillK kvs = true) (hl : kvs.length < sizeLine) :
    ∃ a H' oss', σ[i]? = some (some (.ref a)) ∧ DPut H a y v H' ∧ At K io0 H0 io b (r.set i (.ow (.dct true (putD kvs q dv)))) oss' σ H' ∧ Kf io H io H' := by
  rcases A.sr.sl.get hr with h | ⟨d0, w, h, _, _⟩ | ⟨d0, w, os, h, hv, ho, hx⟩
  · cases h
  · cases h
  · cases h
    obtain ⟨kk, rfl, rfl, okk⟩ := ry.keyK hq
    obtain ⟨a, u, kvV, ps', rfl, rfl, hA, hI, rk⟩ := hx.dctT
    obtain rfl := rk.still_nil hs
    obtain ⟨ks, rfl, rfl⟩ := hI
    have m : Mut (H a) := by rw [hA]; trivial
    have rl := rk.len
    rw [List.length_map] at rl
    have put := (RpK.put okk rv rk).upd (o := .dK (putK ks kk v)) m fun z => nomatch z
    obtain ⟨A', kf⟩ := A.own_upd (u' := .dK (putK ks kk v)) (d1 := .dct true (putD kvs (keyDK kk) dv)) hr hv ho m (.dctO upd_same ⟨_, rfl, rfl⟩ put)
    exact ⟨a, _, _, hv, .inl ⟨ks, kk, hA, rfl, by rw [← rl]; exact hl, rfl⟩, A', kf⟩
end HF
namespace HF
open PySem PySem.Spec L2
open PyProof.Rows hiding St
def putAt (i : Nat) (k d : D) (r : Env) : Option Env := match r[i]?, keyOf k with
  | some (.ow (.dct true kvs)), some q => if stillK kvs && decide (kvs.length < sizeLine) then some (r.set i (.ow (.dct true (putD kvs q d)))) else none
  | _, _ => none
section
variable {X : Cx}
theorem g3 (i j k : Nat) {x y z : Str} {p1 p2 p3 pos : Pos} {kk : Nat} (hc : X.calm = true) (hN : X.N.Nodup) (hi : X.N[i]? = some x := by rfl) (hj : X.N[j]? = some y := by rfl) (hk : X.N[k]? = some z := by rfl) (hx : Loc X.env.scope x := by first | exact Or.inl rfl | exact Or.inr rfl) (hy : Loc X.env.scope y := by first | exact Or.inl rfl | exact Or.inr rfl) (hz : Loc X.env.scope z := by first | exact Or.inl rfl | exact Or.inr rfl)
    (hf : X.fn x = true ∨ X.env.scope.names.lookup x = some .local := by first | exact .inl rfl | exact .inr rfl) (hf2 : X.fn y = true ∨ X.env.scope.names.lookup y = some .local := by first | exact .inl rfl | exact .inr rfl) (hf3 : X.fn z = true ∨ X.env.scope.names.lookup z = some .local := by first | exact .inl rfl | exact .inr rfl) : PG X (.Tuple [.Name x p1, .Name y p2, .Name z p3] kk pos) (tG X.K (.three i j k)) := dg_three hc hN hi hj hk hx hy hz hf hf2 hf3
end
end HF
namespace HF
open PySem PySem.Spec L2
open PyProof.Rows hiding St
def lcGo2 (t : Tg) (r : Env) (own1 : List Nat) (co : Option Ev) (t1 : Tg) (it1 : Ws) (co1 : Option Ev) (elt : Ev) : List D → List D → M D
  | [], acc => ret (.lst true acc)
  | x :: xs, acc => match bindT t x r with
    | none => fail
    | some r' => match co with
      | none => bnd (it1 r') fun ys => bnd (lcGo t1 (wipeE r' own1) co1 elt ys acc) fun d => match d with
        | .lst _ acc' => lcGo2 t r own1 co t1 it1 co1 elt xs acc'
        | _ => fail
      | some c => bnd (c r') fun b => match b with
        | .bl true => bnd (it1 r') fun ys => bnd (lcGo t1 (wipeE r' own1) co1 elt ys acc) fun d => match d with
          | .lst _ acc' => lcGo2 t r own1 co t1 it1 co1 elt xs acc'
          | _ => fail
        | .bl false => lcGo2 t r own1 co t1 it1 co1 elt xs acc
        | _ => fail
structure LcJ (K : PySem.W.Frag) (t : Tg) (co : Option Ev) (f : Ev) (ds : List D) (r0 : Env) (σ0 : L2.St) (o0 : List (List Addr)) (rO : Env) (σO : L2.St) (oO : List (List Addr)) (io1 : List Addr) (H1 : Hp) (ioG : List Addr) (HG : Hp) (A : Addr) (res : D) (bf : Bx) (i : Nat) (H : Hp) : Prop where
  ex : ∃ io b acc vs os, Kf io1 H1 io H ∧ Kp ioG HG io H ∧ SR K io b r0 o0 σ0 H ∧ SR K io b rO oO σO H ∧ H A = some (.lst vs) ∧ A ∉ io ∧ RpL K H io acc vs os ∧ os.Nodup ∧ A ∉ os ∧ (∀ a ∈ os, HG a = none) ∧ lcGo t r0 co f (ds.drop i) acc b = some (res, bf)
structure LcK (K : PySem.W.Frag) (t : Tg) (own1 : List Nat) (co : Option Ev) (t1 : Tg) (it1 : Ws) (co1 : Option Ev) (f : Ev) (ds : List D) (r0 : Env) (σ0 : L2.St) (o0 : List (List Addr)) (io1 : List Addr) (H1 : Hp) (A : Addr) (res : D) (bf : Bx) (i : Nat) (H : Hp) : Prop where
  ex : ∃ io b acc vs os, Kp io1 H1 io H ∧ SR K io b r0 o0 σ0 H ∧ H A = some (.lst vs) ∧ A ∉ io ∧ RpL K H io acc vs os ∧ os.Nodup ∧ A ∉ os ∧ (∀ a ∈ os, H1 a = none) ∧ lcGo2 t r0 own1 co t1 it1 co1 f (ds.drop i) acc b = some (res, bf)
end HF
namespace HF
open PySem PySem.Spec L2
open PyProof.Rows hiding St
def dcGoO (t : Tg) (r : Env) (cond : Option Ev) (fk fv : Ev) : List D → List (DK × D) → M D
  | [], acc => ret (.dct true acc)
  | x :: xs, acc => match bindT t x r with
    | none => fail
    | some r' => match cond with
      | none => if acc.length < PySem.sizeLine then bnd (fk r') fun dk => bnd (fv r') fun d => match keyOf dk with
          | some k => if (acc.any fun p => decide (p.1 = k)) = true then fail else dcGoO t r cond fk fv xs (acc ++ [(k, d)])
          | none => fail
        else fail
      | some c => bnd (c r') fun b => match b with
        | .bl true => if acc.length < PySem.sizeLine then bnd (fk r') fun dk => bnd (fv r') fun d => match keyOf dk with
            | some k => if (acc.any fun p => decide (p.1 = k)) = true then fail else dcGoO t r cond fk fv xs (acc ++ [(k, d)])
            | none => fail
          else fail
        | .bl false => dcGoO t r cond fk fv xs acc
        | _ => fail
section
variable {X : Cx} {tg : Expr}
structure DcO (K : PySem.W.Frag) (t : Tg) (co : Option Ev) (fk f : Ev) (ds : List D) (r0 : Env) (σ0 : St) (o0 : List (List Addr)) (io1 : List Addr) (H1 : Hp) (A : Addr) (res : D) (bf : Bx) (i : Nat) (H : Hp) : Prop where
  ex : ∃ io b acc ks os, Kp io1 H1 io H ∧ SR K io b r0 o0 σ0 H ∧ H A = some (.dK ks) ∧ A ∉ io ∧ RpK K H io acc (ks.map fun p => (keyDK p.1, p.2)) os ∧ os.Nodup ∧ A ∉ os ∧ (∀ a ∈ os, H1 a = none) ∧ dcGoO t r0 co fk f (ds.drop i) acc b = some (res, bf)
end
end HF
namespace HF
open PySem PySem.Spec L2
open PyProof.Rows hiding St
def setK : List (DK × D) → DK → D → List (DK × D)
  | [], _, _ => []
  | (j, d0) :: r, k, d => if j = k then (j, d) :: r else (j, d0) :: setK r k d
theorem RpK.at {K : PySem.W.Frag} {H : Hp} {io : List Addr} (bl : BL io H) {q : Key} : ∀ {ds : List (DK × D)} {ks : List (Key × V)} {os : List Addr} {d : D}, RpK K H io ds (ks.map fun p => (keyDK p.1, p.2)) os → HF.look (keyDK q) ds = some d → ∃ v o1 o2 o3, valV ks q = some v ∧ os = o1 ++ o2 ++ o3 ∧ Rp K H io d v o2 ∧
    ∀ (H1 : Hp) (io1 : List Addr) (a : Addr) (o : HO) (d' : D) (o2' : List Addr), Kp io H io1 H1 → Mut (H1 a) → a ∉ o1 → a ∉ o3 → Rp K (L2.upd H1 a o) io1 d' v o2' → RpK K (L2.upd H1 a o) io1 (setK ds (keyDK q) d') (ks.map fun p => (keyDK p.1, p.2)) (o1 ++ o2' ++ o3)
  | ds, [], _, d, h, e => by cases h; cases e
  | ds, (j, w) :: ks, _, d, h, e => by
    cases h with
    | cons hj h r =>
      rename_i d1 ds1 o1' o2'
      by_cases c : j = q
      · subst c
        have e' : (if keyDK j = keyDK j then some d1 else HF.look (keyDK j) ds1) = some d := e
        rw [if_pos rfl] at e'
        cases e'
        refine ⟨w, [], o1', o2', valV_pos rfl, rfl, h, fun H1 io1 a o d' o2'' k m _ n3 x => ?_⟩
        show RpK K _ io1 (if keyDK j = keyDK j then (keyDK j, d') :: ds1 else _) _ _
        rw [if_pos rfl]
        exact .cons hj x ((r.keep k bl).upd m n3)
      · have ne : ¬ keyDK j = keyDK q := fun z => c (keyDK_inj z)
        have e' : (if keyDK j = keyDK q then some d1 else HF.look (keyDK q) ds1) = some d := e
        rw [if_neg ne] at e'
        obtain ⟨v, p1, p2, p3, g1, g2, g3, g4⟩ := RpK.at bl r e'
        subst g2
        refine ⟨v, o1' ++ p1, p2, p3, by rw [valV_neg c]; exact g1, by simp, g3, fun H1 io1 a o d' o2'' k m n1 n3 y => ?_⟩
        show RpK K _ io1 (if keyDK j = keyDK q then (keyDK j, d') :: ds1 else (keyDK j, d1) :: setK ds1 (keyDK q) d') _ _
        rw [if_neg ne]
        have := RpK.cons hj ((h.keep k bl).upd (o := o) m fun z => n1 (List.mem_append_left _ z)) (g4 H1 io1 a o d' o2'' k m (fun z => n1 (List.mem_append_right _ z)) n3 y)
        simpa using this
end HF
namespace HF
open PySem PySem.Spec L2
open PyProof.Rows hiding St
def valInts (kvs : List (DK × D)) : Option (List Int) := intsOf (kvs.map (·.2))
section
variable {X : Cx} {o : Expr} {p pos apos mpos : Pos} {td : TE} {f : Ev}
theorem RpK.ints {K : PySem.W.Frag} {H : Hp} {io : List Addr} : ∀ {ds : List (DK × D)} {ks : List (Key × V)} {os : List Addr} {is : List Int}, RpK K H io ds (ks.map fun p => (keyDK p.1, p.2)) os → valInts ds = some is → ks.map (·.2) = is.map V.int
  | ds, [], _, is, h, e => by cases h; cases e; rfl
  | ds, (j, w) :: ks, _, is, h, e => by
    cases h with
    | cons hj h r =>
      rename_i d1 ds1 o1 o2
      cases h <;> first | (cases e; done) | skip
      rename_i z
      have e' : (valInts ds1).map (z :: ·) = some is := e
      cases hi : valInts ds1 with
      | none => rw [hi] at e'; cases e'
      | some is1 =>
        rw [hi] at e'
        cases e'
        rw [List.map_cons, r.ints hi]; rfl
end
end HF
namespace HF
open PySem PySem.Spec L2
open PyProof.Rows hiding St
structure ScJ (P : Program) (w : World) (K : PySem.W.Frag) (t : Tg) (co : Option Ev) (f : Ev) (ds : List D) (r0 : Env) (σ0 : L2.St) (o0 : List (List Addr)) (rO : Env) (σO : L2.St) (oO : List (List Addr)) (io1 : List Addr) (H1 : Hp) (ioG : List Addr) (HG : Hp) (A : Addr) (res : D) (bf : Bx) (i : Nat) (H : Hp) : Prop where
  ex : ∃ io b acc vs, ∃ ks : List Str, Kf io1 H1 io H ∧ Kp ioG HG io H ∧ SR K io b r0 o0 σ0 H ∧ SR K io b rO oO σO H ∧ H A = some (SetXO P w A vs) ∧ A ∉ io ∧ vs.Nodup ∧ (∀ x, x ∈ vs ↔ x ∈ ks) ∧ acc = ks.map D.str ∧ (∀ y ∈ ks, PyData.strOk y = true) ∧ lcGo t r0 co f (ds.drop i) acc b = some (res, bf)
structure ScK (P : Program) (w : World) (K : PySem.W.Frag) (t : Tg) (own1 : List Nat) (co : Option Ev) (t1 : Tg) (it1 : Ws) (co1 : Option Ev) (f : Ev) (ds : List D) (r0 : Env) (σ0 : L2.St) (o0 : List (List Addr)) (io1 : List Addr) (H1 : Hp) (A : Addr) (res : D) (bf : Bx) (i : Nat) (H : Hp) : Prop where
  ex : ∃ io b acc vs, ∃ ks : List Str, Kp io1 H1 io H ∧ SR K io b r0 o0 σ0 H ∧ H A = some (SetXO P w A vs) ∧ A ∉ io ∧ vs.Nodup ∧ (∀ x, x ∈ vs ↔ x ∈ ks) ∧ acc = ks.map D.str ∧ (∀ y ∈ ks, PyData.strOk y = true) ∧ lcGo2 t r0 own1 co t1 it1 co1 f (ds.drop i) acc b = some (res, bf)
end HF
namespace HF
open PySem PySem.Spec L2
open PyProof.Rows hiding St
def pairsD : List D → Option (List (DK × D))
  | [] => some []
  | .tup [k, v] :: r => match keyOf k, pairsD r with
    | some q, some l => some ((q, v) :: l)
    | _, _ => none
  | _ => none
def foldD (acc : List (DK × D)) (l : List (DK × D)) : List (DK × D) := l.foldl (fun acc p => putD acc p.1 p.2) acc
theorem RpL.pairs {K : PySem.W.Frag} {H : Hp} {io : List Addr} : ∀ {ds : List D} {vs : List V} {l : List (DK × D)}, RpL K H io ds vs [] → pairsD ds = some l → ∃ (ps : List Addr) (kvs : List (Key × V)), vs = ps.map V.ref ∧ Paired (fun p kv => SqT K H p [kV kv.1, kv.2]) ps kvs ∧ ∀ (acc : List (DK × D)) (ks : List (Key × V)), RpK K H io acc (ks.map fun p => (keyDK p.1, p.2)) [] → RpK K H io (foldD acc l) ((mergeK ks kvs).map fun p => (keyDK p.1, p.2)) []
  | [], vs, l, h, e => by
    cases h
    cases e
    exact ⟨[], [], rfl, .nil, fun acc ks r => r⟩
  | d :: ds, vs, l, h, e => by
    obtain ⟨v, ws, rfl, x, r⟩ := RpL.one h
    unfold pairsD at e
    split at e
    · cases ‹_ :: _ = []›
    · rename_i k dv rest heq
      injection heq with h1 h2
      subst h1 h2
      cases hk : keyOf k with
      | none => rw [hk] at e; cases e
      | some q =>
        cases hp : pairsD ds with
        | none => rw [hk, hp] at e; cases e
        | some l' =>
          rw [hk, hp] at e
          cases e
          obtain ⟨ps, kvs, rfl, pr, put⟩ := RpL.pairs r hp
          obtain ⟨a, us, rfl, ht, rl⟩ := x.tup_inv
          obtain ⟨u1, us1, rfl, x1, rl1⟩ := RpL.one rl
          obtain ⟨u2, us2, rfl, x2, rl2⟩ := RpL.one rl1
          cases rl2
          obtain ⟨kk, rfl, rfl, okk⟩ := x1.keyK hk
          exact ⟨a :: ps, (kk, u2) :: kvs, rfl, .cons ht pr, fun acc ks rk => put _ _ (RpK.put okk x2 rk)⟩
    · cases e
end HF
namespace HF
open PySem PySem.Spec L2
open PyProof.Rows hiding St
namespace LL
open PySem.SeqAt AutoSeq1 MeetsSeq MeetsSeq2 MeetsSeq3 SeqRoads2
def IsFlatL (h : Heap) (v : Value) (ks : List Key) : Prop := ∃ (a : Addr) (o : Obj) (its : Array Value) (n : Nat), v = .ref a ∧ h.get? a = some o ∧ o.cls = .type "list" ∧ o.data = .seq its n ∧ Vals (ks.map kV) its.toList
theorem IsFlatL.keeps {h h' : Heap} {v : Value} {ks : List Key} (x : IsFlatL h v ks) (k : ∀ b o, v = .ref b → h.get? b = some o → h'.get? b = some o) : IsFlatL h' v ks := by
  obtain ⟨a, o, its, n, e, g, c, d, r⟩ := x
  exact ⟨a, o, its, n, e, k _ _ e g, c, d, r⟩
theorem IsFlatL.type {M : Model} {h : Heap} {v : Value} {ks : List Key} (x : IsFlatL h v ks) : PySem.W.Looks M h (typeOf v) (.type "list") := by
  obtain ⟨a, o, its, n, rfl, g, c, d, r⟩ := x
  rw [← c]
  exact (PySem.W.Looks.ld g).andThen .now
theorem IsFlatL.inj {h : Heap} {v : Value} {ks js : List Key} (x : IsFlatL h v ks) (y : IsFlatL h v js) : ks = js := by
  obtain ⟨a, o, its, n, e, g, c, d, r⟩ := x
  obtain ⟨a', o', its', n', e', g', c', d', r'⟩ := y
  rw [e] at e'
  cases e'
  rw [g] at g'
  cases g'
  rw [d] at d'
  cases d'
  exact vals_inj r r'
end LL
end HF
namespace HF
open PySem PySem.Spec L2
open PyProof.Rows hiding St
def stPl (n : Nat) (k : Int) : List Nat := sliceRange 0 (n : Int) k
def stPick {α : Type} (k : Int) (xs : List α) : List α := (stPl xs.length k).filterMap (xs[·]?)
theorem RpL.at' {K : PySem.W.Frag} {H : Hp} {io : List Addr} : ∀ {ds : List D} {vs : List V} {i : Nat}, RpL K H io ds vs [] → (ds[i]? = none ∧ vs[i]? = none) ∨ ∃ d v, ds[i]? = some d ∧ vs[i]? = some v ∧ Rp K H io d v []
  | [], [], i, _ => .inl ⟨rfl, rfl⟩
  | [], _ :: _, _, h => by have hl := h.length; simp at hl
  | _ :: _, [], _, h => by have hl := h.length; simp at hl
  | d :: ds, v :: vs, i, h => by
    generalize hq : ([] : List Addr) = q at h
    cases h with
    | cons h r =>
      obtain ⟨e1, e2⟩ := List.append_eq_nil_iff.mp hq.symm
      subst e1 e2
      cases i with
      | zero => exact .inr ⟨d, v, rfl, rfl, h⟩
      | succ i => exact RpL.at' (i := i) r
section
variable {X : Cx}
theorem pick_eq (its : List Value) {k : Int} (hk : 0 < k) : slicePick its.toArray none none (some k) = (stPick k its).toArray := by
  unfold slicePick stPick stPl
  have e : sliceBounds none none (some k) its.toArray.size = (0, (its.length : Int), k) := by
    simp only [sliceBounds, Option.getD_some, List.size_toArray]
    rw [if_pos hk, if_pos hk]
  rw [e]
  simp
end
end HF
namespace HF
open PySem PySem.Spec PySem.W L2 PySem.HandSPX
open PyProof.Rows hiding St
structure ExB (B newId initId : String) (bm : List Value) : Prop where
  fa : ExcBaseFacts B newId initId bm
  sf : StoreFacts B bm "object.__setattr__" "object"
  ty : typeOf (.type B) = pure (.type "type")
  ne : bm.isEmpty = false
theorem exB_Value : ExB "ValueError" "ValueError.__new__" "ValueError.__init__" [.type "ValueError", .type "Exception", .type "BaseException", .type "object"] := ⟨PySem.F.excBase_ValueError, PySem.F.store_ValueError, by kernel_rfl, rfl⟩
theorem exB_Lookup : ExB "LookupError" "LookupError.__new__" "LookupError.__init__" [.type "LookupError", .type "Exception", .type "BaseException", .type "object"] := ⟨PySem.F.excBase_LookupError, PySem.F.store_LookupError, by kernel_rfl, rfl⟩
theorem exB_Runtime : ExB "RuntimeError" "RuntimeError.__new__" "RuntimeError.__init__" [.type "RuntimeError", .type "Exception", .type "BaseException", .type "object"] := ⟨PySem.F.excBase_RuntimeError, PySem.F.store_RuntimeError, by kernel_rfl, rfl⟩
theorem exB_Overflow : ExB "OverflowError" "OverflowError.__new__" "OverflowError.__init__" [.type "OverflowError", .type "ArithmeticError", .type "Exception", .type "BaseException", .type "object"] := ⟨PySem.F.excBase_OverflowError, PySem.F.store_OverflowError, by kernel_rfl, rfl⟩
structure OwnX (K : PySem.W.Frag) (C : Addr) (B newId initId : String) (bm : List Value) : Prop where
  eb : ExB B newId initId bm
  cls : ∃ nm q N bs sn sub ab col dd k0 k1 k2 k3 k5, K.lookup C = some (excClassObj nm q C N bs bm true sn sub ab col dd k0 k1 k2 k3 k5 newId)
  sa : findIn K (.ref C) "__setattr__" = some (some (.builtin "object.__setattr__"))
  exC : subIn K (.ref C) (.type "BaseException") = some true
  tyC : typeIn K (.ref C) = some (.type "type")
  kC : keepIn K (.ref C) = true
section
variable {K : PySem.W.Frag} {C : Addr} {B newId initId : String} {bm : List Value}
theorem OwnX.data (T : OwnX K C B newId initId bm) : ∃ cd : ClassData, clsIn K C = some cd ∧ cd.mro = .ref C :: bm ∧ cd.hasDict = true := by
  obtain ⟨nm, q, N, bs, sn, sub, ab, col, dd, k0, k1, k2, k3, k5, e⟩ := T.cls
  exact ⟨_, by unfold clsIn; rw [e] <;> rfl, rfl, rfl⟩
theorem OwnX.over (T : OwnX K C B newId initId bm) (h : excTail bm bm = true) : excOver K C bm = true := by
  obtain ⟨cd, e, e2, _⟩ := T.data
  unfold excOver
  rw [e]
  show (match cd.mro with | .ref C' :: bm' => C' == C && excTail bm bm' | _ => false) = true
  rw [e2]
  show (C == C && excTail bm bm) = true
  rw [h, beq_self_eq_true]; rfl
end
section
variable {P : Program} {w : World} {A : Around} {E : Value → Shared → Prop} {R : Result → Shared → Prop} {hp : Heap} {g : Array GenState} {d : Drawn} {t : Nat} {os : OsState} {B newId initId : String} {bm : List Value} {K : PySem.W.Frag} {C : Addr}
theorem set_first {name : Str} {v : Value} {x t1 : Addr} {Q : Unit → Shared → Prop} (T : OwnX K C B newId initId bm) (ht : excTail bm bm = true) (X : K.In hp) (hx : hp.get? x = some (excO C t1)) (ha : takerIn K C name = some none)
    (hq : ∀ h' tk' dx, (∀ b o, b ≠ x → hp.get? b = some o → h'.get? b = some o) → hp.objs.size ≤ dx → dx ≠ x → h'.get? x = some { cls := .ref C, dict := some dx, data := .fields #[.ref t1, .none, .none, .none, .bool false, .none] } →
      h'.Ns1 dx (fun y => if y = name then some v else none) → Q () ⟨h', g, d, tk', os⟩) : wpAny (model P w) A (setAttr (.ref x) name v) Q E ⟨hp, g, d, t, os⟩ := by
  obtain ⟨cd, hcd, hm, hh⟩ := T.data
  have hxs : x < hp.objs.size := Heap.lt_size hx
  have iA : InstAt hp x (excO C t1) C none := ⟨hx, rfl, rfl, trivial⟩
  refine set_plain (od := none) X iA T.sa (osa_openX (s := ⟨hp, g, d, t + 1, os⟩) T.eb.sf X iA (T.over ht) ha fun b => ?_)
  refine wpAny_bind (wpAny_pure (wpAny_bind (instanceDict_exc (c2 := .none) hx (looks_clsIn X hcd) hh ?_)))
  have hnd : ((hp.push (dictOf [] 0)).update x fun o => { o with dict := some hp.objs.size }).Ns hp.objs.size (fun _ => none) :=
    ⟨_, #[], _, (Heap.get?_update_ne _ _ _ _ (Nat.ne_of_gt hxs)).trans (Heap.get?_push_at rfl rfl), rfl, fun e he => absurd he (by simp), fun _ => rfl⟩
  refine store_in_new hnd fun h' tk' hn' hs => ?_
  have hx1 : (hp.push (dictOf [] 0)).get? x = some (excO C t1) := Heap.get?_push_of_some _ hx
  refine hq h' tk' hp.objs.size (fun b o hb ho => ?_) (Nat.le_refl _) (Nat.ne_of_gt hxs) ?_ hn'
  · exact (hs.2 b (Nat.ne_of_lt (Heap.lt_size ho))).trans ((Heap.get?_update_ne _ _ _ _ hb).trans (Heap.get?_push_of_some _ ho))
  · exact (hs.2 x (Nat.ne_of_lt hxs)).trans (Heap.get?_update_self _ hx1 rfl)
theorem set_later {name : Str} {v : Value} {x dx t1 : Addr} {m0 : Str → Option Value} {nl : List Str} {Q : Unit → Shared → Prop} (T : OwnX K C B newId initId bm) (ht : excTail bm bm = true) (X : K.In hp)
    (hx : hp.get? x = some { cls := .ref C, dict := some dx, data := .fields #[.ref t1, .none, .none, .none, .bool false, .none] }) (hns : hp.Ns1 dx m0) (hw : Within m0 nl) (hz : nl.length ≤ 1000) (ha : takerIn K C name = some none)
    (hq : ∀ h' tk', (∀ b o, b ≠ dx → hp.get? b = some o → h'.get? b = some o) → h'.Ns1 dx (fun y => if y = name then some v else m0 y) → Q () ⟨h', g, d, tk', os⟩) : wpAny (model P w) A (setAttr (.ref x) name v) Q E ⟨hp, g, d, t, os⟩ := by
  obtain ⟨cd, hcd, hm, hh⟩ := T.data
  obtain ⟨oD, esD, epD, hoD, hdD, _⟩ := hns.count hw
  have iA : InstAt hp x { cls := .ref C, dict := some dx, data := .fields #[.ref t1, .none, .none, .none, .bool false, .none] } C (some oD) := ⟨hx, rfl, rfl, hoD⟩
  refine set_plain (od := some oD) X iA T.sa (osa_openX (s := ⟨hp, g, d, t + 1, os⟩) T.eb.sf X iA (T.over ht) ha fun b => ?_)
  have iD : ∀ {Q : Option Addr → Shared → Prop} {E : Value → Shared → Prop} {A : Around}, Q (some dx) ⟨hp, g, d, t + 1, os⟩ → wpAny (model P w) A (instanceDict x true) Q E ⟨hp, g, d, t + 1, os⟩ := fun {Q E A} q => by
    unfold instanceDict
    refine wpAny_bind (wpAny_loadPart hx ?_)
    dsimp only
    refine wpAny_bind ((looks_clsIn X hcd).here ?_)
    rw [hh]
    first
      | exact wpAny_pure q
      | (wp_walk; exact q)
  refine wpAny_bind (wpAny_pure (wpAny_bind (iD ?_)))
  exact PySem.OEX.store_in_old hns hw hz fun h' tk' hn' hs => hq h' tk' (fun b o hb ho => (hs.2 b hb).trans ho) hn'
end
section
variable {X : Cx} {pins : List (Addr × Obj)} {σ : St} {H : Hp} {s : Shared} {a C dx : Addr} {f : Str} {y : V} {u : Value} {fs : List (Str × V)} {Q : Unit → Shared → Prop} {E : Value → Shared → Prop} {A : Around} {B newId initId : String} {bm : List Value}
theorem ostF (T : OwnX X.K C B newId initId bm) (ht : excTail bm bm = true) (I : Inv X pins σ H s) (e : H a = some (exo a C none)) (hno : takerIn X.K C f = some none) (ry : RelV y u)
    (h : ∀ dx s', H dx = none → dx ≠ a → Inv X pins σ (L2.upd (L2.upd H dx (exd dx [(f, y)])) a (exo a C (some dx))) s' → Q () s') : wpAny (model X.prog X.w) A (setAttr (.ref a) f u) Q E s := by
  obtain ⟨t1, ho⟩ := exo_at I.hok e
  obtain ⟨hp, g, d, t, os⟩ := s
  refine set_first T ht I.kIn ho hno fun h' tk' dx k dn dne hx hn => ?_
  have hnd : H dx = none := I.hok.fresh dn
  have nd : ∀ {b : Addr} {o : Obj}, hp.get? b = some o → b ≠ dx := fun {b o} q z => absurd (Heap.lt_size q) (by rw [z]; exact Nat.not_lt.mpr dn)
  have na : ∀ {b : Addr}, H b = none → b ≠ a := fun {b} n z => by subst z; rw [e] at n; cases n
  have new : ∀ b, b ≠ a → b ≠ dx → L2.upd (L2.upd H dx (exd dx [(f, y)])) a (exo a C (some dx)) b = H b := fun b h1 h2 => (upd_ne h1).trans (upd_ne h2)
  have U : Un X.fs [] H (L2.upd (L2.upd H dx (exd dx [(f, y)])) a (exo a C (some dx))) hp h' :=
    ⟨fun b o q n _ _ => k b o (na n) q, fun b o q n _ _ => ⟨o.slots, k b o (na n) q⟩, fun b o q n _ => (new b (na n) (nd q)).trans n,
      fun b o q _ => (Decidable.em (b = a)).elim (fun z => ⟨_, z ▸ hx⟩) fun z => ⟨o, k b o z q⟩,
      fun b xs q => (new b (at_ne e q exo_tup) (ne_of_none q hnd)).trans q, fun b o v q => (new b (at_ne e q exo_frz) (ne_of_none q hnd)).trans q,
      fun b ps q => ⟨#[], by rw [new b (at_ne e q exo_tbl) (ne_of_none q hnd), q]; simp⟩⟩
  refine h dx _ hnd dne (I.un (t' := tk') U fun b o q => ?_)
  by_cases hb : b = a
  · subst hb
    rw [upd_same] at q; cases q
    exact exo_ok hx
  · by_cases hd : b = dx
    · subst hd
      rw [upd_ne hb, upd_same] at q; cases q
      exact exd_ok hn (relO_put (fs := []) ry fun g => trivial)
    · rw [new b hb hd] at q
      refine (I.hok b o q).stay (fun c v hc z => k c v ?_ z) (fun c hc => ?_) fun c xs hc => ?_
      · rcases hc with rfl | hc
        · exact hb
        · exact at_ne e hc exo_own
      · exact (new c (at_ne e hc exo_own) (ne_of_none hc hnd)).trans hc
      · exact (new c (at_ne e hc exo_tup) (ne_of_none hc hnd)).trans hc
theorem ostL (T : OwnX X.K C B newId initId bm) (ht : excTail bm bm = true) (I : Inv X pins σ H s) (e : H a = some (exo a C (some dx))) (ed : H dx = some (exd dx fs)) (hl : fs.length ≤ 900) (hno : takerIn X.K C f = some none) (ry : RelV y u)
    (h : ∀ s', Inv X pins σ (L2.upd H dx (exd dx ((f, y) :: fs))) s' → Q () s') : wpAny (model X.prog X.w) A (setAttr (.ref a) f u) Q E s := by
  obtain ⟨t1, ho⟩ := exo_at I.hok e
  obtain ⟨mA, hns, rel⟩ := exd_at I.hok ed
  have hw := within_of rel
  obtain ⟨hp, g, d, t, os⟩ := s
  refine set_later T ht I.kIn ho hns hw (by rw [List.length_map]; omega) hno fun h' tk' k hn => ?_
  have hd : ∃ o, h'.get? dx = some o := let ⟨o, _, _, e', _⟩ := hn; ⟨o, e'⟩
  exact h _ (I.write (t' := tk') (x := dx) (e := dx) (o := exd dx ((f, y) :: fs)) (by rw [ed]; trivial) (.inl rfl) k hd (exd_ok hn (relO_put ry rel)))
theorem oinitB {us : List Value} {Q : Value → Shared → Prop} (T : OwnX X.K C B newId initId bm) (I : Inv X pins σ H s) (e : H a = some (exo a C none)) (hl : us.length ≤ sizeLine) (h : ∀ s', Inv X pins σ H s' → Q .none s') :
    wpAny (model X.prog X.w) A (call (.builtin initId) (.ref a :: us)) Q E s := by
  obtain ⟨nm, q, N, bs, sn, sub, ab, col, dd, k0, k1, k2, k3, k5, hC⟩ := T.cls
  obtain ⟨t1, ho⟩ := exo_at I.hok e
  obtain ⟨hp, g, d, t, os⟩ := s
  refine wpAny_call (init_base T.eb.fa (fun _ => rfl) (I.kIn _ _ hC) ho hl fun h' t2 k hx => h _ ?_)
  have J := I.write (t' := t) (x := a) (e := a) (o := exo a C none) (by rw [e]; trivial) (.inl rfl) k ⟨_, hx⟩ (exo_ok hx)
  have eu : L2.upd H a (exo a C none) = H := funext fun b => (Decidable.em (b = a)).elim (fun z => by rw [z, upd_same, e]) fun z => upd_ne z
  rwa [eu] at J
end
end HF
namespace HF
open PySem PySem.Spec L2
open PyProof.Rows hiding St
structure Ex where
  c : Str
  fs : List (DK × D)
def Ex.d (e : Ex) : D := .exc e.c e.fs
abbrev Sx := Env → M Ex
abbrev Fx := List D → M Ex
def runX (n : Nat) (x : Sx) : Fx := fun args => x (args.map Sl.sh ++ List.replicate n Sl.no)
def ExR (K : PySem.W.Frag) (H : Hp) (io : List Addr) (ex : Ex) (cls : Value) (d : Option Addr) : Prop :=
  ∃ (C : Addr) (xs : List (Str × V)), cls = .ref C ∧ PySem.W.nsIn K mainGlobals ex.c = some (some (.ref C)) ∧ ExF H d xs ∧ RpK K H io ex.fs (xs.map fun p => (DK.s p.1, p.2)) []
def tX (K : PySem.W.Frag) (sx : Sx) (E : XK) : TS := fun _ σ H => ∃ io0 H0 io b r oss, At K io0 H0 io b r oss σ H ∧ ∃ ex b', sx r b = some (ex, b') ∧
  ∀ (cls : Value) (d : Option Addr) (H' : Hp) (io' : List Addr), SR K io' b' [] [] [] H' → Kp io0 H0 io' H' → ExR K H' io' ex cls d → E cls d H'
abbrev wE (E : XK) : WX := fun cls d _ H => E cls d H
structure FnX (P : Program) (w : World) (K : PySem.W.Frag) (mg : Str → Option Value) (base : Heap) (k : Nat) (f : Addr) (fd : FuncData) (ps : List Str) (fx : Fx) : Prop where
  run : ∀ (A : Around) (outer : List PySem.Env) (s : Shared) (H : Hp) (args : Args) (us : List Value) (vs : List V) (Q : VK) (E : XK) (io : List Addr) (b : Bx) (ds : List D) (ex : Ex) (b' : Bx), A.guards = some [] → Room k A →
    Env0 P w K mg base A outer s H → BindsTo s fd args (ps.zip us) → Vals vs us → SR K io b [] [] [] H → RpL K H io ds vs [] → ds.length = ps.length → fx ds b = some (ex, b') →
    (∀ (cls : Value) (d : Option Addr) (H' : Hp) (io' : List Addr), Kp io H io' H' → SR K io' b' [] [] [] H' → ExR K H' io' ex cls d → E cls d H') →
    codeAny (model P w) A (.call (.ref f) args) (CR (L2.CX P w) outer P w H s Q E) s
theorem FnX.mono {P : Program} {w : World} {K : PySem.W.Frag} {mg : Str → Option Value} {base : Heap} {j k : Nat} {f : Addr} {fd : FuncData} {ps : List Str} {fx : Fx}
    (F : FnX P w K mg base j f fd ps fx) (h : j ≤ k) : FnX P w K mg base k f fd ps fx :=
  ⟨fun A outer s H args us vs Q E io b ds ex b' hg hr => F.run A outer s H args us vs Q E io b ds ex b' hg (hr.mono h)⟩
section
variable {P : Program} {w : World} {K : PySem.W.Frag} {mg : Str → Option Value} {base : Heap}
theorem fn_x {k : Nat} {f : Addr} {name qual : Str} {params : Arguments} {body : List Stmt} {scope : Scope} {dV kV doc pm cdv ct oc : Value} {an od : Option Addr} {osl : Array (Option Value)} {N ps : List Str} {sx : Sx} (n : Nat)
    (lk : K.lookup f = some ⟨oc, od, .func (PySem.W.fnOf name qual params body scope dV kV doc pm an cdv ct), osl⟩) (hcd : PySem.W.codeIn K cdv qual = true) (S : FnScope N ps scope) (hn : N.length = ps.length + n)
    (hbody : ∀ (A : Around) (outer : List PySem.Env) (s : Shared) (H : Hp) (E : XK), A.guards = some [] → Room k (A.deeper (envOfC qual scope s.heap.objs.size f cdv)) →
      L2.Takes (cxOf (L2.CX P w) P w K mg base N qual scope f cdv A outer s H E) (wE E) → PSs (cxOf (L2.CX P w) P w K mg base N qual scope f cdv A outer s H E) body (tX K sx E)) :
    FnX P w K mg base (k + 1) f (PySem.W.fnOf name qual params body scope dV kV doc pm an cdv ct) ps (runX n sx) := by
  refine ⟨fun A outer s H args us vs Q E io b ds ex b' hg hr e0 hb r S0 rl hds e q => ?_⟩
  have hl : vs.length = ps.length := by rw [← rl.length]; exact hds
  have inK : K.In s.heap := e0.mod.kin.keeps fun b o e => (e0.bs b o e).1
  have noL : s.heap.NoLimit := e0.mod.nolimit.keeps fun b o e => (e0.bs b o e).1
  refine codeAny_call_function hr.depth (inK _ _ lk) rfl S.co S.gen rfl (PySem.W.codeRec_of inK hcd) (hb _ _ _ _ ?_)
  refine wpAny_newFunctionEnv_cells S.kind (fun y hy => (S.par y.1 (List.of_mem_zip hy).1).imp id fun q => ⟨q, PySem.W.cellsFrom_some _ _ _ (.inl q)⟩) fun env he s1 x => ?_
  subst he
  refine ⟨noL.keeps x.toInCall.keep, codeAny_func ?_⟩
  have I := inv_start (CX := L2.CX P w) (E := E) S hr.hd e0 hl r x
  have hv : vs.length = ds.length := rl.length.symm
  have hst : L2.start N vs = vs.map some ++ List.replicate n none := by
    unfold L2.start
    rw [show N.length - vs.length = n by omega]
  have hS : SR K io b (ds.map Sl.sh ++ List.replicate n Sl.no) (List.replicate (ds.length + n) []) (L2.start N vs) H := ⟨S0.len, S0.bx, S0.nd, hst ▸ start_rp rl, by rw [flat_nil]; exact List.nodup_nil⟩
  have hq : tX K sx E { nx := fun _ H' => Q .non H', rt := Q } (L2.start N vs) H :=
    ⟨io, H, io, b, _, _, ⟨hS, Kp.refl _ _, S0.bl, fun a ha => by rw [flat_nil] at ha; cases ha⟩, ex, b', e, fun cls d H' io' S' k0 xr => q cls d H' io' k0 S' xr⟩
  have tk : L2.Takes (cxOf (L2.CX P w) P w K mg base N qual scope f cdv A outer s H E) (wE E) := L2.takes_of rfl rfl rfl rfl
  refine wpAny_mono ((hbody A outer s H E hg (hr.deeper _) tk).run [] s1 (L2.start N vs) H _ I hq) (fun fl s' hs => ?_) fun e s' hs => hs
  cases fl with
  | ret u =>
    obtain ⟨v, σ', H', J, rv, q⟩ := hs
    exact ⟨v, H', J.os, J.bare, J.base, J.hok, rv, q⟩
  | next =>
    obtain ⟨σ', H', J, q⟩ := hs
    exact ⟨.non, H', J.os, J.bare, J.base, J.hok, rfl, q⟩
  | brk => exact hs.choose_spec.choose_spec.2.elim
  | cont => exact hs.choose_spec.choose_spec.2.elim
end
section
variable {X : Cx} {K : PySem.W.Frag}
theorem PS.nox {st : Stmt} {t : TS} (h : PS X.nox st t) : PS X st t := ⟨fun pins s σ H D I hw =>
  wpAny_mono (h.run pins s σ H D (I.wish _) hw) (fun _ _ q => q.unwish) fun _ _ z => False.elim z⟩
theorem ExR.keep {H H' : Hp} {io io' : List Addr} {ex : Ex} {cls : Value} {d : Option Addr} (h : ExR K H io ex cls d) (k : Kp io H io' H') (bl : BL io H) : ExR K H' io' ex cls d := by
  obtain ⟨C, xs, h1, h2, h3, h4⟩ := h
  exact ⟨C, xs, h1, h2, k.exf bl h3, h4.keep k bl⟩
end
end HF
namespace HF
open PySem PySem.Spec PySem.W L2 PySem.HandSPX
open PyProof.Rows hiding St
structure ExN (BS : Str) (B newId initId : String) (bm : List Value) : Prop where
  eb : ExB B newId initId bm
  tl : excTail bm bm = true
  boot : bootBuiltins BS = some (.type B)
  nn : BS ≠ "__name__"
  nd : (BS == ("__debug__" : Str)) = false
  stub : Manifest.isStub B = false
  hand : handedIn (.builtin initId) = true
theorem exN_Value : ExN "ValueError" "ValueError" "ValueError.__new__" "ValueError.__init__" [.type "ValueError", .type "Exception", .type "BaseException", .type "object"] := ⟨exB_Value, by decide +kernel, PyProof.Rows.Boot.«ValueError», by decide, by decide, by decide +kernel, by decide +kernel⟩
theorem exN_Lookup : ExN "LookupError" "LookupError" "LookupError.__new__" "LookupError.__init__" [.type "LookupError", .type "Exception", .type "BaseException", .type "object"] := ⟨exB_Lookup, by decide +kernel, PyProof.Rows.Boot.«LookupError», by decide, by decide, by decide +kernel, by decide +kernel⟩
theorem exN_Runtime : ExN "RuntimeError" "RuntimeError" "RuntimeError.__new__" "RuntimeError.__init__" [.type "RuntimeError", .type "Exception", .type "BaseException", .type "object"] := ⟨exB_Runtime, by decide +kernel, PyProof.Rows.Boot.«RuntimeError», by decide, by decide, by decide +kernel, by decide +kernel⟩
theorem exN_Overflow : ExN "OverflowError" "OverflowError" "OverflowError.__new__" "OverflowError.__init__" [.type "OverflowError", .type "ArithmeticError", .type "Exception", .type "BaseException", .type "object"] := ⟨exB_Overflow, by decide +kernel, PyProof.Rows.Boot.«OverflowError», by decide, by decide, by decide +kernel, by decide +kernel⟩
def spI (C : Addr) (names : List Str) : Sp := fun vs H Q _ => ∃ a ws, vs = .ref a :: ws ∧ ws.length = names.length ∧ H a = some (exo a C none) ∧
  ∀ dx, H dx = none → dx ≠ a → ∀ H' : Hp, H' a = some (exo a C (some dx)) → H' dx = some (exd dx (names.zip ws).reverse) → (∀ b, b ≠ a → b ≠ dx → H' b = H b) → Q .non H'
section
variable {X : Cx} {C : Addr} {B newId initId : String} {bm : List Value} {BS : Str} {o e : Expr} {es : List Expr} {to te : TE} {ta : TA} {f : Str} {p p' p1 p2 pos : Pos}
def tBi (K : PySem.W.Frag) (C : Addr) (ta : TA) : TE := fun σ H Q => ta σ H fun vs H1 => ∃ (a : Addr) (ws : List V), vs = .ref a :: ws ∧ ws.length ≤ 1000 ∧ H1 a = some (exo a C none) ∧ Q .non H1
def tSf (C : Addr) (f : Str) (to te : TE) : TS := fun D σ H => te σ H fun y H1 => to σ H1 fun x H2 => ∃ a : Addr, x = .ref a ∧
  ((H2 a = some (exo a C none) ∧ ∀ dx, H2 dx = none → dx ≠ a → D.nx σ (L2.upd (L2.upd H2 dx (exd dx [(f, y)])) a (exo a C (some dx)))) ∨
    ∃ (dx : Addr) (fs : List (Str × V)), H2 a = some (exo a C (some dx)) ∧ H2 dx = some (exd dx fs) ∧ fs.length ≤ 900 ∧ D.nx σ (L2.upd H2 dx (exd dx ((f, y) :: fs))))
theorem pe_binit {pl : Sem Bool} (N : ExN BS B newId initId bm) (T : OwnX X.K C B newId initId bm) (hg : Gl X BS) (hm : X.mg BS = none) (vV : findCls X.K (.type B) (.type "type") "__init__" = some (.val (.builtin initId))) (ha : PA X (e :: es) ta)
    (hc : eval (.Call (.Attribute (.Name BS p1) "__init__" p2) (e :: es) [] pos) X.env = (do
      let cv ← eval (.Name BS p1) X.env
      standAt p2.atName
      let (g, fst) ← holding [cv] (getMethod cv "__init__" pl)
      callWith pos g fst (backTo pos (starEach (e :: es) X.env)) (backToKw pos (keywordEach [] X.env))) := by rfl)
    (he : starEach (e :: es) X.env = (false, eval e X.env) :: starEach es X.env := by rfl) (hpl : (backTo pos (starEach es X.env)).any (·.1) = false := by rfl) :
    PE X (.Call (.Attribute (.Name BS p1) "__init__" p2) (e :: es) [] pos) (tBi X.K C ta) := by
  refine ⟨fun pins s σ H Q I h => methodCall_KW (ld_blt I hg hm N.boot ?_ N.nn N.nd) hc⟩
  obtain ⟨m, fr⟩ := I.fr
  refine method_type fr I.ok.mod.kin N.eb.ty N.stub vV N.hand ?_
  refine PyProof.Rows.callWith_method1 (thn (ha.run pos pins _ σ H _ (I.tok _) h) fun us s1 hh => ?_) he hpl
  obtain ⟨vs, H1, I1, r1, a, ws, rfl, hl, ea, q⟩ := hh
  match us, r1 with
  | u0 :: ur, .cons ra rw' =>
    obtain rfl : u0 = Value.ref a := ra
    exact oinitB T I1 ea (by rw [← Paired.length rw', sizeLine_eq]; omega) fun s' J => ⟨.non, H1, J, rfl, q⟩
theorem ps_sf (N : ExN BS B newId initId bm) (T : OwnX X.K C B newId initId bm) (hno : takerIn X.K C f = some none) (ho : PE X o to) (he : PE X e te) (hs : swapsWith e (some (.Attribute o f p')) pos.line X.env = pure false := by rfl) : PS X (.Assign [.Attribute o f p'] e pos) (tSf C f to te) := by
  refine ⟨fun pins s σ H D I h => plainObj_wpAny_Assign_Attribute (thn (he.run pins s σ H _ I h) fun v s1 hh => ?_) hs⟩
  obtain ⟨y, H1, I1, r1, q1⟩ := hh
  refine thn (ho.run pins s1 σ H1 _ I1 q1) fun u s2 hh2 => ?_
  obtain ⟨x, H2, I2, r2, a, rfl, q⟩ := hh2
  obtain rfl : u = Value.ref a := r2
  rcases q with ⟨ea, q⟩ | ⟨dx, fs, ea, ed, hl, q⟩
  · exact ostF T N.tl I2 ea hno r1 fun dx s' n ne J => ⟨σ, _, J, q dx n ne⟩
  · exact ostL T N.tl I2 ea ed hl hno r1 fun s' J => ⟨σ, _, J, q⟩
end
section
variable {X : Cx}
def tMk (K : PySem.W.Frag) (C : Addr) (names : List Str) (ta : TA) : St → Hp → XK → Prop := fun σ H Q => ta σ H fun vs H1 => vs.length = names.length ∧
  ∀ (d : Addr) (H' : Hp), H1 d = none → H' d = some (.xd (names.zip vs).reverse) → (∀ b, b ≠ d → H' b = H1 b) → Q (.ref C) (some d) H'
theorem pmk_fields {x : Str} {C fI : Addr} {k : Nat} {fd : FuncData} {ps names : List Str} {B newId initId : String} {bm : List Value} {p pos : Pos} {e : Expr} {es : List Expr} {ta : TA} (T : OwnX X.K C B newId initId bm) (iC : findIn X.K (.ref C) "__init__" = some (some (.ref fI))) (tI : typeIn X.K (.ref fI) = some (.type "function"))
    (F1 : FnG X.prog X.w X.K X.mg X.base k fI fd ps (spI C names)) (hps : ps.length = names.length + 1) (hn : names.length ≤ 100) (hg : X.A.guards = some []) (hr : Room (k + 1) X.A) (hb : ∀ us : List Value, us.length = ps.length → ∀ s, BindsTo s fd ⟨us, []⟩ (ps.zip us)) (hgl : Gl X x) (hm : X.mg x = some (.ref C)) (ha : PA X (e :: es) ta)
    (hdb : (x == ("__debug__" : Str)) = false := by decide) (he : starEach (e :: es) X.env = (false, eval e X.env) :: starEach es X.env := by rfl) (hpl : (backTo pos (starEach es X.env)).any (·.1) = false := by rfl) :
    L2.PMk X (.Call (.Name x p) (e :: es) [] pos) (tMk X.K C names ta) := by
  intro pins s σ H Q I h
  obtain ⟨nm, q, N, bs, sn, sub, ab, col, dd, k0, k1, k2, k3, k5, hC⟩ := T.cls
  refine wpAny_Call_Name_kw (ld_glob I hgl hm (callWith_K (h₀ := X.base) I.ok.mod.kin T.kC (thn (ha.run pos pins s σ H _ I h) fun us s1 hh => ?_) he hpl) hdb)
  obtain ⟨vs, H1, I1, r1, hz, q1⟩ := hh
  refine ⟨I1.kIn, ?_⟩
  show wpAny _ _ (call (.ref C) us) _ _ _
  obtain ⟨hp, g, dr, tk, os⟩ := s1
  have hn1 : H1 (hp.objs.size + 1) = none := I1.hok.fresh (Nat.le_succ _)
  have kk : ∀ b o, hp.get? b = some o → ((hp.push (kdv_tup us)).push (excO C hp.objs.size)).get? b = some o := fun b o e => Heap.get?_push_of_some _ (Heap.get?_push_of_some _ e)
  have hget : ((hp.push (kdv_tup us)).push (excO C hp.objs.size)).get? (hp.objs.size + 1) = some (excO C hp.objs.size) := by heap_get
  have I2 := I1.laid (t' := tk) (a := hp.objs.size + 1) (o := exo (hp.objs.size + 1) C none) (h' := (hp.push (kdv_tup us)).push (excO C hp.objs.size)) kk (Nat.le_succ _) (exo_ok hget)
  have r2 : Vals (V.ref (hp.objs.size + 1) :: vs) (Value.ref (hp.objs.size + 1) :: us) := .cons rfl r1
  have hus : us.length = names.length := by rw [← Paired.length r1]; exact hz
  have sp : spI C names (V.ref (hp.objs.size + 1) :: vs) (L2.upd H1 (hp.objs.size + 1) (exo (hp.objs.size + 1) C none)) (fun v H2 => v = .non ∧ ∃ d : Addr, H1 d = none ∧ d ≠ hp.objs.size + 1 ∧ H2 (hp.objs.size + 1) = some (exo (hp.objs.size + 1) C (some d)) ∧ H2 d = some (exd d (names.zip vs).reverse) ∧ ∀ b, b ≠ hp.objs.size + 1 → b ≠ d → H2 b = H1 b) (fun _ _ _ => False) :=
    ⟨_, vs, rfl, hz, upd_same, fun dx hd hne H' e1 e2 e3 => ⟨rfl, dx, by rwa [upd_ne hne] at hd, hne, e1, e2, fun b h1 h2 => (e3 b h1 h2).trans (upd_ne h1)⟩⟩
  refine wpAny_call (call_own T.eb.fa (fun _ => rfl) (I1.kIn _ _ hC) (looks_findIn I1.kIn iC) (fun self => bind_fn I1.kIn self tI) (by rw [hus, sizeLine_eq]; omega)
    (codeAny_mono (F1.run _ X.stack _ _ ⟨Value.ref (hp.objs.size + 1) :: us, []⟩ _ _ _ _ ?_ (hr.make C us []) (I2.env0.make C us []) (hb _ (by rw [List.length_cons, hus, hps]) _) r2 sp) fun r s' hq' => ?_))
  · exact hg
  · cases r with
    | error er => exact False.elim hq'
    | ok fl =>
      cases fl with
      | ret u =>
        obtain ⟨v, H2, os2, bare2, un2, hok2, rv, ev, d, hd1, dne, ea, ed, eo⟩ := hq'
        subst ev
        obtain ⟨h2, g2, d2, t2, os'⟩ := s'
        refine ⟨rv, mk_end (raises_own T.exC T.tyC) I1 (Nat.le_succ _) kk un2 hok2 os2 bare2 ea ed hd1 (q1 d _ hd1 upd_same fun b hb => ?_)⟩
        rw [upd_ne hb]
        by_cases h1 : b = hp.objs.size + 1
        · rw [h1, del_same, hn1]
        · rw [del_ne h1, eo b h1 hb]
      | next => exact False.elim hq'
      | brk => exact False.elim hq'
      | cont => exact False.elim hq'
theorem pmk_bare {C : Addr} {bmB : List Value} {B newId initId : String} {x : Str} {p pos : Pos} (F : ExcBaseFacts B newId initId bmB) (q : excIn X.K C bmB newId = true) (gC : X.mg x = some (.ref C)) (kC : keepIn X.K (.ref C) = true) (r : Raises X (.ref C)) (hg : Gl X x)
    (hdb : (x == ("__debug__" : Str)) = false := by decide) : L2.PMk X (.Call (.Name x p) [] [] pos) (fun _ H Q => Q (.ref C) none H) := by
  intro pins s σ H Q I h
  refine wpAny_Call_Name_kw (ld_glob I hg gC (callWith_K0 I.kIn kC ?_) hdb)
  obtain ⟨bm, N, nm, qn, bs, hdct, sn, sub, ab, col, dd, k0, k1, k2, k3, k5, mN, hC, hN, hni, T⟩ := exc_obj I.kIn q
  exact wpAny_call_exc_subT F T hC hN hni (fun h' e hm => L2.mk_of I hm r h (I.hok.gone hm.new)) (Nat.zero_le _)
end
end HF
namespace HF
open PySem PySem.Spec L2
open PyProof.Rows hiding St
structure XCls (P : Program) (w : World) (K : PySem.W.Frag) (mg : Str → Option Value) (base : Heap) (k : Nat) (c : Str) (names : List Str) : Prop where
  run : ∀ (X : Cx) (p pos : Pos) (e : Expr) (es : List Expr) (fs : List Ev), X.prog = P → X.w = w → X.K = K → X.mg = mg → X.base = base → X.A.guards = some [] → Room k X.A → Gl X c → PA X (e :: es) (tAS X.K fs) → fs.length = names.length → (e :: es).length = names.length →
    starEach (e :: es) X.env = (false, eval e X.env) :: starEach es X.env → (backTo pos (starEach es X.env)).any (·.1) = false →
    L2.PMk X (.Call (.Name c p) (e :: es) [] pos) (fun σ H Q => tAS K fs σ H fun vs H1 => vs.length = names.length ∧ ∀ (C d : Addr) (H' : Hp), PySem.W.nsIn K mainGlobals c = some (some (.ref C)) →
      H1 d = none → H' d = some (.xd (names.zip vs).reverse) → (∀ b, b ≠ d → H' b = H1 b) → Q (.ref C) (some d) H')
structure XCls0 (P : Program) (w : World) (K : PySem.W.Frag) (mg : Str → Option Value) (base : Heap) (c : Str) : Prop where
  run : ∀ (X : Cx) (p pos : Pos), X.prog = P → X.w = w → X.K = K → X.mg = mg → X.base = base → Gl X c →
    L2.PMk X (.Call (.Name c p) [] [] pos) (fun _ H Q => ∀ C, PySem.W.nsIn K mainGlobals c = some (some (.ref C)) → Q (.ref C) none H)
section
variable {X : Cx} {W : WX}
theorem RpL.fields {K : PySem.W.Frag} {H : Hp} {io : List Addr} : ∀ {names : List Str} {ds : List D} {vs : List V}, RpL K H io ds vs [] → (∀ n ∈ names, PyData.strOk n = true) → RpK K H io ((names.zip ds).map fun p => (DK.s p.1, p.2)) ((names.zip vs).map fun p => (DK.s p.1, p.2)) []
  | [], _, _, _, _ => .nil
  | _ :: _, [], vs, h, _ => by
    obtain rfl := h.zero
    exact .nil
  | n :: names, d :: ds, vs, h, hs => by
    obtain ⟨v, ws, rfl, x, r⟩ := h.one
    exact RpK.cons (os := []) (ps := []) (hs n List.mem_cons_self) x (RpL.fields r fun m hm => hs m (List.mem_cons_of_mem _ hm))
theorem RpK.uncons {K : PySem.W.Frag} {H : Hp} {io : List Addr} {k : DK} {d : D} {ds : List (DK × D)} {vs : List (DK × V)} (h : RpK K H io ((k, d) :: ds) vs []) : ∃ v ws, vs = (k, v) :: ws ∧ okK k = true ∧ Rp K H io d v [] ∧ RpK K H io ds ws [] := by
  generalize ho : ([] : List Addr) = os at h
  cases h with
  | cons hk x r =>
    obtain ⟨e1, e2⟩ := List.append_eq_nil_iff.mp ho.symm
    subst e1 e2
    exact ⟨_, _, rfl, hk, x, r⟩
theorem RpK.unnil {K : PySem.W.Frag} {H : Hp} {io : List Addr} {vs : List (DK × V)} {os : List Addr} (h : RpK K H io [] vs os) : vs = [] := by
  cases h; rfl
theorem RpK.snoc {K : PySem.W.Frag} {H : Hp} {io : List Addr} {es : List (DK × D)} {us : List (DK × V)} (h2 : RpK K H io es us []) : ∀ {ds : List (DK × D)} {vs : List (DK × V)}, RpK K H io ds vs [] → RpK K H io (ds ++ es) (vs ++ us) []
  | [], vs, h => by rw [h.unnil]; exact h2
  | (k, d) :: ds, vs, h => by
    obtain ⟨v, ws, rfl, hk, x, r⟩ := h.uncons
    exact RpK.cons (os := []) (ps := []) hk x (RpK.snoc h2 r)
theorem RpK.rev {K : PySem.W.Frag} {H : Hp} {io : List Addr} : ∀ {ds : List (DK × D)} {vs : List (DK × V)}, RpK K H io ds vs [] → RpK K H io ds.reverse vs.reverse []
  | [], vs, h => by rw [h.unnil]; exact .nil
  | (k, d) :: ds, vs, h => by
    obtain ⟨v, ws, rfl, hk, x, r⟩ := h.uncons
    rw [List.reverse_cons, List.reverse_cons]
    exact RpK.snoc (RpK.cons (os := []) (ps := []) hk x .nil) (RpK.rev r)
theorem kp_dict {io : List Addr} {H H' : Hp} {d : Addr} (hn : H d = none) (ho : ∀ b, b ≠ d → H' b = H b) : Kp io H io H' :=
  ⟨fun a o e _ => (ho a fun z => by rw [z, hn] at e; cases e).trans e, List.prefix_refl _, fun _ h n => absurd h n⟩
theorem SR.dict {K : PySem.W.Frag} {io : List Addr} {b : Bx} {r : Env} {oss : List (List Addr)} {σ : St} {H H' : Hp} {d : Addr} (S : SR K io b r oss σ H) (hn : H d = none) (ho : ∀ b, b ≠ d → H' b = H b) : SR K io b r oss σ H' :=
  ⟨S.len, fun n a zs e1 e2 => (ho a fun z => by have := S.bx n a zs e1 e2; rw [z, hn] at this; cases this).trans (S.bx n a zs e1 e2), S.nd, S.sl.keep (kp_dict hn ho) S.bl, S.od⟩
structure CalX (P : Program) (w : World) (K : PySem.W.Frag) (mg : Str → Option Value) (base : Heap) (k : Nat) (x : Str) (st : Stmt) (fx : Fx) (ps : List Str) : Prop where
  ex : ∃ (f : Addr) (kV doc pm : Value) (an : Option Addr) (cdv ct : Value), FnX P w K mg base k f (PySem.W.fnOf x x (defArgs st) (defBody st) (defScope st) .none kV doc pm an cdv ct) ps fx ∧ mg x = some (.ref f) ∧ PySem.W.keepIn K (.ref f) = true
theorem CalX.of {P : Program} {w : World} {K : PySem.W.Frag} {mg : Str → Option Value} {base : Heap} {k : Nat} {x : Str} {st : Stmt} {N ps : List Str} {sx : Sx} (n : Nat) (S : Std K mg x st) (sc : FnScope N ps (defScope st)) (hn : N.length = ps.length + n)
    (hb : ∀ (f : Addr) (cdv : Value) (A : Around) (outer : List PySem.Env) (s : Shared) (H : Hp) (E : XK), A.guards = some [] → Room k (A.deeper (envOfC x (defScope st) s.heap.objs.size f cdv)) →
      L2.Takes (cxOf (L2.CX P w) P w K mg base N x (defScope st) f cdv A outer s H E) (wE E) → PSs (cxOf (L2.CX P w) P w K mg base N x (defScope st) f cdv A outer s H E) (defBody st) (tX K sx E)) :
    CalX P w K mg base (k + 1) x st (runX n sx) ps := by
  obtain ⟨f, oc, od, kV, doc, pm, an, cdv, ct, osl, l, c, kp, hm⟩ := S.ex
  exact ⟨f, kV, doc, pm, an, cdv, ct, fn_x n l c sc hn fun A outer s H E hg hr tk => hb f cdv A outer s H E hg hr tk, hm, kp⟩
theorem CalX.mono {P : Program} {w : World} {K : PySem.W.Frag} {mg : Str → Option Value} {base : Heap} {j k : Nat} {x : Str} {st : Stmt} {fx : Fx} {ps : List Str} (c : CalX P w K mg base j x st fx ps) (h : j ≤ k) : CalX P w K mg base k x st fx ps := by
  obtain ⟨f, kV, doc, pm, an, cdv, ct, F, r⟩ := c.ex
  exact ⟨f, kV, doc, pm, an, cdv, ct, F.mono h, r⟩
end
end HF
namespace HF
open PySem PySem.Spec L2
open PyProof.Rows hiding St
abbrev hx (o : Obj) : HO := .frz o (.ext fun _ => True)
section
variable {X : Cx} {pins : List (Addr × Obj)} {σ : St} {H : Hp} {sI s s' : Shared} {B : Heap}
theorem inv_land {a : Addr} {oe : Obj} (I : Inv X pins σ H sI) (nb : ∀ b o, sI.heap.get? b = some o → b ∉ frs X.stack → B.get? b = some o) (st : B.StaysIn s'.heap) (up : sI.heap.UpToSlots s'.heap) (os : s'.os = sI.os) (ag : AllBare s'.gens)
    (na : H a = none) (he : s'.heap.get? a = some oe) (ba : B.get? a = none) (nf : a ∉ frs X.stack) : Inv X pins σ (L2.upd H a (hx oe)) s' := by
  have nfr : ∀ b ∈ frs X.stack, ∀ o, sI.heap.get? b = some o → ∃ sl, s'.heap.get? b = some { o with slots := sl } := fun b hb o e => by
    obtain ⟨_, o', e', hd⟩ := I.stack.mem hb
    rw [e] at e'; cases e'
    exact up b o e hd
  have ne : ∀ b o, sI.heap.get? b = some o → b ≠ a := fun b o e z => by
    subst z
    have := nb b o e nf
    rw [ba] at this; cases this
  have nt : ∀ b u, H b = some u → b ≠ a := fun b u e z => by rw [z, na] at e; cases e
  have hok : HOk X.prog X.w (L2.upd H a (hx oe)) s'.heap := fun b u q => by
    by_cases hb : b = a
    · subst hb
      rw [upd_same] at q; cases q
      exact ⟨he, trivial, ⟨oe, he⟩, fun _ _ _ _ => trivial⟩
    · rw [upd_ne hb] at q
      exact (((I.inGround nb).kept st) b u q).stay (fun c v _ q => q) (fun c q => (upd_ne (nt c _ q)).trans q) fun c xs q => (upd_ne (nt c _ q)).trans q
  have J := I.call (ch := []) (h' := s'.heap) (g' := s'.gens) (t' := s'.toks) (d' := s'.drawn) (H' := L2.upd H a (hx oe))
    ⟨fun b o e _ hb _ => st b o (nb b o e hb), fun b o e _ hb _ => nfr b hb o e, fun b o e n _ => (upd_ne (ne b o e)).trans n, fun b o e _ => (Decidable.em (b ∈ frs X.stack)).elim (fun hb => let ⟨sl, q⟩ := nfr b hb o e; ⟨_, q⟩) fun hb => ⟨o, st b o (nb b o e hb)⟩,
      fun b _ e => (upd_ne (nt b _ e)).trans e, fun b _ _ e => (upd_ne (nt b _ e)).trans e, fun b ps e => ⟨#[], by rw [upd_ne (nt b _ e), e]; simp⟩⟩
    hok ag (fun _ z => nomatch z)
  obtain ⟨a1, a2, a3, a4, a5⟩ := s'
  have e5 : a5 = sI.os := os
  subst e5
  exact J
end
end HF
namespace HF
open PySem PySem.Spec PySem.W L2
open PyProof.Rows hiding St
structure ClsX (K : PySem.W.Frag) (mg : Str → Option Value) (c : Str) (C : Addr) : Prop where
  ns : nsIn K mainGlobals c = some (some (.ref C))
  mg : mg c = some (.ref C)
  is : (clsIn K C).isSome = true
  ty : typeIn K (.ref C) = some (.type "type")
  ex : subIn K (.ref C) (.type "BaseException") = some true
  ga : findIn K (.ref C) "__getattribute__" = some (some (.builtin "BaseException.__getattribute__"))
  gg : findIn K (.ref C) "__getattr__" = some none
  cl : findIn K (.ref C) "__class__" = some (some (.builtin "object.__class__"))
  hd : hasDictIn K C = true
  mo : mroIn K C (.type "object") = some true
  sn : specialIn K (.builtin "object.__class__") "__get__" = some (some (.builtin "getset_descriptor.__get__"))
  tk : takesIn K (.builtin "object.__class__") = some true
theorem ClsX.one {K : PySem.W.Frag} {mg : Str → Option Value} {c : Str} {C D : Addr} (h : ClsX K mg c C) (e : nsIn K mainGlobals c = some (some (.ref D))) : D = C := by
  have := h.ns
  rw [e] at this
  cases this; rfl
def oIsX (tb : List (Str × Bool)) (d : D) : Option D := match d with
  | .exc c _ => (tb.lookup c).map D.bl
  | .non => some (.bl false)
  | _ => none
def oFld (n : Str) (d : D) : Option D := match d with
  | .exc _ kvs => match kvs.find? fun p => decide (p.1 = .s n) with
    | some (_, v) => some v
    | none => none
  | _ => none
def oFldX (n : Str) (cs : List Str) (d : D) : Option D := match d with
  | .exc c kvs => if c ∈ cs then oFld n (.exc c kvs) else none
  | _ => none
theorem mem_lookup {c : Str} {b : Bool} : ∀ {tb : List (Str × Bool)}, tb.lookup c = some b → (c, b) ∈ tb
  | [], h => by cases h
  | (k, z) :: tb, h => by
    by_cases hk : c = k
    · subst hk
      rw [List.lookup_cons_self] at h
      cases h
      exact List.mem_cons_self
    · rw [List.lookup_cons, beq_false_of_ne hk] at h
      exact List.mem_cons_of_mem _ (mem_lookup h)
theorem fld_look {K : PySem.W.Frag} {H : Hp} {io : List Addr} {n : Str} {d : D} : ∀ {kds : List (DK × D)} {xs : List (Str × V)}, RpK K H io kds (xs.map fun p => (DK.s p.1, p.2)) [] → (match kds.find? fun p => decide (p.1 = .s n) with | some (_, v) => some v | none => none) = some d → ∃ w, xs.lookup n = some w ∧ Rp K H io d w []
  | [], _, _, h => by cases h
  | (k, dv) :: kds, xs, rk, h => by
    obtain ⟨y, ys, ey, hk, x1, r1⟩ := rk.uncons
    match xs, ey with
    | (m, y') :: xs, ey =>
      rw [List.map_cons] at ey
      obtain ⟨ea, eb⟩ := List.cons.inj ey
      obtain ⟨rfl, rfl⟩ := Prod.mk.inj ea
      subst eb
      by_cases hm : (DK.s m) = .s n
      · rw [List.find?_cons, decide_eq_true hm] at h
        cases h
        cases hm
        exact ⟨y', List.lookup_cons_self, x1⟩
      · rw [List.find?_cons, decide_eq_false hm] at h
        obtain ⟨w, h1, h2⟩ := fld_look r1 h
        exact ⟨w, by rw [List.lookup_cons, beq_false_of_ne (fun z => hm (by rw [z]))]; exact h1, h2⟩
inductive AskX (X : Cx) : Str → V → Value → Prop where
  | own {x : Str} {C : Addr} (h : ClsX X.K X.mg x C) : AskX X x (.ref C) (.ref C)
  | blt {x : Str} {T : String} (h : X.mg x = none) (hv : bootBuiltins x = some (.type T)) (hm : kitMeta T = true) (hn : x ≠ "__name__") : AskX X x (.ty T) (.type T)
def TabX (K : PySem.W.Frag) (mg : Str → Option Value) (tb : List (Str × Bool)) (u : Value) : Prop := subIn K (.type "NoneType") u = some false ∧ ∀ p ∈ tb, ∃ C, ClsX K mg p.1 C ∧ subIn K (.ref C) u = some p.2
theorem kit_sub {K : PySem.W.Frag} {X : Cx} {x : Str} {v : V} {t u : Value} {b : Bool} (hX : X.K = K) (A : AskX X x v u) (h : subIn K t u = some b) (hne : (t == u) = true → b = true) : kitOne K t u = some b := by
  subst hX
  unfold kitOne
  by_cases e : (t == u) = true
  · rw [if_pos e, hne e]
  · rw [if_neg e]
    cases A with
    | own c =>
      show (if _ then _ else _) = _
      rw [if_pos (by rw [c.is, c.ty]; rfl)]
      exact h
    | blt _ _ hm _ =>
      show (if _ then _ else _) = _
      rw [if_pos hm]
      exact h
theorem Rp.excI {K : PySem.W.Frag} {H : Hp} {io : List Addr} {c : Str} {kds : List (DK × D)} {v : V} {os : List Addr} (h : Rp K H io (.exc c kds) v os) : ∃ a xs, v = .ref a ∧ ExAt K H c a xs ∧ RpK K H io kds (xs.map fun p => (DK.s p.1, p.2)) [] := by
  cases h with
  | exc h r => exact ⟨_, _, rfl, h, r⟩
def rIsX (K : PySem.W.Frag) (mg : Str → Option Value) : List V → Hp → VK → Prop := fun xs H Q => ∃ (a : Addr) (c : Str) (C : Addr) (fs : List (Str × V)) (k : V) (u : Value) (b : Bool), xs = [.ref a, k] ∧ ClsX K mg c C ∧ ExAt K H c a fs ∧ ClsV k u ∧ kitOne K (.ref C) u = some b ∧ Q (.bl b) H
section
variable {X : Cx} {pins : List (Addr × Obj)} {σ : St} {H : Hp} {s : Shared}
theorem inst_at {c : Str} {C a : Addr} {fs : List (Str × V)} (I : Inv X pins σ H s) (hc : ClsX X.K X.mg c C) (h : ExAt X.K H c a fs) : ∃ (o : Obj) (od : Option Obj), InstAt s.heap a o C od ∧ ∀ n v, fs.lookup n = some v → ∃ d u, od = some d ∧ lookIn n d = some (some u) ∧ RelV v u := by
  obtain ⟨D, o, u, h1, h2, h3, ⟨vs, h4⟩, h5⟩ := h
  obtain rfl := hc.one h1
  obtain ⟨e1, _⟩ := (show ObjOk X.prog X.w H s.heap a (.frz o u) from I.hok a _ h2)
  have hno : notCls o = true := by unfold notCls; rw [h4] <;> rfl
  cases hd : o.dict with
  | none =>
    rw [hd] at h5
    obtain rfl : fs = [] := h5
    exact ⟨o, none, ⟨e1, h3, hno, by rw [hd]; trivial⟩, fun n v e => by cases e⟩
  | some dd =>
    rw [hd] at h5
    obtain ⟨mA, hns, hr⟩ := (show ObjOk X.prog X.w H s.heap dd (.xd fs) from I.hok dd _ h5)
    obtain ⟨od, ho, hl⟩ := lookIn_ns hns
    refine ⟨o, some od, ⟨e1, h3, hno, by rw [hd]; exact ho⟩, fun n v e => ?_⟩
    obtain ⟨u, hu, ru⟩ := RelO.some_of (v := v) (o := mA n) (by rw [← e]; exact hr n)
    exact ⟨od, u, rfl, by rw [hl, hu], ru⟩
theorem call_isX : CallR X (.builtin "isinstance") (rIsX X.K X.mg) := by
  intro pins s σ H xs us Q I r h
  obtain ⟨a, c, C, fs, k, u, b, rfl, hc, he, hk, e, q⟩ := h
  obtain ⟨u1, u2, rfl, r1, r2⟩ := vals2 r
  obtain rfl : u1 = Value.ref a := r1
  have e2 := hk.eq r2
  subst e2
  obtain ⟨o, od, J, _⟩ := inst_at I hc he
  exact kia_one (kitx_exc hc.is hc.ga hc.gg hc.ex hc.cl hc.sn hc.tk hc.mo) I.kIn J e (fun z => nomatch z) fun tk => ⟨.bl b, H, I.tok tk, rfl, q⟩
theorem AskX.clsV {x : Str} {v : V} {u : Value} (A : AskX X x v u) : ClsV v u := by
  cases A with
  | own _ => exact .own _
  | blt _ _ _ _ => exact .ty _
theorem AskX.pe {x : Str} {v : V} {u : Value} {p : Pos} (A : AskX X x v u) (hg : Gl X x) (hd : (x == ("__debug__" : Str)) = false) : PE X (.Name x p) (tC v) := by
  cases A with
  | own c => exact pe_glob hg c.mg rfl hd
  | blt h hv _ hn => exact pe_bltn (v := V.ty _) hg h hv rfl hn hd
theorem callR_or {f : Value} {r r' : List V → Hp → VK → Prop} (h : CallR X f r) (h' : CallR X f r') : CallR X f (fun xs H Q => r xs H Q ∨ r' xs H Q) := fun pins s σ H xs us Q I rv hq => hq.elim (h pins s σ H xs us Q I rv) (h' pins s σ H xs us Q I rv)
theorem bIsX {x : Str} {v : V} {u : Value} {a : Expr} {f : Ev} {p p2 pos : Pos} (tb : List (Str × Bool)) (A : AskX X x v u) (T : TabX X.K X.mg tb u) (hne : ∀ p ∈ tb, ∀ C, ClsX X.K X.mg p.1 C → (Value.ref C == u) = true → p.2 = true) (hun : u ≠ .type "NoneType") (hm : X.mg "isinstance" = none) (ha : PE X a (tM X.K false f)) (hg : Gl X "isinstance" := by rfl) (gx : Gl X x := by rfl) (hd : (x == ("__debug__" : Str)) = false := by decide)
    (hs : starEach [a, .Name x p2] X.env = (false, eval a X.env) :: starEach [.Name x p2] X.env := by rfl) (hs2 : starEach [.Name x p2] X.env = (false, eval (.Name x p2) X.env) :: starEach [] X.env := by rfl) (hpl : (backTo pos (starEach [.Name x p2] X.env)).any (·.1) = false := by rfl) :
    PE X (.Call (.Name "isinstance" p) [a, .Name x p2] [] pos) (tV X.K (e1 (oIsX tb) f)) :=
  PE_wk (pe_callB (callR_or call_isX call_isi) hg hm PyProof.Rows.Boot.«isinstance» (pa_cons ha (pa_cons (A.pe gx hd) pa_nil hs2) hs) (by decide) (by decide) hs hpl) fun σ H Q ⟨io, b, r, oss, S, d, b', e, q⟩ => by
    obtain ⟨dx, b1, e1, e2⟩ := bnd_some e
    obtain ⟨e3, e4⟩ := lift_some e2
    replace e3 : oIsX tb dx = some d := e3
    replace e4 : b' = b1 := e4
    subst e4
    refine ⟨io, b, r, oss, S, dx, _, e1, fun y H1 io1 os k1 S1 rx _ => ?_⟩
    match dx, e3, rx with
    | .exc c kds, e3, rx =>
      obtain ⟨bb, hb, rfl⟩ := Option.map_eq_some_iff.mp (show (tb.lookup c).map D.bl = some d from e3)
      obtain ⟨a0, xs, rfl, he, _⟩ := rx.excI
      have mem : (c, bb) ∈ tb := mem_lookup hb
      obtain ⟨C, hC, hsub⟩ := T.2 _ mem
      exact .inl ⟨a0, c, C, xs, v, u, bb, rfl, hC, he, A.clsV, kit_sub rfl A hsub (hne _ mem C hC), q _ H1 io1 [] k1 S1 (.bl bb) List.nodup_nil nil_all⟩
    | .non, e3, rx =>
      cases e3
      cases rx
      exact .inr ⟨.non, v, .type "NoneType", u, false, rfl, A.clsV, .base .non, kit_sub rfl A T.1 (fun z => absurd (beq_iff_eq.mp z).symm hun), q _ H1 io1 [] k1 S1 (.bl false) List.nodup_nil nil_all⟩
theorem xFld {a : Expr} {f : Ev} {pos : Pos} (n : Str) (cs : List Str) (hcs : ∀ c ∈ cs, ∃ C, ClsX X.K X.mg c C ∧ findIn X.K (.ref C) n = some none) (ha : PE X a (tM X.K false f)) (hb : attributeBase a n X.env (eval a X.env) = eval a X.env := by rfl) :
    PE X (.Attribute a n pos) (tV X.K (e1 (oFldX n cs) f)) := by
  refine ⟨fun pins s σ H Q I ⟨io, b, r, oss, S, d, b', e, q⟩ => ?_⟩
  obtain ⟨dx, b1, e1, e2⟩ := bnd_some e
  obtain ⟨e3, e4⟩ := lift_some e2
  replace e4 : b' = b1 := e4
  subst e4
  refine attr_of hb (thn (ha.run pins s σ H (fun v H1 => ∃ io1 os, Kp io H io1 H1 ∧ SR X.K io1 b' r oss σ H1 ∧ Rp X.K H1 io1 dx v os) I ⟨io, b, r, oss, S, dx, b', e1, fun v H1 io1 os k1 S1 rx _ => ⟨io1, os, k1, S1, rx⟩⟩) fun u s1 hh => ?_)
  obtain ⟨v, H1, I1, rv, io1, os, k1, S1, rx⟩ := hh
  match dx, e3, rx with
  | .exc c kds, e3, rx =>
    have e3 : (if c ∈ cs then oFld n (.exc c kds) else none) = some d := e3
    by_cases hc : c ∈ cs
    · rw [if_pos hc] at e3
      obtain ⟨a0, xs, rfl, he, rk⟩ := rx.excI
      obtain rfl : u = Value.ref a0 := rv
      obtain ⟨C, hC, hno⟩ := hcs c hc
      obtain ⟨o, od, J, hl⟩ := inst_at I1 hC he
      obtain ⟨w, hw, rw'⟩ := fld_look rk (show (match kds.find? fun p => decide (p.1 = .s n) with | some (_, v) => some v | none => none) = some d from e3)
      obtain ⟨dd, u2, rfl, h1, ru⟩ := hl n w hw
      exact HandSPX.exc_get I1.kIn J hC.ga hC.gg hC.ex (findObj_own hC.hd hno rfl h1) (handed_of ru) ⟨w, H1, I1.tok _, ru, q w H1 io1 [] k1 S1 rw' List.nodup_nil nil_all⟩
    · rw [if_neg hc] at e3; cases e3
end
end HF
namespace HF
open PySem PySem.Spec PySem.W L2
open PyProof.Rows hiding St
section
variable {P : Program} {w : World} {K : PySem.W.Frag} {mg : Str → Option Value} {base : Heap}
theorem fn_sp {k : Nat} {f : Addr} {name qual : Str} {params : Arguments} {body : List Stmt} {scope : Scope} {dV kV doc pm cdv ct oc : Value} {an od : Option Addr} {osl : Array (Option Value)} {N ps : List Str} {sp : Sp} {t : TS}
    (lk : K.lookup f = some ⟨oc, od, .func (fnOf name qual params body scope dV kV doc pm an cdv ct), osl⟩) (hcd : codeIn K cdv qual = true) (S : FnScope N ps scope)
    (hbody : ∀ (A : Around) (outer : List PySem.Env) (s : Shared) (H : Hp) (E : XK), A.guards = some [] → Room k (A.deeper (envOfC qual scope s.heap.objs.size f cdv)) → PSs (cxOf CXn P w K mg base N qual scope f cdv A outer s H E).nox body t)
    (hsp : ∀ vs H Q E, sp vs H Q E → vs.length = ps.length ∧ t { nx := fun _ H' => Q .non H', rt := Q } (L2.start N vs) H) :
    FnG P w K mg base (k + 1) f (fnOf name qual params body scope dV kV doc pm an cdv ct) ps sp := by
  refine ⟨fun vs H Q E h => (hsp vs H Q E h).1, fun A outer s H args us vs Q E hg hr e0 hb r h => ?_⟩
  obtain ⟨hl, ht⟩ := hsp vs H Q E h
  have inK : K.In s.heap := e0.mod.kin.keeps fun b o e => (e0.bs b o e).1
  have noL : s.heap.NoLimit := e0.mod.nolimit.keeps fun b o e => (e0.bs b o e).1
  refine codeAny_call_function hr.depth (inK _ _ lk) rfl S.co S.gen rfl (codeRec_of inK hcd) (hb _ _ _ _ ?_)
  refine wpAny_newFunctionEnv_cells S.kind (fun y hy => (S.par y.1 (List.of_mem_zip hy).1).imp id fun q => ⟨q, cellsFrom_some _ _ _ (.inl q)⟩) fun env he s1 x => ?_
  subst he
  refine ⟨noL.keeps x.toInCall.keep, codeAny_func ?_⟩
  have I := inv_start (CX := CXn) (E := E) S hr.hd e0 hl r x
  refine wpAny_mono ((hbody A outer s H E hg (hr.deeper _)).nox.run [] s1 (L2.start N vs) H _ I ht) (fun fl s' hs => ?_) fun e s' hs => hs
  cases fl with
  | ret u =>
    obtain ⟨v, σ', H', J, rv, q⟩ := hs
    exact ⟨v, H', J.os, J.bare, J.base, J.hok, rv, q⟩
  | next =>
    obtain ⟨σ', H', J, q⟩ := hs
    exact ⟨.non, H', J.os, J.bare, J.base, J.hok, rfl, q⟩
  | brk => exact hs.choose_spec.choose_spec.2.elim
  | cont => exact hs.choose_spec.choose_spec.2.elim
end
def tI1 (C : Addr) (f : Str) : TS := fun D σ H => ∃ a v, σ[0]? = some (some (.ref a)) ∧ σ[1]? = some (some v) ∧ H a = some (exo a C none) ∧
  ∀ dx, H dx = none → dx ≠ a → D.nx σ (L2.upd (L2.upd H dx (exd dx [(f, v)])) a (exo a C (some dx)))
def tI2 (C : Addr) (f g : Str) : TS := fun D σ H => ∃ a v u, σ[0]? = some (some (.ref a)) ∧ σ[1]? = some (some v) ∧ σ[2]? = some (some u) ∧ H a = some (exo a C none) ∧
  ∀ dx, H dx = none → dx ≠ a → D.nx σ (L2.upd (L2.upd (L2.upd H dx (exd dx [(f, v)])) a (exo a C (some dx))) dx (exd dx [(g, u), (f, v)]))
section
variable {X : Cx} {C : Addr} {BS x0 x1 x2 f g : Str} {B newId initId : String} {bm : List Value} {p1 p2 p3 p4 p5 p6 p7 p8 p9 pa pb pc pd pe pf pg : Pos} {pl : Sem Bool}
theorem init1 (N : ExN BS B newId initId bm) (T : OwnX X.K C B newId initId bm) (hm : X.mg BS = none) (vV : findCls X.K (.type B) (.type "type") "__init__" = some (.val (.builtin initId))) (hno : takerIn X.K C f = some none)
    (hc : eval (.Call (.Attribute (.Name BS p1) "__init__" p2) [.Name x0 p3, .Name x1 p4] [] p5) X.env = (do
      let cv ← eval (.Name BS p1) X.env
      standAt p2.atName
      let (g, fst) ← holding [cv] (getMethod cv "__init__" pl)
      callWith p5 g fst (backTo p5 (starEach [.Name x0 p3, .Name x1 p4] X.env)) (backToKw p5 (keywordEach [] X.env))) := by rfl)
    (hg : Gl X BS := by rfl) (h0 : X.N[0]? = some x0 := by rfl) (h1 : X.N[1]? = some x1 := by rfl) (v0 : Vis X.env.scope x0 := by exact Or.inl rfl) (v1 : Vis X.env.scope x1 := by exact Or.inl rfl)
    (d0 : (x0 == ("__debug__" : Str)) = false := by decide) (d1 : (x1 == ("__debug__" : Str)) = false := by decide) (c0 : (x0 == ("__classdict__" : Str)) = false := by decide) (c1 : (x1 == ("__classdict__" : Str)) = false := by decide)
    (he : starEach [.Name x0 p3, .Name x1 p4] X.env = (false, eval (.Name x0 p3) X.env) :: starEach [.Name x1 p4] X.env := by rfl) (he2 : starEach [.Name x1 p4] X.env = (false, eval (.Name x1 p4) X.env) :: starEach [] X.env := by rfl) (hpl : (backTo p5 (starEach [.Name x1 p4] X.env)).any (·.1) = false := by rfl)
    (hs : swapsWith (.Call (.Attribute (.Name BS p1) "__init__" p2) [.Name x0 p3, .Name x1 p4] [] p5) none p6.line X.env = pure false := by rfl) (hs2 : swapsWith (.Name x1 p9) (some (.Attribute (.Name x0 p7) f p8)) pa.line X.env = pure false := by rfl) :
    PSs X [.Expr (.Call (.Attribute (.Name BS p1) "__init__" p2) [.Name x0 p3, .Name x1 p4] [] p5) p6, .Assign [.Attribute (.Name x0 p7) f p8] (.Name x1 p9) pa] (tI1 C f) :=
  PSs_wk (pss_cons (ps_expr (pe_binit N T hg hm vV (pa_cons (pe_var h0 v0 d0 c0) (pa_cons (pe_var h1 v1 d1 c1) pa_nil he2) he) hc he hpl) hs) (pss_one (ps_sf N T hno (pe_var h0 v0 d0 c0) (pe_var h1 v1 d1 c1) hs2))) fun D σ H ⟨a, v, e0, e1, ea, q⟩ =>
    ⟨_, e0, _, e1, a, [v], rfl, (by show 1 ≤ 1000; decide), ea, _, e1, _, e0, a, rfl, .inl ⟨ea, q⟩⟩
theorem init2 (N : ExN BS B newId initId bm) (T : OwnX X.K C B newId initId bm) (hm : X.mg BS = none) (vV : findCls X.K (.type B) (.type "type") "__init__" = some (.val (.builtin initId))) (hno : takerIn X.K C f = some none) (hno2 : takerIn X.K C g = some none)
    (hc : eval (.Call (.Attribute (.Name BS p1) "__init__" p2) [.Name x0 p3, .Name x1 p4, .Name x2 pb] [] p5) X.env = (do
      let cv ← eval (.Name BS p1) X.env
      standAt p2.atName
      let (g, fst) ← holding [cv] (getMethod cv "__init__" pl)
      callWith p5 g fst (backTo p5 (starEach [.Name x0 p3, .Name x1 p4, .Name x2 pb] X.env)) (backToKw p5 (keywordEach [] X.env))) := by rfl)
    (hg : Gl X BS := by rfl) (h0 : X.N[0]? = some x0 := by rfl) (h1 : X.N[1]? = some x1 := by rfl) (h2 : X.N[2]? = some x2 := by rfl) (v0 : Vis X.env.scope x0 := by exact Or.inl rfl) (v1 : Vis X.env.scope x1 := by exact Or.inl rfl) (v2 : Vis X.env.scope x2 := by exact Or.inl rfl)
    (d0 : (x0 == ("__debug__" : Str)) = false := by decide) (d1 : (x1 == ("__debug__" : Str)) = false := by decide) (d2 : (x2 == ("__debug__" : Str)) = false := by decide) (c0 : (x0 == ("__classdict__" : Str)) = false := by decide) (c1 : (x1 == ("__classdict__" : Str)) = false := by decide) (c2 : (x2 == ("__classdict__" : Str)) = false := by decide)
    (he : starEach [.Name x0 p3, .Name x1 p4, .Name x2 pb] X.env = (false, eval (.Name x0 p3) X.env) :: starEach [.Name x1 p4, .Name x2 pb] X.env := by rfl) (he2 : starEach [.Name x1 p4, .Name x2 pb] X.env = (false, eval (.Name x1 p4) X.env) :: starEach [.Name x2 pb] X.env := by rfl) (he3 : starEach [.Name x2 pb] X.env = (false, eval (.Name x2 pb) X.env) :: starEach [] X.env := by rfl) (hpl : (backTo p5 (starEach [.Name x1 p4, .Name x2 pb] X.env)).any (·.1) = false := by rfl)
    (hs : swapsWith (.Call (.Attribute (.Name BS p1) "__init__" p2) [.Name x0 p3, .Name x1 p4, .Name x2 pb] [] p5) none p6.line X.env = pure false := by rfl) (hs2 : swapsWith (.Name x1 p9) (some (.Attribute (.Name x0 p7) f p8)) pa.line X.env = pure false := by rfl) (hs3 : swapsWith (.Name x2 pe) (some (.Attribute (.Name x0 pc) g pd)) pf.line X.env = pure false := by rfl) :
    PSs X [.Expr (.Call (.Attribute (.Name BS p1) "__init__" p2) [.Name x0 p3, .Name x1 p4, .Name x2 pb] [] p5) p6, .Assign [.Attribute (.Name x0 p7) f p8] (.Name x1 p9) pa, .Assign [.Attribute (.Name x0 pc) g pd] (.Name x2 pe) pf] (tI2 C f g) :=
  PSs_wk (pss_cons (ps_expr (pe_binit N T hg hm vV (pa_cons (pe_var h0 v0 d0 c0) (pa_cons (pe_var h1 v1 d1 c1) (pa_cons (pe_var h2 v2 d2 c2) pa_nil he3) he2) he) hc he hpl) hs) (pss_cons (ps_sf N T hno (pe_var h0 v0 d0 c0) (pe_var h1 v1 d1 c1) hs2) (pss_one (ps_sf N T hno2 (pe_var h0 v0 d0 c0) (pe_var h2 v2 d2 c2) hs3)))) fun D σ H ⟨a, v, u, e0, e1, e2, ea, q⟩ =>
    ⟨_, e0, _, e1, _, e2, a, [v, u], rfl, (by show 2 ≤ 1000; decide), ea, _, e1, _, e0, a, rfl, .inl ⟨ea, fun dx hd hne => ⟨_, e2, _, e0, a, rfl, .inr ⟨dx, _, upd_same, (upd_ne hne).trans upd_same, (by show 1 ≤ 900; decide), q dx hd hne⟩⟩⟩⟩
end
section
variable {P : Program} {w : World} {K : PySem.W.Frag} {mg : Str → Option Value} {base : Heap} {c qual : Str} {C fI : Addr} {st : Stmt} {B newId initId : String} {bm : List Value} {doc pm cdv ct oc : Value} {an od : Option Addr} {osl : Array (Option Value)}
theorem spI_one {C : Addr} {f x0 x1 : Str} (vs : List V) (H : Hp) (Q : VK) (E : XK) (h : spI C [f] vs H Q E) : vs.length = [x0, x1].length ∧ tI1 C f { nx := fun _ H' => Q .non H', rt := Q } (L2.start [x0, x1] vs) H := by
  obtain ⟨a, ws, rfl, hl, ea, q⟩ := h
  match ws, hl with
  | [v], _ => exact ⟨rfl, a, v, rfl, rfl, ea, fun dx hd hne => q dx hd hne _ upd_same ((upd_ne hne).trans upd_same) fun b h1 h2 => (upd_ne h1).trans (upd_ne h2)⟩
theorem spI_two {C : Addr} {f g x0 x1 x2 : Str} (vs : List V) (H : Hp) (Q : VK) (E : XK) (h : spI C [f, g] vs H Q E) : vs.length = [x0, x1, x2].length ∧ tI2 C f g { nx := fun _ H' => Q .non H', rt := Q } (L2.start [x0, x1, x2] vs) H := by
  obtain ⟨a, ws, rfl, hl, ea, q⟩ := h
  match ws, hl with
  | [v, u], _ => exact ⟨rfl, a, v, u, rfl, rfl, rfl, ea, fun dx hd hne => q dx hd hne _ ((upd_ne (fun z => hne z.symm)).trans upd_same) upd_same fun b h1 h2 => (upd_ne h2).trans ((upd_ne h1).trans (upd_ne h2))⟩
theorem xcls_mk {names N : List Str} {t : TS} (hns : nsIn K mainGlobals c = some (some (.ref C))) (hmg : mg c = some (.ref C)) (T : OwnX K C B newId initId bm) (iC : findIn K (.ref C) "__init__" = some (some (.ref fI))) (tI : typeIn K (.ref fI) = some (.type "function"))
    (lk : K.lookup fI = some ⟨oc, od, .func (fnOf "__init__" qual (defArgs st) (defBody st) (defScope st) .none .none doc pm an cdv ct), osl⟩) (hcd : codeIn K cdv qual = true) (S : FnScope N N (defScope st)) (hN : N.length = names.length + 1) (hn : names.length ≤ 100)
    (hbody : ∀ (A : Around) (outer : List PySem.Env) (s : Shared) (H : Hp) (E : XK), A.guards = some [] → Room 0 (A.deeper (envOfC qual (defScope st) s.heap.objs.size fI cdv)) → PSs (cxOf CXn P w K mg base N qual (defScope st) fI cdv A outer s H E).nox (defBody st) t)
    (hsp : ∀ vs H Q E, spI C names vs H Q E → vs.length = N.length ∧ t { nx := fun _ H' => Q .non H', rt := Q } (L2.start N vs) H)
    (hb : ∀ us : List Value, us.length = N.length → bindArgs (fnOf "__init__" qual (defArgs st) (defBody st) (defScope st) .none .none doc pm an cdv ct) ⟨us, []⟩ = pure (N.zip us)) (hdb : (c == ("__debug__" : Str)) = false := by decide) :
    XCls P w K mg base 2 c names := by
  refine ⟨fun X p pos e es fs hP hw hK hmg' hbase hg hr hgl ha hfs hes he hpl => ?_⟩
  subst hP hw hK hmg' hbase
  have F1 := fn_sp lk hcd S hbody hsp
  intro pins s σ H Q I h
  refine pmk_fields (k := 1) T iC tI F1 hN hn hg hr (fun us hu s => .of_eq (hb us hu)) hgl hmg ha hdb he hpl pins s σ H Q I ?_
  obtain ⟨io, b, r, oss, S', ds, b', e1, q⟩ := h
  exact ⟨io, b, r, oss, S', ds, b', e1, fun vs H1 io1 k1 S1 rl => ⟨(q vs H1 io1 k1 S1 rl).1, fun d H' h1 h2 h3 => (q vs H1 io1 k1 S1 rl).2 C d H' hns h1 h2 h3⟩⟩
theorem xcls0_mk {bmB : List Value} (hns : nsIn K mainGlobals c = some (some (.ref C))) (hmg : mg c = some (.ref C)) (F : ExcBaseFacts B newId initId bmB) (q : excIn K C bmB newId = true) (kC : keepIn K (.ref C) = true) (h1 : subIn K (.ref C) (.type "BaseException") = some true) (h2 : typeIn K (.ref C) = some (.type "type")) (hdb : (c == ("__debug__" : Str)) = false := by decide) : XCls0 P w K mg base c := by
  refine ⟨fun X p pos hP hw hK hmg' hbase hgl => ?_⟩
  subst hP hw hK hmg' hbase
  intro pins s σ H Q I h
  exact pmk_bare F q hmg kC (L2.raises_own h1 h2) hgl hdb pins s σ H Q I (h C hns)
end
end HF
namespace HF
open PySem PySem.Spec PySem.W L2
open PyProof.Rows hiding St
def clsB : Stmt → List Stmt
  | .ClassDef (body := b) .. => b
  | _ => []
theorem OwnX.data0 {K : PySem.W.Frag} {nm q : Str} {C N : Addr} {bs bm : List Value} {hd : Bool} {sn : List Str} {sub : List Value} {ab : Bool} {col : Option Bool} {dd : Option Addr} {k0 k1 k2 k3 k5 : Option Value} {n : String} (e : K.lookup C = some (excClassObj nm q C N bs bm hd sn sub ab col dd k0 k1 k2 k3 k5 n)) : (clsIn K C).isSome = true := by
  unfold clsIn; rw [e] <;> rfl
theorem al_nil {α : Type} {P : α → Prop} : ∀ a ∈ ([] : List α), P a := fun _ h => nomatch h
theorem al_cons {α : Type} {P : α → Prop} {a : α} {l : List α} (h : P a) (h2 : ∀ x ∈ l, P x) : ∀ x ∈ a :: l, P x := fun x hx => by
  rcases List.mem_cons.mp hx with rfl | hx
  · exact h
  · exact h2 x hx
section
variable {X : Cx}
theorem hne_of {K : PySem.W.Frag} {mg : Str → Option Value} {tb : List (Str × Bool)} {u : Value} (T : TabX K mg tb u) (self : ∀ D, u = .ref D → subIn K u u = some true) : ∀ p ∈ tb, ∀ C, ClsX K mg p.1 C → (Value.ref C == u) = true → p.2 = true := fun p hp C hC e => by
  obtain ⟨C', hC', hs⟩ := T.2 p hp
  obtain rfl := hC'.one hC.ns
  have eu : u = .ref C := (beq_iff_eq.mp e).symm
  have := self C eu
  rw [eu] at this hs
  rw [hs] at this
  exact Option.some.inj this
theorem isO {x : Str} {D : Addr} {a : Expr} {f : Ev} {p p2 pos : Pos} (tb : List (Str × Bool)) (c : ClsX X.K X.mg x D) (nn : subIn X.K (.type "NoneType") (.ref D) = some false) (self : subIn X.K (.ref D) (.ref D) = some true) (T : ∀ p ∈ tb, ∃ C, ClsX X.K X.mg p.1 C ∧ subIn X.K (.ref C) (.ref D) = some p.2) (hm : X.mg "isinstance" = none) (ha : PE X a (tM X.K false f)) (hg : Gl X "isinstance" := by rfl) (gx : Gl X x := by rfl) (hd : (x == ("__debug__" : Str)) = false := by decide)
    (hs : starEach [a, .Name x p2] X.env = (false, eval a X.env) :: starEach [.Name x p2] X.env := by rfl) (hs2 : starEach [.Name x p2] X.env = (false, eval (.Name x p2) X.env) :: starEach [] X.env := by rfl) (hpl : (backTo pos (starEach [.Name x p2] X.env)).any (·.1) = false := by rfl) :
    PE X (.Call (.Name "isinstance" p) [a, .Name x p2] [] pos) (tV X.K (e1 (oIsX tb) f)) :=
  bIsX tb (.own c) ⟨nn, T⟩ (hne_of ⟨nn, T⟩ fun E e => by cases e; exact self) (fun z => by cases z) hm ha hg gx hd hs hs2 hpl
theorem isB {x : Str} {B : String} {a : Expr} {f : Ev} {p p2 pos : Pos} (tb : List (Str × Bool)) (z : X.mg x = none) (hv : bootBuiltins x = some (.type B)) (nn : subIn X.K (.type "NoneType") (.type B) = some false) (T : ∀ p ∈ tb, ∃ C, ClsX X.K X.mg p.1 C ∧ subIn X.K (.ref C) (.type B) = some p.2) (hm : X.mg "isinstance" = none) (ha : PE X a (tM X.K false f)) (hk : kitMeta B = true := by decide +kernel) (hne : Value.type B ≠ .type "NoneType" := by decide) (hn : x ≠ "__name__" := by decide) (hg : Gl X "isinstance" := by rfl) (gx : Gl X x := by rfl) (hd : (x == ("__debug__" : Str)) = false := by decide)
    (hs : starEach [a, .Name x p2] X.env = (false, eval a X.env) :: starEach [.Name x p2] X.env := by rfl) (hs2 : starEach [.Name x p2] X.env = (false, eval (.Name x p2) X.env) :: starEach [] X.env := by rfl) (hpl : (backTo pos (starEach [.Name x p2] X.env)).any (·.1) = false := by rfl) :
    PE X (.Call (.Name "isinstance" p) [a, .Name x p2] [] pos) (tV X.K (e1 (oIsX tb) f)) :=
  bIsX tb (.blt z hv hk hn) ⟨nn, T⟩ (hne_of ⟨nn, T⟩ fun E e => by cases e) hne hm ha hg gx hd hs hs2 hpl
def oIsX2 (ta tb : List (Str × Bool)) (d : D) : Option D := match d with
  | .exc c _ => match ta.lookup c, tb.lookup c with
    | some a, some b => some (.bl (a || b))
    | _, _ => none
  | .non => some (.bl false)
  | _ => none
def rIsX2 (K : PySem.W.Frag) (mg : Str → Option Value) : List V → Hp → VK → Prop := fun xs H Q => ∃ (a tp : Addr) (c : Str) (C : Addr) (fs : List (Str × V)) (cs : List V) (us : List Value) (b : Bool), xs = [.ref a, .ref tp] ∧ H tp = some (.tup cs) ∧ Paired ClsV cs us ∧ ClsX K mg c C ∧ ExAt K H c a fs ∧ kitAny K (.ref C) us = some b ∧ Q (.bl b) H
theorem call_isX2 : CallR X (.builtin "isinstance") (rIsX2 X.K X.mg) := by
  intro pins s σ H xs us Q I r h
  obtain ⟨a, tp, c, C, fs, cs, ws, b, rfl, hT, k, hc, he, e, q⟩ := h
  obtain ⟨u1, u2, rfl, r1, r2⟩ := vals2 r
  obtain rfl : u1 = Value.ref a := r1
  obtain rfl : u2 = Value.ref tp := r2
  obtain ⟨o, od, J, _⟩ := inst_at I hc he
  obtain ⟨_, its, rv, o3, h1, h2, n, h3⟩ := (show ObjOk X.prog X.w H s.heap tp (.tup cs) from I.hok tp _ hT)
  have e3 := ClsV.all k rv
  subst e3
  obtain ⟨oc, od3, dt, sl⟩ := o3
  simp only at h2 h3
  subst h2 h3
  exact kia_tup (kitx_exc hc.is hc.ga hc.gg hc.ex hc.cl hc.sn hc.tk hc.mo) I.kIn J h1 e (fun z => nomatch z) fun tk => ⟨.bl b, H, I.tok tk, rfl, q⟩
theorem kit2 {K : PySem.W.Frag} {t u v : Value} {a b : Bool} (h : kitOne K t u = some a) (h2 : kitOne K t v = some b) : kitAny K t [u, v] = some (a || b) := by
  unfold kitAny
  rw [h]
  cases a with
  | true => rfl
  | false =>
    show kitAny K t [v] = _
    unfold kitAny
    rw [h2]
    cases b <;> rfl
theorem isO2 {x y : Str} {D E : Addr} {a : Expr} {f : Ev} {p p2 p3 p4 pos : Pos} {kk : Nat} (ta tb : List (Str × Bool)) (c : ClsX X.K X.mg x D) (c' : ClsX X.K X.mg y E) (nn : subIn X.K (.type "NoneType") (.ref D) = some false) (nn' : subIn X.K (.type "NoneType") (.ref E) = some false) (self : subIn X.K (.ref D) (.ref D) = some true) (self' : subIn X.K (.ref E) (.ref E) = some true)
    (T : ∀ p ∈ ta, ∃ C, ClsX X.K X.mg p.1 C ∧ subIn X.K (.ref C) (.ref D) = some p.2) (T' : ∀ p ∈ tb, ∃ C, ClsX X.K X.mg p.1 C ∧ subIn X.K (.ref C) (.ref E) = some p.2) (hm : X.mg "isinstance" = none) (ha : PE X a (tM X.K false f)) (hg : Gl X "isinstance" := by rfl) (gx : Gl X x := by rfl) (gy : Gl X y := by rfl) (hd : (x == ("__debug__" : Str)) = false := by decide) (hd' : (y == ("__debug__" : Str)) = false := by decide)
    (hs : starEach [a, .Tuple [.Name x p2, .Name y p3] kk p4] X.env = (false, eval a X.env) :: starEach [.Tuple [.Name x p2, .Name y p3] kk p4] X.env := by rfl) (hs2 : starEach [.Tuple [.Name x p2, .Name y p3] kk p4] X.env = (false, eval (.Tuple [.Name x p2, .Name y p3] kk p4) X.env) :: starEach [] X.env := by rfl) (hpl : (backTo pos (starEach [.Tuple [.Name x p2, .Name y p3] kk p4] X.env)).any (·.1) = false := by rfl)
    (hs3 : starEach [.Name x p2, .Name y p3] X.env = (false, eval (.Name x p2) X.env) :: starEach [.Name y p3] X.env := by rfl) (hs4 : starEach [.Name y p3] X.env = (false, eval (.Name y p3) X.env) :: starEach [] X.env := by rfl) :
    PE X (.Call (.Name "isinstance" p) [a, .Tuple [.Name x p2, .Name y p3] kk p4] [] pos) (tV X.K (e1 (oIsX2 ta tb) f)) :=
  PE_wk (pe_callB (callR_or call_isX2 call_isiT) hg hm PyProof.Rows.Boot.«isinstance» (pa_cons ha (pa_cons (pe_tup (pa_cons ((AskX.own c).pe gx hd) (pa_cons ((AskX.own c').pe gy hd') pa_nil hs4) hs3)) pa_nil hs2) hs) (by decide) (by decide) hs hpl) fun σ H Q ⟨io, b, r, oss, S, d, b', e, q⟩ => by
    obtain ⟨dx, b1, e1, e2⟩ := bnd_some e
    obtain ⟨e3, e4⟩ := lift_some e2
    replace e3 : oIsX2 ta tb dx = some d := e3
    replace e4 : b' = b1 := e4
    subst e4
    refine ⟨io, b, r, oss, S, dx, _, e1, fun y1 H1 io1 os k1 S1 rx _ => ⟨(by show 2 ≤ sizeLine; decide), fun tp htp => ?_⟩⟩
    have k2 : Kp io1 H1 io1 (L2.upd H1 tp (.tup [.ref D, .ref E])) := Kp.of (ext_upd htp)
    have fin : ∀ bb : Bool, d = .bl bb → Q (.bl bb) (L2.upd H1 tp (.tup [.ref D, .ref E])) := fun bb hb => q _ _ io1 [] (k1.trans k2 S.bl) (S1.later (ext_upd htp)) (hb ▸ .bl bb) List.nodup_nil nil_all
    match dx, e3, rx with
    | .exc c0 kds, e3, rx =>
      have e3 : (match ta.lookup c0, tb.lookup c0 with | some a, some b => some (HF.D.bl (a || b)) | _, _ => none) = some d := e3
      cases h1 : ta.lookup c0 with
      | none => rw [h1] at e3; cases e3
      | some ba =>
        cases h2 : tb.lookup c0 with
        | none => rw [h1, h2] at e3; cases e3
        | some bb =>
          rw [h1, h2] at e3
          cases e3
          obtain ⟨a0, xs, rfl, he, _⟩ := rx.excI
          obtain ⟨C, hC, hsub⟩ := T _ (mem_lookup h1)
          obtain ⟨C', hC', hsub'⟩ := T' _ (mem_lookup h2)
          obtain rfl := hC.one hC'.ns
          exact .inl ⟨a0, tp, c0, C', xs, [.ref D, .ref E], [.ref D, .ref E], _, rfl, upd_same, .cons (.own _) (.cons (.own _) .nil), hC', k2.exAt S1.bl he,
            kit2 (kit_sub (X := X) rfl (.own c) hsub (hne_of ⟨nn, T⟩ (fun E e => by cases e; exact self) _ (mem_lookup h1) _ hC')) (kit_sub (X := X) rfl (.own c') hsub' (hne_of ⟨nn', T'⟩ (fun E e => by cases e; exact self') _ (mem_lookup h2) _ hC')), fin _ rfl⟩
    | .non, e3, rx =>
      cases e3
      cases rx
      exact .inr ⟨.non, tp, [.ref D, .ref E], .type "NoneType", [.ref D, .ref E], false, rfl, upd_same, .cons (.own _) (.cons (.own _) .nil), .base .non,
        kit2 (a := false) (b := false) (kit_sub (X := X) rfl (.own c) nn (fun z => by cases (beq_iff_eq.mp z))) (kit_sub (X := X) rfl (.own c') nn' (fun z => by cases (beq_iff_eq.mp z))), fin _ rfl⟩
variable {W : WX}
end
end HF
namespace HF
open PySem PySem.Spec L2
open PyProof.Rows hiding St
theorem RpE.drop {K : PySem.W.Frag} {H : Hp} {io : List Addr} : ∀ {r : Env} {σ : St} {oss : List (List Addr)} {j : Nat}, RpE K H io r σ oss → RpE K H io (r.set j .no) σ (oss.set j [])
  | _, _, _, _, .nil => .nil
  | _, _, _, 0, .no r => .no r
  | _, _, _, 0, .sh _ r => .no r
  | _, _, _, 0, .ow _ r => .no r
  | _, _, _, j + 1, .no r => .no (RpE.drop r)
  | _, _, _, j + 1, .sh x r => .sh x (RpE.drop r)
  | _, _, _, j + 1, .ow x r => .ow x (RpE.drop r)
end HF
namespace HF
open PySem PySem.Spec L2
open PyProof.Rows hiding St
theorem RpL.range {K : PySem.W.Frag} {H : Hp} {io : List Addr} : ∀ (l : List Nat), RpL K H io (l.map fun (i : Nat) => D.int i) (l.map fun (i : Nat) => V.int i) []
  | [] => .nil
  | i :: l => .cons (os := []) (ps := []) (.int i) (RpL.range l)
end HF
namespace HF
open PySem PySem.Spec L2
open PyProof.Rows hiding St
section
variable {X : Cx} {pins : List (Addr × Obj)} {σ : L2.St} {H : Hp} {s : Shared}
mutual
theorem NKV.is (I : Inv X pins σ H s) : ∀ {k : NestedKey} {v : V} {u : Value}, NKV X.K H k v → RelV v u → NestedIs s.heap k u
  | .none, _, _, h, r => by
    rw [NKV] at h
    subst h
    cases r
    exact .none
  | .num z, _, _, h, r => by
    rw [NKV] at h
    subst h
    obtain ⟨t, rfl⟩ := r
    exact .int _ _
  | .text x, _, _, h, r => by
    rw [NKV] at h
    subst h
    obtain ⟨t, rfl⟩ := r
    exact .text _ _
  | .tup ks, _, _, h, r => by
    rw [NKV] at h
    obtain ⟨a, vs, rfl, t, rs⟩ := h
    cases r
    obtain ⟨its, rl, ⟨o, e, c, n, d⟩, _⟩ := I.tuple t.sqT
    exact .tup e c d (by simpa using NKVs.is I rs rl)
theorem NKVs.is (I : Inv X pins σ H s) : ∀ {ks : List NestedKey} {vs : List V} {us : List Value}, NKVs X.K H ks vs → Vals vs us → NestedAll s.heap ks us
  | [], _, _, h, r => by
    rw [NKVs] at h
    subst h
    cases r
    exact .nil
  | _ :: _, _, _, h, r => by
    rw [NKVs] at h
    obtain ⟨v, rs, rfl, h1, h2⟩ := h
    cases r with
    | cons r1 r2 => exact .cons (NKV.is I h1 r1) (NKVs.is I h2 r2)
end
end
def lookN (k : NestedKey) (kvs : List (DK × V)) : Option V := (kvs.find? fun p => decide (p.1 = .n k)).map (·.2)
theorem lookN_pos {k : NestedKey} {p : DK × V} {r : List (DK × V)} (e : p.1 = .n k) : lookN k (p :: r) = some p.2 := by simp [lookN, List.find?_cons, e]
theorem lookN_neg {k : NestedKey} {p : DK × V} {r : List (DK × V)} (e : ¬ p.1 = .n k) : lookN k (p :: r) = lookN k r := by simp [lookN, List.find?_cons, e]
def putG {α : Type} (kvs : List (DK × α)) (q : DK) (x : α) : List (DK × α) := if (kvs.any fun p => decide (p.1 = q)) = true then kvs.map (fun p => if p.1 = q then (p.1, x) else p) else kvs ++ [(q, x)]
abbrev VE (K : PySem.W.Frag) (H : Hp) : List (DK × V) → List (NestedKey × Addr × Value) → Prop := Paired (fun (p : DK × V) (q : NestedKey × Addr × Value) => p.1 = .n q.1 ∧ q.1.depth ≤ 8 ∧ NKV K H q.1 (.ref q.2.1) ∧ RelV p.2 q.2.2)
theorem n_inj {a b : NestedKey} (h : DK.n a = .n b) : a = b := by cases h; rfl
theorem VE.val {K : PySem.W.Frag} {H : Hp} {kvs : List (DK × V)} {xs : List (NestedKey × Addr × Value)} (r : VE K H kvs xs) (k : NestedKey) : RelO (lookN k kvs) ((atKey xs k).map (·.2)) := by
  induction r with
  | nil => exact True.intro
  | @cons p q ps qs h t ih =>
    obtain ⟨h1, _, _, h2⟩ := h
    by_cases e : q.1 = k
    · have b : atKey (q :: qs) k = some q.2 := by simp [atKey, List.find?_cons, e]
      rw [lookN_pos (by rw [h1, e]), b]
      exact h2
    · have b : atKey (q :: qs) k = atKey qs k := by simp [atKey, List.find?_cons, e]
      rw [lookN_neg (fun z => e (n_inj (h1.symm.trans z))), b]
      exact ih
theorem VE.len {K : PySem.W.Frag} {H : Hp} {kvs : List (DK × V)} {xs : List (NestedKey × Addr × Value)} (r : VE K H kvs xs) : kvs.length = xs.length := Paired.length r
theorem VE.any {K : PySem.W.Frag} {H : Hp} {kvs : List (DK × V)} {xs : List (NestedKey × Addr × Value)} (r : VE K H kvs xs) (k : NestedKey) : (kvs.any fun p => decide (p.1 = .n k)) = (atKey xs k).isSome := by
  induction r with
  | nil => rfl
  | @cons p q ps qs h t ih =>
    rw [List.any_cons]
    by_cases e : q.1 = k
    · have b : atKey (q :: qs) k = some q.2 := by simp [atKey, List.find?_cons, e]
      rw [b, decide_eq_true (by rw [h.1, e])]; rfl
    · have b : atKey (q :: qs) k = atKey qs k := by simp [atKey, List.find?_cons, e]
      rw [b, decide_eq_false (fun z => e (n_inj (h.1.symm.trans z))), Bool.false_or, ih]
theorem VE.repl {K : PySem.W.Frag} {H : Hp} {kvs : List (DK × V)} {xs : List (NestedKey × Addr × Value)} (r : VE K H kvs xs) (k : NestedKey) {y : V} {u : Value} (ry : RelV y u) : VE K H (kvs.map fun p => if p.1 = .n k then (p.1, y) else p) (xs.map (PySem.putAt k u)) := by
  induction r with
  | nil => exact .nil
  | @cons p q ps qs h t ih =>
    rw [List.map_cons, List.map_cons]
    refine .cons ?_ ih
    unfold PySem.putAt
    by_cases e : q.1 = k
    · rw [if_pos (by rw [h.1, e]), if_pos e]
      exact ⟨h.1, h.2.1, h.2.2.1, ry⟩
    · rw [if_neg (fun z => e (n_inj (h.1.symm.trans z))), if_neg e]
      exact h
theorem VE.put {K : PySem.W.Frag} {H : Hp} {kvs : List (DK × V)} {xs : List (NestedKey × Addr × Value)} (r : VE K H kvs xs) {k : NestedKey} {b : Addr} {y : V} {u : Value} (hd : k.depth ≤ 8) (hb : NKV K H k (.ref b)) (ry : RelV y u) : VE K H (putG kvs (.n k) y) (storedH xs k b u) := by
  unfold putG storedH
  rw [r.any k]
  by_cases q : (atKey xs k).isSome = true
  · rw [if_pos q, if_pos q]
    exact r.repl k ry
  · rw [if_neg q, if_neg q]
    exact Paired.snoc r ⟨rfl, hd, hb, ry⟩
end HF
namespace HF
open PySem PySem.Spec L2
open PyProof.Rows hiding St
mutual
def toNK : D → Option NestedKey
  | .non => some .none
  | .int z => some (.num z)
  | .str x => some (.text x)
  | .tup ds => (toNKs ds).map .tup
  | .bl _ => none
  | .lst _ _ => none
  | .dct _ _ => none
  | .dtt _ _ => none
  | .dtv _ _ _ => none
  | .box _ => none
  | .scr _ => none
  | .exc _ _ => none
def toNKs : List D → Option (List NestedKey)
  | [] => some []
  | d :: ds => (toNK d).bind fun k => (toNKs ds).map (k :: ·)
end
section
variable {K : PySem.W.Frag} {H : Hp} {io : List Addr}
mutual
theorem Rp.nkOk : ∀ {d : D} {v : V} {os : List Addr} {k : NestedKey}, Rp K H io d v os → toNK d = some k → HF.nkOk k = true
  | _, _, _, _, .non, e => by rw [toNK] at e; cases e; rw [HF.nkOk]
  | _, _, _, _, .int z, e => by rw [toNK] at e; cases e; rw [HF.nkOk]
  | _, _, _, _, .str h, e => by rw [toNK] at e; cases e; rw [HF.nkOk]; exact h
  | _, _, _, _, .tup h r, e => by
    rw [toNK] at e
    obtain ⟨ks, e1, rfl⟩ := Option.map_eq_some_iff.mp e
    rw [HF.nkOk]
    exact RpL.nkOk r e1
  | _, _, _, _, .bl _, e => by rw [toNK] at e; cases e
  | _, _, _, _, .lstS _ _, e => by rw [toNK] at e; cases e
  | _, _, _, _, .lstO _ _ _, e => by rw [toNK] at e; cases e
  | _, _, _, _, .dctS _ _ _, e => by rw [toNK] at e; cases e
  | _, _, _, _, .dctO _ _ _, e => by rw [toNK] at e; cases e
  | _, _, _, _, .dttS _ _ _, e => by rw [toNK] at e; cases e
  | _, _, _, _, .dttO _ _ _, e => by rw [toNK] at e; cases e
  | _, _, _, _, .dtvS _ _ _, e => by rw [toNK] at e; cases e
  | _, _, _, _, .dtvO _ _ _, e => by rw [toNK] at e; cases e
  | _, _, _, _, .box _, e => by rw [toNK] at e; cases e
  | _, _, _, _, .scr _, e => by rw [toNK] at e; cases e
  | _, _, _, _, .exc _ _, e => by rw [toNK] at e; cases e
theorem RpL.nkOk : ∀ {ds : List D} {vs : List V} {os : List Addr} {ks : List NestedKey}, RpL K H io ds vs os → toNKs ds = some ks → nksOk ks = true
  | _, _, _, _, .nil, e => by rw [toNKs] at e; cases e; rw [nksOk]
  | _, _, _, _, .cons h r, e => by
    rw [toNKs] at e
    obtain ⟨k, e1, e2⟩ := Option.bind_eq_some_iff.mp e
    obtain ⟨ks, e3, rfl⟩ := Option.map_eq_some_iff.mp e2
    rw [nksOk, Rp.nkOk h e1, RpL.nkOk r e3]; rfl
end
theorem RpK.lookN {k : NestedKey} : ∀ {kds : List (DK × D)} {kvs : List (DK × V)} {os : List Addr}, RpK K H io kds kvs os →
    (HF.look (.n k) kds = none ∧ HF.lookN k kvs = none) ∨ ∃ d v ps, HF.look (.n k) kds = some d ∧ HF.lookN k kvs = some v ∧ Rp K H io d v ps ∧ ∀ a ∈ ps, a ∈ os
  | _, _, _, .nil => .inl ⟨rfl, rfl⟩
  | _, _, _, .cons (k := j) (d := d) (v := w) (os := o1) hk h r => by
    by_cases e : j = .n k
    · refine .inr ⟨d, w, o1, ?_, lookN_pos e, h, fun a ha => List.mem_append_left _ ha⟩
      show (if j = .n k then some d else _) = _
      rw [if_pos e]
    · rw [lookN_neg e]
      have l1 : ∀ ds, HF.look (.n k) ((j, d) :: ds) = HF.look (.n k) ds := fun ds => by
        show (if j = .n k then some d else _) = _
        rw [if_neg e]
      rw [l1]
      rcases RpK.lookN (k := k) r with z | ⟨d', v', ps, z1, z2, z3, z4⟩
      · exact .inl z
      · exact .inr ⟨d', v', ps, z1, z2, z3, fun a ha => List.mem_append_right _ (z4 a ha)⟩
theorem RpK.mapG {q : DK} {d : D} {v : V} (x : Rp K H io d v []) : ∀ {ds : List (DK × D)} {vs : List (DK × V)}, RpK K H io ds vs [] → RpK K H io (ds.map fun p => if p.1 = q then (p.1, d) else p) (vs.map fun p => if p.1 = q then (p.1, v) else p) [] ∧ (ds.any fun p => decide (p.1 = q)) = (vs.any fun p => decide (p.1 = q))
  | ds, [], h => by
    cases h
    exact ⟨.nil, rfl⟩
  | ds, (j, w) :: vs, h => by
    generalize hq : ([] : List Addr) = o at h
    cases h with
    | cons hj h r =>
      rename_i d1 ds o1 o2
      obtain ⟨z1, z2⟩ := List.append_eq_nil_iff.mp hq.symm
      subst z1 z2
      obtain ⟨i1, i2⟩ := RpK.mapG (q := q) x r
      refine ⟨?_, by simp [i2]⟩
      by_cases e : j = q
      · simp only [List.map_cons, if_pos e]
        exact .cons (os := []) (ps := []) hj x i1
      · simp only [List.map_cons, if_neg e]
        exact .cons (os := []) (ps := []) hj h i1
theorem RpK.putG {q : DK} {d : D} {v : V} (ok : okK q = true) (x : Rp K H io d v []) {ds : List (DK × D)} {vs : List (DK × V)} (h : RpK K H io ds vs []) : RpK K H io (putD ds q d) (HF.putG vs q v) [] := by
  obtain ⟨i1, i2⟩ := h.mapG (q := q) x
  unfold putD HF.putG
  rw [i2]
  split
  · exact i1
  · exact h.app ok x
end
end HF
namespace HF
open PySem PySem.Spec L2
open PyProof.Rows hiding St
mutual
theorem NKV.rp {K : PySem.W.Frag} {H : Hp} {io : List Addr} : ∀ {k : NestedKey} {v : V}, NKV K H k v → nkOk k = true → Rp K H io (keyN k) v []
  | .none, _, h, _ => by
    rw [NKV] at h
    subst h
    rw [keyN]
    exact .non
  | .num z, _, h, _ => by
    rw [NKV] at h
    subst h
    rw [keyN]
    exact .int z
  | .text x, _, h, o => by
    rw [NKV] at h
    subst h
    rw [keyN]
    rw [nkOk] at o
    exact .str o
  | .tup ks, _, h, o => by
    rw [NKV] at h
    obtain ⟨a, vs, rfl, t, r⟩ := h
    rw [keyN]
    rw [nkOk] at o
    exact .tup t (NKVs.rp r o)
theorem NKVs.rp {K : PySem.W.Frag} {H : Hp} {io : List Addr} : ∀ {ks : List NestedKey} {vs : List V}, NKVs K H ks vs → nksOk ks = true → RpL K H io (keyNs ks) vs []
  | [], _, h, _ => by
    rw [NKVs] at h
    subst h
    rw [keyNs]
    exact .nil
  | _ :: _, _, h, o => by
    rw [NKVs] at h
    obtain ⟨v, r, rfl, h1, h2⟩ := h
    rw [keyNs]
    rw [nksOk, Bool.and_eq_true] at o
    exact .cons (os := []) (ps := []) (NKV.rp h1 o.1) (NKVs.rp h2 o.2)
end
def KeysV (K : PySem.W.Frag) (H : Hp) (kvs : List (DK × V)) (bs : List Addr) : Prop := Paired (fun (p : DK × V) b => ∃ k, p.1 = .n k ∧ NKV K H k (.ref b)) kvs bs
theorem KeysV.of {K : PySem.W.Frag} {H : Hp} {kvs : List (DK × V)} {xs : List (NestedKey × Addr × Value)} (r : VE K H kvs xs) : KeysV K H kvs (xs.map fun x => x.2.1) := by
  unfold KeysV
  induction r with
  | nil => exact Paired.nil
  | cons h t ih => exact Paired.cons ⟨_, h.1, h.2.2.1⟩ ih
theorem KeysV.rp {K : PySem.W.Frag} {H : Hp} {io : List Addr} : ∀ {kds : List (DK × D)} {kvs : List (DK × V)} {bs : List Addr} {os : List Addr}, KeysV K H kvs bs → RpK K H io kds kvs os → RpL K H io (kds.map fun p => keyD p.1) (bs.map V.ref) []
  | _, _, _, _, .nil, h => by cases h; exact .nil
  | _, _, _, _, .cons h t, r => by
    cases r with
    | cons ok x rr =>
      obtain ⟨k, e, n⟩ := h
      dsimp only at e
      subst e
      exact .cons (os := []) (ps := []) (NKV.rp n ok) (KeysV.rp t rr)
theorem KeysV.keep {K : PySem.W.Frag} {H H' : Hp} {kvs : List (DK × V)} {bs : List Addr} (h : KeysV K H kvs bs) (k : ∀ (b : Addr) (o : Obj) (vs : List V), H b = some (.frz o (.tup vs)) → H' b = some (.frz o (.tup vs))) : KeysV K H' kvs bs :=
  Paired.mapP h fun _ _ ⟨q, e, n⟩ => ⟨q, e, NKV.of k n⟩
end HF
namespace HF
open PySem PySem.Spec L2
open PyProof.Rows hiding St
theorem VE.vals {K : PySem.W.Frag} {H : Hp} : ∀ {kvs : List (DK × V)} {xs : List (NestedKey × Addr × Value)}, VE K H kvs xs → Vals (kvs.map (·.2)) (xs.map fun x => x.2.2) := by
  intro kvs xs r
  induction r with
  | nil => exact .nil
  | cons h t ih => exact .cons h.2.2.2 ih
theorem RpK.vals {K : PySem.W.Frag} {H : Hp} {io : List Addr} : ∀ {kds : List (DK × D)} {kvs : List (DK × V)} {os : List Addr}, RpK K H io kds kvs os → RpL K H io (kds.map (·.2)) (kvs.map (·.2)) os
  | _, _, _, .nil => .nil
  | _, _, _, .cons _ h r => .cons h (RpK.vals r)
end HF
namespace HF.XK
open PySem PySem.Spec PySem.W PySem.HandSPX
section
variable {M : Model} {A : Around} {E : Value → Shared → Prop} {h : Heap} {g : Array GenState} {d : Drawn} {t : Nat} {os : OsState}
variable {nm q : Str} {C N : Addr} {bs bm bmB : List Value} {hdct : Bool} {sn : List Str} {sub : List Value} {ab : Bool} {col : Option Bool} {dd : Option Addr} {k0 k1 k2 k3 k5 : Option Value} {B newId initId : String} {kws : List (Str × Value)}
theorem ckNewK (F : ExcBaseFacts B newId initId bmB) (hT : ∀ X : String, bm.contains (.type X) = bmB.contains (.type X)) {rest : List Value} {Q : Unit → Shared → Prop}
    (hC : h.get? C = some (excClassObj nm q C N bs bm hdct sn sub ab col dd k0 k1 k2 k3 k5 newId)) (hq : Q () ⟨h, g, d, t, os⟩) : wpAny M A (checkBuiltinCall newId ⟨.ref C :: rest, kws⟩) Q E ⟨h, g, d, t, os⟩ := by
  have hcont : (Value.ref C :: bm).contains (.type B) = true := by rw [List.contains_cons, hT, F.hasB, Bool.or_true]
  have hstar := F.noStar
  simp only [checkBuiltinCall, F.newKind, F.newSplit, F.newRow]
  repeat (first | refine wpAny_loadPart_at hC ?_ | (refine wpAny_isSubtype_exc hC ?_; rw [hcont]) | refine wpAny_staticBase_exc hC ?_ | refine wpAny_madeBy_exc hC ?_ | simp only [bne_self_eq_false, Bool.false_eq_true, if_false] | wp_step)
  exact hq
end
section
variable {prog : Program} {w : World} {A : Around} {E : Value → Shared → Prop} {R : Result → Shared → Prop} {h : Heap} {g : Array GenState} {d : Drawn} {t : Nat} {os : OsState}
variable {nm q : Str} {C N : Addr} {bs bm bmB : List Value} {hdct : Bool} {sn : List Str} {sub : List Value} {ab : Bool} {col : Option Bool} {dd : Option Addr} {k0 k1 k2 k3 k5 : Option Value} {B newId initId : String} {kws : List (Str × Value)}
theorem newK (F : ExcBaseFacts B newId initId bmB) (hT : ∀ X : String, bm.contains (.type X) = bmB.contains (.type X)) {rest : List Value}
    (hC : h.get? C = some (excClassObj nm q C N bs bm hdct sn sub ab col dd k0 k1 k2 k3 k5 newId))
    (hq : R (.ok (.ret (.ref (h.objs.size + 1)))) ⟨(h.push { cls := .type "tuple", data := .seq rest.toArray }).push
      { cls := .ref C, data := .fields #[.ref h.objs.size, .none, .none, .none, .bool false, .none] }, g, d, t, os⟩) (hrest : rest.length ≤ sizeLine) :
    codeAny (model prog w) A (.builtin newId ⟨.ref C :: rest, kws⟩) R ⟨h, g, d, t, os⟩ := by
  have hends := F.ends
  have hcB : (Value.ref C :: bm).contains (.type B) = true := by rw [List.contains_cons, hT, F.hasB, Bool.or_true]
  have hcA : (Value.ref C :: bm).contains (.type "AttributeError") = false := by rw [List.contains_cons, hT, F.noAttr]; rfl
  have hcN : (Value.ref C :: bm).contains (.type "NameError") = false := by rw [List.contains_cons, hT, F.noName]; rfl
  refine codeAny_builtinAt F.entry ?_
  unfold Builtin.«BaseException.__new__»
  refine wpAt_bind ?_
  show wpAt _ _ _ (stack >>= _) _ _ _
  refine wpAt_bind (wpAt_stack fun p below => wpAt_of_wpAny ?_)
  wp_walk
  refine wpAt_of_wpAny ?_
  rw [F.owner]
  repeat (first | with_reducible refine wpAny_madeHere_exc F.canon hC ?_ | with_reducible refine wpAny_loadPart_at hC ?_ | (with_reducible refine wpAny_isSubtype_exc hC ?_; first | rw [hcB] | rw [hcA] | rw [hcN]) | wp_step)
  show R _ _
  rw [Heap.size_push]
  exact hq
theorem tcallK (F : ExcBaseFacts B newId initId bmB) (hT : ∀ X : String, bm.contains (.type X) = bmB.contains (.type X)) {rest : List Value} {fI : Addr} {Q : Fin → Shared → Prop}
    (hC : h.get? C = some (excClassObj nm q C N bs bm hdct sn sub ab col dd k0 k1 k2 k3 k5 newId))
    (hi : W.Looks (model prog w) h (typeLookup (.ref C) "__init__") (some (.ref fI))) (hb : ∀ self, W.Looks (model prog w) h (bindSpecial (.ref fI) self) (.ref fI, [self])) (hrest : rest.length ≤ sizeLine)
    (hq : codeAny (model prog w) A (.call (.ref fI) ⟨.ref (h.objs.size + 1) :: rest, kws⟩)
      (fun r s' => match r with | .ok (.ret v) => v = .none ∧ Q (.done (.ret (.ref (h.objs.size + 1)))) s' | .ok _ => False | .error e => E e s')
      ⟨(h.push (W.kdv_tup rest)).push (excO C h.objs.size), g, d, t, os⟩) :
    wpAny (model prog w) A (Builtin.«type.__call__» ⟨.ref C :: rest, kws⟩) Q E ⟨h, g, d, t, os⟩ := by
  repeat (first | with_reducible refine wpAny_loadPart_at hC ?_ | with_reducible refine wpAny_madeBy_exc hC ?_ | wp_step)
  refine codeAny_call_builtin_code (Code.quiet_builtin _ F.quiet) (ckNewK F hT hC ?_)
  refine newK F hT hC ?_ hrest
  show wpAny _ _ _ _ _ _
  have k : ∀ b o, h.get? b = some o → ((h.push (W.kdv_tup rest)).push (excO C h.objs.size)).get? b = some o := fun b o e => Heap.get?_push_of_some _ (Heap.get?_push_of_some _ e)
  have hC₁ := k _ _ hC
  have hget : ((h.push (W.kdv_tup rest)).push (excO C h.objs.size)).get? (h.objs.size + 1) = some (excO C h.objs.size) := by heap_get
  have hcC : (Value.ref C :: bm).contains (.ref C) = true := by simp
  have i1 := hi.keeps k
  have b1 := (hb (.ref (h.objs.size + 1))).keeps k
  unfold isInstance
  repeat (first | with_reducible refine wpAny_loadPart_at hget ?_ | (with_reducible refine wpAny_isSubtype_exc hC₁ ?_; rw [hcC]) | wp_step)
  show wpAny _ _ (typeLookup (.ref C) _) _ _ _
  refine i1.at ?_
  refine wpAny_holding (wpAny_bind (b1.at ?_))
  refine wpAny_bind (wpAny_call (codeAny_mono hq fun r s' z => ?_))
  rcases r with e | (v | _ | _ | _) <;> first | exact z | exact z.elim | skip
  obtain ⟨rfl, z⟩ := z
  first
    | exact wpAny_pure (wpAny_pure z)
    | (wp_walk; exact z)
theorem callOwnK (F : ExcBaseFacts B newId initId bmB) (hT : ∀ X : String, bm.contains (.type X) = bmB.contains (.type X)) {rest : List Value} {fI : Addr}
    (hC : h.get? C = some (excClassObj nm q C N bs bm hdct sn sub ab col dd k0 k1 k2 k3 k5 newId))
    (hi : W.Looks (model prog w) h (typeLookup (.ref C) "__init__") (some (.ref fI))) (hb : ∀ self, W.Looks (model prog w) h (bindSpecial (.ref fI) self) (.ref fI, [self])) (hrest : rest.length ≤ sizeLine)
    (hq : codeAny (model prog w) (A.under (.builtin "type.__call__" ⟨.ref C :: rest, kws⟩)) (.call (.ref fI) ⟨.ref (h.objs.size + 1) :: rest, kws⟩) (W.InitBack (h.objs.size + 1) R)
      ⟨(h.push (W.kdv_tup rest)).push (excO C h.objs.size), g, d, t, os⟩) :
    codeAny (model prog w) A (.call (.ref C) ⟨rest, kws⟩) R ⟨h, g, d, t, os⟩ := by
  have f1 := tc_lookup
  have f2 := tc_bind (.ref C)
  have hTy : (⟨h, g, d, t, os⟩ : Shared).TypeIs (.ref C) "type" := ⟨_, hC, rfl⟩
  refine codeAny_of_tree ?_
  show wpAny _ _ (callAny (.ref C) _) _ _ _
  repeat (any_goals (first | assumption | with_reducible refine wpAny_loadPart_at hC ?_ | wp_step))
  refine ⟨rfl, ?_⟩
  refine codeAny_call_builtin_at (Code.quiet_builtin _ (by decide +kernel)) entry_typeCall (wpAny_check_type_call_sub hC (tcallK F hT hC hi hb hrest ?_))
  refine codeAny_mono hq fun r s' z => ?_
  rcases r with e | (v | _ | _ | _) <;> exact z
end
end HF.XK
namespace HF
open PySem PySem.Spec PySem.W L2 PySem.HandSPX
open PyProof.Rows hiding St
section
variable {X : Cx}
theorem pmk_fieldsK {x : Str} {C fI : Addr} {k : Nat} {fd : FuncData} {ps names kn : List Str} {idx : List Nat} {B newId initId : String} {bm : List Value} {p pos : Pos} {kws : List Keyword} {ta : TA} (T : OwnX X.K C B newId initId bm) (iC : findIn X.K (.ref C) "__init__" = some (some (.ref fI))) (tI : typeIn X.K (.ref fI) = some (.type "function"))
    (F1 : FnG X.prog X.w X.K X.mg X.base k fI fd ps (spI C names)) (hg : X.A.guards = some []) (hr : Room (k + 1) X.A) (hb : ∀ (u : Value) (ws : List Value), ws.length = names.length → ∀ s, BindsTo s fd ⟨[u], kn.zip ws⟩ (ps.zip (u :: pick idx ws))) (hN : (pick idx (List.range names.length)).length = names.length) (hgl : Gl X x) (hm : X.mg x = some (.ref C)) (hkw : PK X kws ta)
    (hall : (backToKw pos (keywordEach kws X.env)).all (·.1.isSome) = true) (hks : (backToKw pos (keywordEach kws X.env)).filterMap (·.1) = kn) (hdb : (x == ("__debug__" : Str)) = false)
    (hpl : ((backTo pos (starEach [] X.env)).any (·.1) || (backToKw pos (keywordEach kws X.env)).any (·.1.isNone)) = false) :
    L2.PMk X (.Call (.Name x p) [] kws pos) (fun σ H Q => ta σ H fun vs H1 => vs.length = names.length ∧
      ∀ (d : Addr) (H' : Hp), H1 d = none → H' d = some (.xd (names.zip (pick idx vs)).reverse) → (∀ b, b ≠ d → H' b = H1 b) → Q (.ref C) (some d) H') := by
  intro pins s σ H Q I h
  obtain ⟨nm, q, N, bs, sn, sub, ab, col, dd, k0, k1, k2, k3, k5, hC⟩ := T.cls
  refine wpAny_Call_Name_kw (ld_glob I hgl hm ?_ hdb)
  refine PySem.W.callWith_KW0 (h₀ := X.base) I.ok.mod.kin T.kC hall ?_ hpl
  refine thn (hkw.run pos pins s σ H _ I h) fun us s1 ⟨vs, H1, I1, r1, hz, q1⟩ => ⟨I1.kIn, ?_⟩
  rw [hks]
  show wpAny _ _ (call (.ref C) [] (kn.zip us)) _ _ _
  obtain ⟨hp, g, dr, tk, os⟩ := s1
  have hn1 : H1 (hp.objs.size + 1) = none := I1.hok.fresh (Nat.le_succ _)
  have kk : ∀ b o, hp.get? b = some o → ((hp.push (kdv_tup [])).push (excO C hp.objs.size)).get? b = some o := fun b o e => Heap.get?_push_of_some _ (Heap.get?_push_of_some _ e)
  have hget : ((hp.push (kdv_tup [])).push (excO C hp.objs.size)).get? (hp.objs.size + 1) = some (excO C hp.objs.size) := by heap_get
  have I2 := I1.laid (t' := tk) (a := hp.objs.size + 1) (o := exo (hp.objs.size + 1) C none) (h' := (hp.push (kdv_tup [])).push (excO C hp.objs.size)) kk (Nat.le_succ _) (exo_ok hget)
  have hus : us.length = names.length := by rw [← Paired.length r1]; exact hz
  have pl : (pick idx vs).length = names.length := by
    rw [← hN]
    exact pick_len (by rw [hz, List.length_range]) idx
  have r2 : Vals (V.ref (hp.objs.size + 1) :: pick idx vs) (Value.ref (hp.objs.size + 1) :: pick idx us) := .cons rfl (Vals.pick r1 idx)
  have sp : spI C names (V.ref (hp.objs.size + 1) :: pick idx vs) (L2.upd H1 (hp.objs.size + 1) (exo (hp.objs.size + 1) C none)) (fun v H2 => v = .non ∧ ∃ d : Addr, H1 d = none ∧ d ≠ hp.objs.size + 1 ∧ H2 (hp.objs.size + 1) = some (exo (hp.objs.size + 1) C (some d)) ∧ H2 d = some (exd d (names.zip (pick idx vs)).reverse) ∧ ∀ b, b ≠ hp.objs.size + 1 → b ≠ d → H2 b = H1 b) (fun _ _ _ => False) :=
    ⟨_, pick idx vs, rfl, pl, upd_same, fun dx hd hne H' e1 e2 e3 => ⟨rfl, dx, by rwa [upd_ne hne] at hd, hne, e1, e2, fun b h1 h2 => (e3 b h1 h2).trans (upd_ne h1)⟩⟩
  refine wpAny_call (XK.callOwnK (rest := []) T.eb.fa (fun _ => rfl) (I1.kIn _ _ hC) (looks_findIn I1.kIn iC) (fun self => bind_fn I1.kIn self tI) (by rw [List.length_nil, sizeLine_eq]; omega)
    (codeAny_mono (F1.run _ X.stack _ _ ⟨[Value.ref (hp.objs.size + 1)], kn.zip us⟩ _ _ _ _ ?_ (hr.make C [] (kn.zip us)) (I2.env0.make C [] (kn.zip us)) (hb _ _ hus _) r2 sp) fun r s' hq' => ?_))
  · exact hg
  · cases r with
    | error er => exact False.elim hq'
    | ok fl =>
      cases fl with
      | ret u =>
        obtain ⟨v, H2, os2, bare2, un2, hok2, rv, ev, d, hd1, dne, ea, ed, eo⟩ := hq'
        subst ev
        obtain ⟨h2, g2, d2, t2, os'⟩ := s'
        refine ⟨rv, mk_end (raises_own T.exC T.tyC) I1 (Nat.le_succ _) kk un2 hok2 os2 bare2 ea ed hd1 (q1 d _ hd1 upd_same fun b hb => ?_)⟩
        rw [upd_ne hb]
        by_cases h1 : b = hp.objs.size + 1
        · rw [h1, del_same, hn1]
        · rw [del_ne h1, eo b h1 hb]
      | next => exact False.elim hq'
      | brk => exact False.elim hq'
      | cont => exact False.elim hq'
theorem pe_mk {e : Expr} {t : L2.St → Hp → XK → Prop} (he : L2.PMk X e t) : PE X e (fun σ H Q => t σ H fun cls d H' => ∀ (a : Addr) (oe : Obj), H' a = none → Zc cls d oe → (∃ vs, oe.data = .fields vs) → Q (.ref a) (L2.upd H' a (hx oe))) :=
  ⟨fun pins s σ H Q I h => thn (he pins s σ H _ I h) fun u s1 hu => by
    obtain ⟨a, oe, vs, sI, H', cls, d, rfl, J, k, hne, ha, hz, hd, h1, na, os, ag, r, q⟩ := hu
    have nf : a ∉ frs X.stack := fun hm => by
      obtain ⟨_, o', e', _⟩ := J.stack.mem hm
      rw [hne] at e'; cases e'
    exact ⟨.ref a, _, inv_land (B := sI.heap) J (fun b o e _ => e) (fun b o e => k b o e) (Heap.UpToSlots.of_keeps k) os ag na ha hne nf, rfl, q a oe na hz ⟨vs, hd⟩⟩⟩
end
def eExc (c : Str) (names : List Str) (fs : List Ev) : Ev := fun r => bnd (evs fs r) fun ds => ret (.exc c ((names.zip ds).map fun p => (DK.s p.1, p.2)).reverse)
def eExcK (c : Str) (names : List Str) (idx : List Nat) (ks : List Ev) : Ev := fun r => bnd (evs ks r) fun ds => ret (.exc c ((names.zip (pick idx ds)).map fun p => (DK.s p.1, p.2)).reverse)
def eExc0 (c : Str) : Ev := fun _ => ret (.exc c [])
structure XClsK (P : Program) (w : World) (K : PySem.W.Frag) (mg : Str → Option Value) (base : Heap) (k : Nat) (c : Str) (names : List Str) : Prop where
  run : ∀ (X : Cx) (p pos : Pos) (kws : List Keyword) (fs : List Ev) (kn : List Str) (idx : List Nat), X.prog = P → X.w = w → X.K = K → X.mg = mg → X.base = base → X.A.guards = some [] → Room k X.A → Gl X c → PK X kws (tAS X.K fs) → fs.length = names.length →
    (backToKw pos (keywordEach kws X.env)).all (·.1.isSome) = true → (backToKw pos (keywordEach kws X.env)).filterMap (·.1) = kn → ((backTo pos (starEach [] X.env)).any (·.1) || (backToKw pos (keywordEach kws X.env)).any (·.1.isNone)) = false →
    (pick idx (List.range names.length)).length = names.length → ((kn = names ∧ idx = List.range names.length) ∨ (kn = names.reverse ∧ idx = (List.range names.length).reverse)) →
    L2.PMk X (.Call (.Name c p) [] kws pos) (fun σ H Q => tAS K fs σ H fun vs H1 => vs.length = names.length ∧ ∀ (C d : Addr) (H' : Hp), PySem.W.nsIn K mainGlobals c = some (some (.ref C)) →
      H1 d = none → H' d = some (.xd (names.zip (pick idx vs)).reverse) → (∀ b, b ≠ d → H' b = H1 b) → Q (.ref C) (some d) H')
section
variable {P : Program} {w : World} {K : PySem.W.Frag} {mg : Str → Option Value} {base : Heap} {c : Str} {C fI : Addr} {B newId initId : String} {bm : List Value} {oc doc pm cdv ct : Value} {an od : Option Addr} {osl : Array (Option Value)} {st : Stmt} {qual : Str}
theorem xclsK_mk {names N : List Str} {t : TS} (hns : nsIn K mainGlobals c = some (some (.ref C))) (hmg : mg c = some (.ref C)) (T : OwnX K C B newId initId bm) (iC : findIn K (.ref C) "__init__" = some (some (.ref fI))) (tI : typeIn K (.ref fI) = some (.type "function"))
    (lk : K.lookup fI = some ⟨oc, od, .func (fnOf "__init__" qual (defArgs st) (defBody st) (defScope st) .none .none doc pm an cdv ct), osl⟩) (hcd : codeIn K cdv qual = true) (S : FnScope N N (defScope st))
    (hbody : ∀ (A : Around) (outer : List PySem.Env) (s : Shared) (H : Hp) (E : XK), A.guards = some [] → Room 0 (A.deeper (envOfC qual (defScope st) s.heap.objs.size fI cdv)) → PSs (cxOf CXn P w K mg base N qual (defScope st) fI cdv A outer s H E).nox (defBody st) t)
    (hsp : ∀ vs H Q E, spI C names vs H Q E → vs.length = N.length ∧ t { nx := fun _ H' => Q .non H', rt := Q } (L2.start N vs) H)
    (hb : ∀ (u : Value) (ws : List Value) (kn : List Str) (idx : List Nat), ws.length = names.length → ((kn = names ∧ idx = List.range names.length) ∨ (kn = names.reverse ∧ idx = (List.range names.length).reverse)) → bindArgs (fnOf "__init__" qual (defArgs st) (defBody st) (defScope st) .none .none doc pm an cdv ct) ⟨[u], kn.zip ws⟩ = pure (N.zip (u :: pick idx ws))) (hdb : (c == ("__debug__" : Str)) = false := by decide) :
    XClsK P w K mg base 2 c names := by
  refine ⟨fun X p pos kws fs kn idx hP hw hK hmg' hbase hg hr hgl ha hfs hall hks hpl hN hor => ?_⟩
  subst hP hw hK hmg' hbase
  have F1 := fn_sp lk hcd S hbody hsp
  intro pins s σ H Q I h
  refine pmk_fieldsK (k := 1) (kn := kn) (idx := idx) T iC tI F1 hg hr (fun u ws hu s => .of_eq (hb u ws kn idx hu hor)) hN hgl hmg ha hall hks hdb hpl pins s σ H Q I ?_
  obtain ⟨io, b, r, oss, S', ds, b', e1, q⟩ := h
  exact ⟨io, b, r, oss, S', ds, b', e1, fun vs H1 io1 k1 S1 rl => ⟨(q vs H1 io1 k1 S1 rl).1, fun d H' h1 h2 h3 => (q vs H1 io1 k1 S1 rl).2 C d H' hns h1 h2 h3⟩⟩
end
section
variable {X : Cx}
theorem exc_at {K : PySem.W.Frag} {H' : Hp} {io : List Addr} {c : Str} {C a : Addr} {oe : Obj} {d : Option Addr} {xs : List (Str × V)} {kds : List (DK × D)} (bl : BL io H') (hns : nsIn K mainGlobals c = some (some (.ref C))) (na : H' a = none) (hz : Zc (.ref C) d oe) (hfl : ∃ vs, oe.data = .fields vs) (hxf : ExF H' d xs) (rk : RpK K H' io kds (xs.map fun p => (DK.s p.1, p.2)) []) :
    Rp K (L2.upd H' a (hx oe)) io (.exc c kds) (.ref a) [] :=
  have kk : Kp io H' io (L2.upd H' a (hx oe)) := Kp.of (ext_upd na)
  .exc ⟨C, oe, _, hns, upd_same, hz.1, hfl, by rw [hz.2]; exact kk.exf bl hxf⟩ (rk.keep kk bl)
theorem xExc {k : Nat} {c : Str} {names : List Str} {p cpos : Pos} {e : Expr} {es : List Expr} {fs : List Ev} (C : XCls X.prog X.w X.K X.mg X.base k c names) (hg : X.A.guards = some []) (hr : Room k X.A) (ha : PA X (e :: es) (tAS X.K fs))
    (hok : ∀ n ∈ names, PyData.strOk n = true) (hgl : Gl X c := by rfl) (hl : fs.length = names.length := by rfl) (hl2 : (e :: es).length = names.length := by rfl) (he : starEach (e :: es) X.env = (false, eval e X.env) :: starEach es X.env := by rfl) (hpl : (backTo cpos (starEach es X.env)).any (·.1) = false := by rfl) :
    PE X (.Call (.Name c p) (e :: es) [] cpos) (tV X.K (eExc c names fs)) :=
  PE_wk (pe_mk (C.run X p cpos e es fs rfl rfl rfl rfl rfl hg hr hgl ha hl hl2 he hpl)) fun σ H Q ⟨io, b, r, oss, S, d0, b', e1, q⟩ => by
    obtain ⟨ds, b1, e2, e3⟩ := bnd_some e1
    cases e3
    refine ⟨io, b, r, oss, S, ds, b', e2, fun vs H1 io1 k1 S1 rl => ⟨?_, fun C d H' hC hn hd ho a oe na hz hfl => ?_⟩⟩
    · rw [← rl.length]; exact (evs_len e2).trans hl
    · have kd : Kp io1 H1 io1 H' := kp_dict hn ho
      have S2 := S1.dict hn ho
      have ext := ext_upd (o := hx oe) na
      refine q _ _ io1 [] ((k1.trans kd S.bl).trans (Kp.of ext) S.bl) (S2.later ext) (exc_at (xs := (names.zip vs).reverse) S2.bl hC na hz hfl hd ?_) List.nodup_nil nil_all
      rw [List.map_reverse]
      exact ((rl.keep kd S1.bl).fields hok).rev
theorem xExcK {k : Nat} {c : Str} {names kn : List Str} (idx : List Nat) {p cpos : Pos} {kws : List Keyword} {fs : List Ev} (C : XClsK X.prog X.w X.K X.mg X.base k c names) (hg : X.A.guards = some []) (hr : Room k X.A) (ha : PK X kws (tAS X.K fs))
    (hok : ∀ n ∈ names, PyData.strOk n = true) (hor : (kn = names ∧ idx = List.range names.length) ∨ (kn = names.reverse ∧ idx = (List.range names.length).reverse)) (hN : (pick idx (List.range names.length)).length = names.length := by rfl) (hgl : Gl X c := by rfl) (hl : fs.length = names.length := by rfl)
    (hall : (backToKw cpos (keywordEach kws X.env)).all (·.1.isSome) = true := by rfl) (hks : (backToKw cpos (keywordEach kws X.env)).filterMap (·.1) = kn := by rfl) (hpl : ((backTo cpos (starEach [] X.env)).any (·.1) || (backToKw cpos (keywordEach kws X.env)).any (·.1.isNone)) = false := by rfl) :
    PE X (.Call (.Name c p) [] kws cpos) (tV X.K (eExcK c names idx fs)) :=
  PE_wk (pe_mk (C.run X p cpos kws fs kn idx rfl rfl rfl rfl rfl hg hr hgl ha hl hall hks hpl hN hor)) fun σ H Q ⟨io, b, r, oss, S, d0, b', e1, q⟩ => by
    obtain ⟨ds, b1, e2, e3⟩ := bnd_some e1
    cases e3
    refine ⟨io, b, r, oss, S, ds, b', e2, fun vs H1 io1 k1 S1 rl => ⟨?_, fun C d H' hC hn hd ho a oe na hz hfl => ?_⟩⟩
    · rw [← rl.length]; exact (evs_len e2).trans hl
    · have kd : Kp io1 H1 io1 H' := kp_dict hn ho
      have S2 := S1.dict hn ho
      have ext := ext_upd (o := hx oe) na
      refine q _ _ io1 [] ((k1.trans kd S.bl).trans (Kp.of ext) S.bl) (S2.later ext) (exc_at (xs := (names.zip (pick idx vs)).reverse) S2.bl hC na hz hfl hd ?_) List.nodup_nil nil_all
      rw [List.map_reverse]
      exact (((rl.pick idx).keep kd S1.bl).fields hok).rev
theorem xExc0 {c : Str} {p cpos : Pos} (C : XCls0 X.prog X.w X.K X.mg X.base c) (hgl : Gl X c := by rfl) : PE X (.Call (.Name c p) [] [] cpos) (tV X.K (eExc0 c)) :=
  PE_wk (pe_mk (C.run X p cpos rfl rfl rfl rfl rfl hgl)) fun σ H Q ⟨io, b, r, oss, S, d0, b', e1, q⟩ => fun C hC a oe na hz hfl => by
    cases e1
    have ext := ext_upd (o := hx oe) na
    exact q _ _ io [] (Kp.of ext) (S.later ext) (exc_at (xs := []) S.bl hC na hz hfl rfl .nil) List.nodup_nil nil_all
def oIsX3 (ta tb tc : List (Str × Bool)) (d : D) : Option D := match d with
  | .exc c _ => match ta.lookup c, tb.lookup c, tc.lookup c with
    | some a, some b, some e => some (.bl (a || (b || e)))
    | _, _, _ => none
  | _ => none
theorem kit3 {K : PySem.W.Frag} {t u v z : Value} {a b e : Bool} (h : kitOne K t u = some a) (h2 : kitOne K t v = some b) (h3 : kitOne K t z = some e) : kitAny K t [u, v, z] = some (a || (b || e)) := by
  unfold kitAny
  rw [h]
  cases a with
  | true => rfl
  | false =>
    have q := kit2 h2 h3
    rw [Bool.false_or]
    exact q
structure QX (X : Cx) (x : Str) (v : V) (u : Value) (tb : List (Str × Bool)) : Prop where
  ask : AskX X x v u
  tab : TabX X.K X.mg tb u
  hne : ∀ p ∈ tb, ∀ C, ClsX X.K X.mg p.1 C → (Value.ref C == u) = true → p.2 = true
theorem qO {x : Str} {D : Addr} {tb : List (Str × Bool)} (c : ClsX X.K X.mg x D) (nn : subIn X.K (.type "NoneType") (.ref D) = some false) (self : subIn X.K (.ref D) (.ref D) = some true) (T : ∀ p ∈ tb, ∃ C, ClsX X.K X.mg p.1 C ∧ subIn X.K (.ref C) (.ref D) = some p.2) : QX X x (.ref D) (.ref D) tb :=
  ⟨.own c, ⟨nn, T⟩, hne_of ⟨nn, T⟩ fun E e => by cases e; exact self⟩
theorem qB {x : Str} {B : String} {tb : List (Str × Bool)} (z : X.mg x = none) (hv : bootBuiltins x = some (.type B)) (nn : subIn X.K (.type "NoneType") (.type B) = some false) (T : ∀ p ∈ tb, ∃ C, ClsX X.K X.mg p.1 C ∧ subIn X.K (.ref C) (.type B) = some p.2) (hk : kitMeta B = true := by decide +kernel) (hn : x ≠ "__name__" := by decide) : QX X x (.ty B) (.type B) tb :=
  ⟨.blt z hv hk hn, ⟨nn, T⟩, hne_of ⟨nn, T⟩ fun E e => by cases e⟩
theorem isX3 {x y z : Str} {v1 v2 v3 : V} {u1 u2 u3 : Value} {a : Expr} {f : Ev} {p p2 p3 p5 p4 pos : Pos} {kk : Nat} (ta tb tc : List (Str × Bool)) (A : QX X x v1 u1 ta) (B : QX X y v2 u2 tb) (C : QX X z v3 u3 tc)
    (hm : X.mg "isinstance" = none) (ha : PE X a (tM X.K false f)) (hg : Gl X "isinstance" := by rfl) (gx : Gl X x := by rfl) (gy : Gl X y := by rfl) (gz : Gl X z := by rfl) (hd : (x == ("__debug__" : Str)) = false := by decide) (hd' : (y == ("__debug__" : Str)) = false := by decide) (hd2 : (z == ("__debug__" : Str)) = false := by decide)
    (hs : starEach [a, .Tuple [.Name x p2, .Name y p3, .Name z p5] kk p4] X.env = (false, eval a X.env) :: starEach [.Tuple [.Name x p2, .Name y p3, .Name z p5] kk p4] X.env := by rfl) (hs2 : starEach [.Tuple [.Name x p2, .Name y p3, .Name z p5] kk p4] X.env = (false, eval (.Tuple [.Name x p2, .Name y p3, .Name z p5] kk p4) X.env) :: starEach [] X.env := by rfl) (hpl : (backTo pos (starEach [.Tuple [.Name x p2, .Name y p3, .Name z p5] kk p4] X.env)).any (·.1) = false := by rfl)
    (hs3 : starEach [.Name x p2, .Name y p3, .Name z p5] X.env = (false, eval (.Name x p2) X.env) :: starEach [.Name y p3, .Name z p5] X.env := by rfl) (hs4 : starEach [.Name y p3, .Name z p5] X.env = (false, eval (.Name y p3) X.env) :: starEach [.Name z p5] X.env := by rfl) (hs5 : starEach [.Name z p5] X.env = (false, eval (.Name z p5) X.env) :: starEach [] X.env := by rfl) :
    PE X (.Call (.Name "isinstance" p) [a, .Tuple [.Name x p2, .Name y p3, .Name z p5] kk p4] [] pos) (tV X.K (e1 (oIsX3 ta tb tc) f)) :=
  PE_wk (pe_callB call_isX2 hg hm PyProof.Rows.Boot.«isinstance» (pa_cons ha (pa_cons (pe_tup (pa_cons (A.ask.pe gx hd) (pa_cons (B.ask.pe gy hd') (pa_cons (C.ask.pe gz hd2) pa_nil hs5) hs4) hs3)) pa_nil hs2) hs) (by decide) (by decide) hs hpl) fun σ H Q ⟨io, b, r, oss, S, d, b', e, q⟩ => by
    obtain ⟨dx, b1, e1, e2⟩ := bnd_some e
    obtain ⟨e3, e4⟩ := lift_some e2
    replace e3 : oIsX3 ta tb tc dx = some d := e3
    replace e4 : b' = b1 := e4
    subst e4
    refine ⟨io, b, r, oss, S, dx, _, e1, fun y1 H1 io1 os k1 S1 rx _ => ⟨(by show 3 ≤ sizeLine; decide), fun tp htp => ?_⟩⟩
    have k2 : Kp io1 H1 io1 (L2.upd H1 tp (.tup [v1, v2, v3])) := Kp.of (ext_upd htp)
    have fin : ∀ bb : Bool, d = .bl bb → Q (.bl bb) (L2.upd H1 tp (.tup [v1, v2, v3])) := fun bb hb => q _ _ io1 [] (k1.trans k2 S.bl) (S1.later (ext_upd htp)) (hb ▸ .bl bb) List.nodup_nil nil_all
    match dx, e3, rx with
    | .exc c0 kds, e3, rx =>
      have e3 : (match ta.lookup c0, tb.lookup c0, tc.lookup c0 with | some a, some b, some e => some (HF.D.bl (a || (b || e))) | _, _, _ => none) = some d := e3
      cases h1 : ta.lookup c0 with
      | none => rw [h1] at e3; cases e3
      | some ba =>
        cases h2 : tb.lookup c0 with
        | none => rw [h1, h2] at e3; cases e3
        | some bb =>
          cases h3 : tc.lookup c0 with
          | none => rw [h1, h2, h3] at e3; cases e3
          | some bc =>
            rw [h1, h2, h3] at e3
            cases e3
            obtain ⟨a0, xs, rfl, he, _⟩ := rx.excI
            obtain ⟨C1, hC1, s1⟩ := A.tab.2 _ (mem_lookup h1)
            obtain ⟨C2, hC2, s2⟩ := B.tab.2 _ (mem_lookup h2)
            obtain ⟨C3, hC3, s3⟩ := C.tab.2 _ (mem_lookup h3)
            obtain rfl := hC1.one hC2.ns
            obtain rfl := hC2.one hC3.ns
            exact ⟨a0, tp, c0, C3, xs, [v1, v2, v3], [u1, u2, u3], _, rfl, upd_same, .cons A.ask.clsV (.cons B.ask.clsV (.cons C.ask.clsV .nil)), hC3, k2.exAt S1.bl he,
              kit3 (kit_sub (X := X) rfl A.ask s1 (A.hne _ (mem_lookup h1) _ hC3)) (kit_sub (X := X) rfl B.ask s2 (B.hne _ (mem_lookup h2) _ hC3)) (kit_sub (X := X) rfl C.ask s3 (C.hne _ (mem_lookup h3) _ hC3)), fin _ rfl⟩
end
end HF
namespace K06
open PySem PySem.Spec L2 HF
open PyProof.Rows hiding St
def top (i : Nat) : Stmt := PySem.Challenge.pw_heapfriends_k06_errors_and_limits.main.body.getD i (.Pass ⟨0, 0, 0, 0⟩)
abbrev s_box : Stmt := top 27
abbrev N_box : List Str := ["_law_script", "_law_k", "_law_cell"]
theorem sc_box : FnScope N_box ["_law_script", "_law_k"] (defScope s_box) := ⟨rfl, rfl, rfl, by decide +kernel, rfl, by decide +kernel, by decide +kernel⟩
def b_box : Sv :=
    (sSeq (sSet 2 (eC (.int 0)))
    (sSeq (sIf (e2 oLt (eB 1) (eN (n1 oLen) [(eB 0)]))
    (sSet 2 (eSh (eIx (eI 0) (eB 1))))
    sNx)
    (sRet (eBox [(e2 oMul (eInn (eN (n1 oAbs) [(eB 2)])) (eN (n1 oInt) [(e2 oGe (eN (n1 oAbs) [(eB 2)]) (e2 oPow (eC (.int 10)) (eC (.int 18))))])), (e2 oAdd (eInn (e2 oAdd (eInn (e2 oMod (eB 2) (eC (.int 2147483629)))) (eInn (e2 oMul (eC (.int 6151)) (eB 1))))) (eC (.int 29))), (eC (.int 0))]))))
def g_box : Fn := runFn 1 b_box
abbrev s_take : Stmt := top 28
abbrev N_take : List Str := ["_law_box_here", "_law_bound", "_law_found", "_law_once"]
theorem sc_take : FnScope N_take ["_law_box_here", "_law_bound"] (defScope s_take) := ⟨rfl, rfl, rfl, by decide +kernel, rfl, by decide +kernel, by decide +kernel⟩
def b_take : Sv :=
    (sSeq (sIf (e2 oGt (eIx (eI 0) (eC (.int 0))) (eC (.int 0)))
    (sSeq (sSet 2 (eSh (e2 oMod (eIx (eI 0) (eC (.int 0))) (eB 1))))
    (sSeq (sBSet 0 (eC (.int 0)) (e2 oFdiv (eIx (eI 0) (eC (.int 0))) (eB 1)))
    (sRetV 2)))
    sNx)
    (sSeq (sBSet 0 (eC (.int 2)) (e2 oAdd (eInn (eIx (eI 0) (eC (.int 2)))) (eC (.int 1))))
    (sSeq (sSet 3 (eSh (e2 oMod (e2 oPow (e2 oAdd (eInn (eIx (eI 0) (eC (.int 1)))) (eInn (e2 oMul (eC (.int 39373)) (eIx (eI 0) (eC (.int 2)))))) (eC (.int 5))) (eC (.int 2147483647)))))
    (sRet (e2 oMod (e2 oFdiv (e2 oMod (e2 oAdd (eInn (e2 oMul (eI 3) (e2 oAdd (eInn (e2 oMod (eB 3) (eC (.int 40009)))) (eC (.int 7))))) (eInn (e2 oMul (eInn (eIx (eI 0) (eC (.int 2)))) (eC (.int 7919))))) (eC (.int 2147483629))) (eC (.int 64))) (eB 1))))))
def g_take : Fn := runFn 2 b_take
abbrev s_pick : Stmt := top 29
abbrev N_pick : List Str := ["_law_box_here", "_law_some"]
theorem sc_pick : FnScope N_pick ["_law_box_here", "_law_some"] (defScope s_pick) := ⟨rfl, rfl, rfl, by decide +kernel, rfl, by decide +kernel, by decide +kernel⟩
def b_pick : Sv :=
    (sRet (eIx (eI 1) (eCall g_take [(eV 0), (eSh (eN (n1 oLen) [(eB 1)]))])))
def g_pick : Fn := runFn 0 b_pick
abbrev s_same : Stmt := top 30
abbrev N_same : List Str := ["_law_found", "_law_due", "_law_mine", "_law_its"]
theorem sc_same : FnScope N_same ["_law_found", "_law_due"] (defScope s_same) := ⟨rfl, rfl, rfl, by decide +kernel, rfl, by decide +kernel, by decide +kernel⟩
def b_same (fn : Fn) : Sv :=
    (sSeq (sIf (e1 (oIsi [.tlist, .ttuple]) (eB 1))
    (sSeq (sIf (eOr (e2 oNe (e1 (oIsi [.tlist]) (eB 0)) (e1 (oIsi [.tlist]) (eB 1))) (e2 oNe (e1 (oIsi [.ttuple]) (eB 0)) (e1 (oIsi [.ttuple]) (eB 1))))
    (sRet (eC (.bl false)))
    sNx)
    (sRet (eAnd (e2 oEq (eN (n1 oLen) [(eB 0)]) (eN (n1 oLen) [(eB 1)])) (eN (n1 oAll) [(eLc [2, 3] (.two 2 3) (itN (l2 itZip) [(eV 0), (eV 1)]) none (eCall fn [(eV 2), (eV 3)]))]))))
    sNx)
    (sSeq (sIf (eOr (e2 oIs (eB 1) (eC .non)) (e1 (oIsi [.tbool, .tstr]) (eB 1)))
    (sRet (eAnd (e2 oEq (eB 0) (eB 1)) (eAnd (e2 oEq (e1 (oIsi [.tbool]) (eB 0)) (e1 (oIsi [.tbool]) (eB 1))) (e2 oEq (e2 oIs (eB 0) (eC .non)) (e2 oIs (eB 1) (eC .non))))))
    sNx)
    (sRet (eAnd (e1 (oIsi [.tint]) (eB 0)) (eAnd (e1 oNot (e1 (oIsi [.tbool]) (eB 0))) (e2 oEq (eB 0) (eB 1)))))))
def g_same : Nat → Fn
  | 0 => fun _ => fail
  | m + 1 => runFn 2 (b_same (g_same m))
abbrev s_all : Stmt := top 31
abbrev N_all : List Str := ["_law_mine", "_law_its", "_law_found"]
theorem sc_all : FnScope N_all ["_law_mine", "_law_its"] (defScope s_all) := ⟨rfl, rfl, rfl, by decide +kernel, rfl, by decide +kernel, by decide +kernel⟩
def b_all : Sv :=
    (sSeq (sSet 2 (eSh (eLst [(eTup [(eExc "BadText" ["text"] [(eV 0)]), (eExcK "BadText" ["text"] [0] [(eV 0)]), (eC (.str ("value" : Str)))]), (eTup [(eExc "BadRow" ["number"] [(eV 0)]), (eExcK "BadRow" ["number"] [0] [(eV 0)]), (eC (.str ("value" : Str)))])])))
    (sSeq (sSet 2 (eSh (e2 oAdd (eI 2) (eInn (eLst [(eTup [(eExc "Own" ["book"] [(eV 0)]), (eExcK "Own" ["book"] [0] [(eV 0)]), (eC (.str ("value" : Str)))]), (eTup [(eExc "NoName" ["book"] [(eV 0)]), (eExcK "NoName" ["book"] [0] [(eV 0)]), (eC (.str ("value" : Str)))])])))))
    (sSeq (sSet 2 (eSh (e2 oAdd (eI 2) (eInn (eLst [(eTup [(eExc "NoBook" ["book"] [(eV 0)]), (eExcK "NoBook" ["book"] [0] [(eV 0)]), (eC (.str ("lookup" : Str)))]), (eTup [(eExc "NoTie" ["pair"] [(eV 0)]), (eExcK "NoTie" ["pair"] [0] [(eV 0)]), (eC (.str ("lookup" : Str)))])])))))
    (sSeq (sSet 2 (eSh (e2 oAdd (eI 2) (eInn (eLst [(eTup [(eExc "NoPlace" ["at"] [(eV 0)]), (eExcK "NoPlace" ["at"] [0] [(eV 0)]), (eC (.str ("lookup" : Str)))]), (eTup [(eExc "NoDeed" ["many"] [(eV 0)]), (eExcK "NoDeed" ["many"] [0] [(eV 0)]), (eC (.str ("lookup" : Str)))])])))))
    (sSeq (sSet 2 (eSh (e2 oAdd (eI 2) (eInn (eLst [(eTup [(eExc "MayNot" ["book"] [(eV 0)]), (eExcK "MayNot" ["book"] [0] [(eV 0)]), (eC (.str ("runtime" : Str)))]), (eTup [(eExc "Barred" ["ring"] [(eV 0)]), (eExcK "Barred" ["ring"] [0] [(eV 0)]), (eC (.str ("runtime" : Str)))])])))))
    (sSeq (sSet 2 (eSh (e2 oAdd (eI 2) (eInn (eLst [(eTup [(eExc "Lost" ["place"] [(eV 0)]), (eExcK "Lost" ["place"] [0] [(eV 0)]), (eC (.str ("runtime" : Str)))]), (eTup [(eExc "Stopped" ["number"] [(eV 0)]), (eExcK "Stopped" ["number"] [0] [(eV 0)]), (eC (.str ("runtime" : Str)))])])))))
    (sSeq (sSet 2 (eSh (e2 oAdd (eI 2) (eInn (eLst [(eTup [(eExc "Shared" ["book"] [(eV 0)]), (eExcK "Shared" ["book"] [0] [(eV 0)]), (eC (.str ("runtime" : Str)))]), (eTup [(eExc "Tied" ["pair"] [(eV 0)]), (eExcK "Tied" ["pair"] [0] [(eV 0)]), (eC (.str ("runtime" : Str)))])])))))
    (sSeq (sSet 2 (eSh (e2 oAdd (eI 2) (eInn (eLst [(eTup [(eExc "Taken" ["book"] [(eV 0)]), (eExcK "Taken" ["book"] [0] [(eV 0)]), (eC (.str ("runtime" : Str)))]), (eTup [(eExc "TooMany" ["many"] [(eV 0)]), (eExcK "TooMany" ["many"] [0] [(eV 0)]), (eC (.str ("overflow" : Str)))])])))))
    (sSeq (sSet 2 (eSh (e2 oAdd (eI 2) (eInn (eLst [(eTup [(eExc "Full" ["many"] [(eV 0)]), (eExcK "Full" ["many"] [0] [(eV 0)]), (eC (.str ("overflow" : Str)))]), (eTup [(eExc0 "Unlike"), (eExc0 "Unlike"), (eC (.str ("value" : Str)))])])))))
    (sSeq (sSet 2 (eSh (e2 oAdd (eI 2) (eInn (eLst [(eTup [(eExc0 "Last"), (eExc0 "Last"), (eC (.str ("runtime" : Str)))]), (eTup [(eExc "Gap" ["place", "ring"] [(eV 0), (eV 1)]), (eExcK "Gap" ["place", "ring"] [1, 0] [(eV 1), (eV 0)]), (eC (.str ("runtime" : Str)))])])))))
    (sRet (e2 oAdd (eI 2) (eInn (eLst [(eTup [(eExc "Apart" ["one", "other"] [(eV 0), (eV 1)]), (eExcK "Apart" ["one", "other"] [1, 0] [(eV 1), (eV 0)]), (eC (.str ("runtime" : Str)))])]))))))))))))))
def g_all : Fn := runFn 1 b_all
abbrev s_fields : Stmt := top 32
abbrev N_fields : List Str := ["_law_mine", "_law_its", "_law_error"]
theorem sc_fields : FnScope N_fields ["_law_mine", "_law_its", "_law_error"] (defScope s_fields) := ⟨rfl, rfl, rfl, by decide +kernel, rfl, by decide +kernel, by decide +kernel⟩
def b_fields : Sv :=
    (sSeq (sIf (e1 (oIsX2 [("Unlike", true), ("BadText", false), ("BadRow", false), ("Own", false), ("NoName", false), ("NoBook", false), ("NoTie", false), ("NoPlace", false), ("NoDeed", false), ("MayNot", false), ("Barred", false), ("Lost", false), ("Gap", false), ("Apart", false), ("Stopped", false), ("Shared", false), ("Tied", false), ("Taken", false), ("Last", false), ("TooMany", false), ("Full", false)] [("Unlike", false), ("BadText", false), ("BadRow", false), ("Own", false), ("NoName", false), ("NoBook", false), ("NoTie", false), ("NoPlace", false), ("NoDeed", false), ("MayNot", false), ("Barred", false), ("Lost", false), ("Gap", false), ("Apart", false), ("Stopped", false), ("Shared", false), ("Tied", false), ("Taken", false), ("Last", true), ("TooMany", false), ("Full", false)]) (eB 2))
    (sRet (eC (.bl true)))
    sNx)
    (sSeq (sIf (e1 (oIsX [("Unlike", false), ("BadText", false), ("BadRow", false), ("Own", false), ("NoName", false), ("NoBook", false), ("NoTie", false), ("NoPlace", false), ("NoDeed", false), ("MayNot", false), ("Barred", false), ("Lost", false), ("Gap", true), ("Apart", false), ("Stopped", false), ("Shared", false), ("Tied", false), ("Taken", false), ("Last", false), ("TooMany", false), ("Full", false)]) (eB 2))
    (sRet (eCall (g_same 6) [(eSh (eLst [(e1 (oFldX "place" ["Lost", "Gap"]) (eB 2)), (e1 (oFldX "ring" ["Barred", "Gap"]) (eB 2))])), (eSh (eLst [(eV 0), (eV 1)]))]))
    sNx)
    (sSeq (sIf (e1 (oIsX [("Unlike", false), ("BadText", false), ("BadRow", false), ("Own", false), ("NoName", false), ("NoBook", false), ("NoTie", false), ("NoPlace", false), ("NoDeed", false), ("MayNot", false), ("Barred", false), ("Lost", false), ("Gap", false), ("Apart", true), ("Stopped", false), ("Shared", false), ("Tied", false), ("Taken", false), ("Last", false), ("TooMany", false), ("Full", false)]) (eB 2))
    (sRet (eCall (g_same 6) [(eSh (eLst [(e1 (oFldX "one" ["Apart"]) (eB 2)), (e1 (oFldX "other" ["Apart"]) (eB 2))])), (eSh (eLst [(eV 0), (eV 1)]))]))
    sNx)
    (sSeq (sIf (e1 (oIsX [("Unlike", false), ("BadText", true), ("BadRow", false), ("Own", false), ("NoName", false), ("NoBook", false), ("NoTie", false), ("NoPlace", false), ("NoDeed", false), ("MayNot", false), ("Barred", false), ("Lost", false), ("Gap", false), ("Apart", false), ("Stopped", false), ("Shared", false), ("Tied", false), ("Taken", false), ("Last", false), ("TooMany", false), ("Full", false)]) (eB 2))
    (sRet (eCall (g_same 6) [(eSh (e1 (oFldX "text" ["BadText"]) (eB 2))), (eV 0)]))
    sNx)
    (sSeq (sIf (e1 (oIsX2 [("Unlike", false), ("BadText", false), ("BadRow", true), ("Own", false), ("NoName", false), ("NoBook", false), ("NoTie", false), ("NoPlace", false), ("NoDeed", false), ("MayNot", false), ("Barred", false), ("Lost", false), ("Gap", false), ("Apart", false), ("Stopped", false), ("Shared", false), ("Tied", false), ("Taken", false), ("Last", false), ("TooMany", false), ("Full", false)] [("Unlike", false), ("BadText", false), ("BadRow", false), ("Own", false), ("NoName", false), ("NoBook", false), ("NoTie", false), ("NoPlace", false), ("NoDeed", false), ("MayNot", false), ("Barred", false), ("Lost", false), ("Gap", false), ("Apart", false), ("Stopped", true), ("Shared", false), ("Tied", false), ("Taken", false), ("Last", false), ("TooMany", false), ("Full", false)]) (eB 2))
    (sRet (eCall (g_same 6) [(eSh (e1 (oFldX "number" ["BadRow", "Stopped"]) (eB 2))), (eV 0)]))
    sNx)
    (sSeq (sIf (e1 (oIsX2 [("Unlike", false), ("BadText", false), ("BadRow", false), ("Own", false), ("NoName", false), ("NoBook", false), ("NoTie", true), ("NoPlace", false), ("NoDeed", false), ("MayNot", false), ("Barred", false), ("Lost", false), ("Gap", false), ("Apart", false), ("Stopped", false), ("Shared", false), ("Tied", false), ("Taken", false), ("Last", false), ("TooMany", false), ("Full", false)] [("Unlike", false), ("BadText", false), ("BadRow", false), ("Own", false), ("NoName", false), ("NoBook", false), ("NoTie", false), ("NoPlace", false), ("NoDeed", false), ("MayNot", false), ("Barred", false), ("Lost", false), ("Gap", false), ("Apart", false), ("Stopped", false), ("Shared", false), ("Tied", true), ("Taken", false), ("Last", false), ("TooMany", false), ("Full", false)]) (eB 2))
    (sRet (eCall (g_same 6) [(eSh (e1 (oFldX "pair" ["NoTie", "Tied"]) (eB 2))), (eV 0)]))
    sNx)
    (sSeq (sIf (e1 (oIsX [("Unlike", false), ("BadText", false), ("BadRow", false), ("Own", false), ("NoName", false), ("NoBook", false), ("NoTie", false), ("NoPlace", true), ("NoDeed", false), ("MayNot", false), ("Barred", false), ("Lost", false), ("Gap", false), ("Apart", false), ("Stopped", false), ("Shared", false), ("Tied", false), ("Taken", false), ("Last", false), ("TooMany", false), ("Full", false)]) (eB 2))
    (sRet (eCall (g_same 6) [(eSh (e1 (oFldX "at" ["NoPlace"]) (eB 2))), (eV 0)]))
    sNx)
    (sSeq (sIf (e1 (oIsX3 [("Unlike", false), ("BadText", false), ("BadRow", false), ("Own", false), ("NoName", false), ("NoBook", false), ("NoTie", false), ("NoPlace", false), ("NoDeed", true), ("MayNot", false), ("Barred", false), ("Lost", false), ("Gap", false), ("Apart", false), ("Stopped", false), ("Shared", false), ("Tied", false), ("Taken", false), ("Last", false), ("TooMany", false), ("Full", false)] [("Unlike", false), ("BadText", false), ("BadRow", false), ("Own", false), ("NoName", false), ("NoBook", false), ("NoTie", false), ("NoPlace", false), ("NoDeed", false), ("MayNot", false), ("Barred", false), ("Lost", false), ("Gap", false), ("Apart", false), ("Stopped", false), ("Shared", false), ("Tied", false), ("Taken", false), ("Last", false), ("TooMany", true), ("Full", false)] [("Unlike", false), ("BadText", false), ("BadRow", false), ("Own", false), ("NoName", false), ("NoBook", false), ("NoTie", false), ("NoPlace", false), ("NoDeed", false), ("MayNot", false), ("Barred", false), ("Lost", false), ("Gap", false), ("Apart", false), ("Stopped", false), ("Shared", false), ("Tied", false), ("Taken", false), ("Last", false), ("TooMany", false), ("Full", true)]) (eB 2))
    (sRet (eCall (g_same 6) [(eSh (e1 (oFldX "many" ["NoDeed", "TooMany", "Full"]) (eB 2))), (eV 0)]))
    sNx)
    (sSeq (sIf (e1 (oIsX [("Unlike", false), ("BadText", false), ("BadRow", false), ("Own", false), ("NoName", false), ("NoBook", false), ("NoTie", false), ("NoPlace", false), ("NoDeed", false), ("MayNot", false), ("Barred", true), ("Lost", false), ("Gap", false), ("Apart", false), ("Stopped", false), ("Shared", false), ("Tied", false), ("Taken", false), ("Last", false), ("TooMany", false), ("Full", false)]) (eB 2))
    (sRet (eCall (g_same 6) [(eSh (e1 (oFldX "ring" ["Barred", "Gap"]) (eB 2))), (eV 0)]))
    sNx)
    (sSeq (sIf (e1 (oIsX [("Unlike", false), ("BadText", false), ("BadRow", false), ("Own", false), ("NoName", false), ("NoBook", false), ("NoTie", false), ("NoPlace", false), ("NoDeed", false), ("MayNot", false), ("Barred", false), ("Lost", true), ("Gap", false), ("Apart", false), ("Stopped", false), ("Shared", false), ("Tied", false), ("Taken", false), ("Last", false), ("TooMany", false), ("Full", false)]) (eB 2))
    (sRet (eCall (g_same 6) [(eSh (e1 (oFldX "place" ["Lost", "Gap"]) (eB 2))), (eV 0)]))
    sNx)
    (sRet (eCall (g_same 6) [(eSh (e1 (oFldX "book" ["Own", "NoName", "NoBook", "MayNot", "Shared", "Taken"]) (eB 2))), (eV 0)]))))))))))))
def g_fields : Fn := runFn 0 b_fields
abbrev s_kinds : Stmt := top 33
abbrev N_kinds : List Str := ["_law_error", "_law_found", "_law_fine"]
theorem sc_kinds : FnScope N_kinds ["_law_error"] (defScope s_kinds) := ⟨rfl, rfl, rfl, by decide +kernel, rfl, by decide +kernel, by decide +kernel⟩
def b_kinds : Sv :=
    (sSeq (sSet 1 (eSh (eLst [(e1 (oIsX [("Unlike", false), ("BadText", false), ("BadRow", false), ("Own", false), ("NoName", false), ("NoBook", false), ("NoTie", false), ("NoPlace", false), ("NoDeed", false), ("MayNot", false), ("Barred", false), ("Lost", false), ("Gap", false), ("Apart", true), ("Stopped", false), ("Shared", false), ("Tied", false), ("Taken", false), ("Last", false), ("TooMany", false), ("Full", false)]) (eB 0)), (e1 (oIsX [("Unlike", false), ("BadText", false), ("BadRow", true), ("Own", false), ("NoName", false), ("NoBook", false), ("NoTie", false), ("NoPlace", false), ("NoDeed", false), ("MayNot", false), ("Barred", false), ("Lost", false), ("Gap", false), ("Apart", false), ("Stopped", false), ("Shared", false), ("Tied", false), ("Taken", false), ("Last", false), ("TooMany", false), ("Full", false)]) (eB 0)), (e1 (oIsX [("Unlike", false), ("BadText", true), ("BadRow", false), ("Own", false), ("NoName", false), ("NoBook", false), ("NoTie", false), ("NoPlace", false), ("NoDeed", false), ("MayNot", false), ("Barred", false), ("Lost", false), ("Gap", false), ("Apart", false), ("Stopped", false), ("Shared", false), ("Tied", false), ("Taken", false), ("Last", false), ("TooMany", false), ("Full", false)]) (eB 0)), (e1 (oIsX [("Unlike", false), ("BadText", false), ("BadRow", false), ("Own", false), ("NoName", false), ("NoBook", false), ("NoTie", false), ("NoPlace", false), ("NoDeed", false), ("MayNot", false), ("Barred", true), ("Lost", false), ("Gap", false), ("Apart", false), ("Stopped", false), ("Shared", false), ("Tied", false), ("Taken", false), ("Last", false), ("TooMany", false), ("Full", false)]) (eB 0))])))
    (sSeq (sSet 1 (eSh (e2 oAdd (eI 1) (eInn (eLst [(e1 (oIsX [("Unlike", false), ("BadText", false), ("BadRow", false), ("Own", false), ("NoName", false), ("NoBook", false), ("NoTie", false), ("NoPlace", false), ("NoDeed", false), ("MayNot", false), ("Barred", false), ("Lost", false), ("Gap", false), ("Apart", false), ("Stopped", false), ("Shared", false), ("Tied", false), ("Taken", false), ("Last", false), ("TooMany", false), ("Full", true)]) (eB 0)), (e1 (oIsX [("Unlike", false), ("BadText", false), ("BadRow", false), ("Own", false), ("NoName", false), ("NoBook", false), ("NoTie", false), ("NoPlace", false), ("NoDeed", false), ("MayNot", false), ("Barred", false), ("Lost", false), ("Gap", true), ("Apart", false), ("Stopped", false), ("Shared", false), ("Tied", false), ("Taken", false), ("Last", false), ("TooMany", false), ("Full", false)]) (eB 0)), (e1 (oIsX [("Unlike", false), ("BadText", false), ("BadRow", false), ("Own", false), ("NoName", false), ("NoBook", false), ("NoTie", false), ("NoPlace", false), ("NoDeed", false), ("MayNot", false), ("Barred", false), ("Lost", false), ("Gap", false), ("Apart", false), ("Stopped", false), ("Shared", false), ("Tied", false), ("Taken", false), ("Last", true), ("TooMany", false), ("Full", false)]) (eB 0)), (e1 (oIsX [("Unlike", false), ("BadText", false), ("BadRow", false), ("Own", false), ("NoName", false), ("NoBook", false), ("NoTie", false), ("NoPlace", false), ("NoDeed", false), ("MayNot", false), ("Barred", false), ("Lost", true), ("Gap", false), ("Apart", false), ("Stopped", false), ("Shared", false), ("Tied", false), ("Taken", false), ("Last", false), ("TooMany", false), ("Full", false)]) (eB 0))])))))
    (sSeq (sSet 1 (eSh (e2 oAdd (eI 1) (eInn (eLst [(e1 (oIsX [("Unlike", false), ("BadText", false), ("BadRow", false), ("Own", false), ("NoName", false), ("NoBook", false), ("NoTie", false), ("NoPlace", false), ("NoDeed", false), ("MayNot", true), ("Barred", false), ("Lost", false), ("Gap", false), ("Apart", false), ("Stopped", false), ("Shared", false), ("Tied", false), ("Taken", false), ("Last", false), ("TooMany", false), ("Full", false)]) (eB 0)), (e1 (oIsX [("Unlike", false), ("BadText", false), ("BadRow", false), ("Own", false), ("NoName", false), ("NoBook", true), ("NoTie", false), ("NoPlace", false), ("NoDeed", false), ("MayNot", false), ("Barred", false), ("Lost", false), ("Gap", false), ("Apart", false), ("Stopped", false), ("Shared", false), ("Tied", false), ("Taken", false), ("Last", false), ("TooMany", false), ("Full", false)]) (eB 0)), (e1 (oIsX [("Unlike", false), ("BadText", false), ("BadRow", false), ("Own", false), ("NoName", false), ("NoBook", false), ("NoTie", false), ("NoPlace", false), ("NoDeed", true), ("MayNot", false), ("Barred", false), ("Lost", false), ("Gap", false), ("Apart", false), ("Stopped", false), ("Shared", false), ("Tied", false), ("Taken", false), ("Last", false), ("TooMany", false), ("Full", false)]) (eB 0))])))))
    (sSeq (sSet 1 (eSh (e2 oAdd (eI 1) (eInn (eLst [(e1 (oIsX [("Unlike", false), ("BadText", false), ("BadRow", false), ("Own", false), ("NoName", true), ("NoBook", false), ("NoTie", false), ("NoPlace", false), ("NoDeed", false), ("MayNot", false), ("Barred", false), ("Lost", false), ("Gap", false), ("Apart", false), ("Stopped", false), ("Shared", false), ("Tied", false), ("Taken", false), ("Last", false), ("TooMany", false), ("Full", false)]) (eB 0)), (e1 (oIsX [("Unlike", false), ("BadText", false), ("BadRow", false), ("Own", false), ("NoName", false), ("NoBook", false), ("NoTie", false), ("NoPlace", true), ("NoDeed", false), ("MayNot", false), ("Barred", false), ("Lost", false), ("Gap", false), ("Apart", false), ("Stopped", false), ("Shared", false), ("Tied", false), ("Taken", false), ("Last", false), ("TooMany", false), ("Full", false)]) (eB 0)), (e1 (oIsX [("Unlike", false), ("BadText", false), ("BadRow", false), ("Own", false), ("NoName", false), ("NoBook", false), ("NoTie", true), ("NoPlace", false), ("NoDeed", false), ("MayNot", false), ("Barred", false), ("Lost", false), ("Gap", false), ("Apart", false), ("Stopped", false), ("Shared", false), ("Tied", false), ("Taken", false), ("Last", false), ("TooMany", false), ("Full", false)]) (eB 0))])))))
    (sSeq (sSet 1 (eSh (e2 oAdd (eI 1) (eInn (eLst [(e1 (oIsX [("Unlike", false), ("BadText", false), ("BadRow", false), ("Own", true), ("NoName", false), ("NoBook", false), ("NoTie", false), ("NoPlace", false), ("NoDeed", false), ("MayNot", false), ("Barred", false), ("Lost", false), ("Gap", false), ("Apart", false), ("Stopped", false), ("Shared", false), ("Tied", false), ("Taken", false), ("Last", false), ("TooMany", false), ("Full", false)]) (eB 0)), (e1 (oIsX [("Unlike", false), ("BadText", false), ("BadRow", false), ("Own", false), ("NoName", false), ("NoBook", false), ("NoTie", false), ("NoPlace", false), ("NoDeed", false), ("MayNot", false), ("Barred", false), ("Lost", false), ("Gap", false), ("Apart", false), ("Stopped", false), ("Shared", true), ("Tied", false), ("Taken", false), ("Last", false), ("TooMany", false), ("Full", false)]) (eB 0)), (e1 (oIsX [("Unlike", false), ("BadText", false), ("BadRow", false), ("Own", false), ("NoName", false), ("NoBook", false), ("NoTie", false), ("NoPlace", false), ("NoDeed", false), ("MayNot", false), ("Barred", false), ("Lost", false), ("Gap", false), ("Apart", false), ("Stopped", true), ("Shared", false), ("Tied", false), ("Taken", false), ("Last", false), ("TooMany", false), ("Full", false)]) (eB 0))])))))
    (sSeq (sSet 1 (eSh (e2 oAdd (eI 1) (eInn (eLst [(e1 (oIsX [("Unlike", false), ("BadText", false), ("BadRow", false), ("Own", false), ("NoName", false), ("NoBook", false), ("NoTie", false), ("NoPlace", false), ("NoDeed", false), ("MayNot", false), ("Barred", false), ("Lost", false), ("Gap", false), ("Apart", false), ("Stopped", false), ("Shared", false), ("Tied", false), ("Taken", true), ("Last", false), ("TooMany", false), ("Full", false)]) (eB 0)), (e1 (oIsX [("Unlike", false), ("BadText", false), ("BadRow", false), ("Own", false), ("NoName", false), ("NoBook", false), ("NoTie", false), ("NoPlace", false), ("NoDeed", false), ("MayNot", false), ("Barred", false), ("Lost", false), ("Gap", false), ("Apart", false), ("Stopped", false), ("Shared", false), ("Tied", true), ("Taken", false), ("Last", false), ("TooMany", false), ("Full", false)]) (eB 0)), (e1 (oIsX [("Unlike", false), ("BadText", false), ("BadRow", false), ("Own", false), ("NoName", false), ("NoBook", false), ("NoTie", false), ("NoPlace", false), ("NoDeed", false), ("MayNot", false), ("Barred", false), ("Lost", false), ("Gap", false), ("Apart", false), ("Stopped", false), ("Shared", false), ("Tied", false), ("Taken", false), ("Last", false), ("TooMany", true), ("Full", false)]) (eB 0))])))))
    (sRet (eN (n1 oLen) [(eLc [2] (.one 2) (itD itSeq (eSh (e2 oAdd (eI 1) (eInn (eLst [(e1 (oIsX [("Unlike", true), ("BadText", false), ("BadRow", false), ("Own", false), ("NoName", false), ("NoBook", false), ("NoTie", false), ("NoPlace", false), ("NoDeed", false), ("MayNot", false), ("Barred", false), ("Lost", false), ("Gap", false), ("Apart", false), ("Stopped", false), ("Shared", false), ("Tied", false), ("Taken", false), ("Last", false), ("TooMany", false), ("Full", false)]) (eB 0))]))))) (some (eV 2)) (eV 2))]))))))))
def g_kinds : Fn := runFn 2 b_kinds
abbrev s_bases : Stmt := top 34
abbrev N_bases : List Str := ["_law_error", "_law_found"]
theorem sc_bases : FnScope N_bases ["_law_error"] (defScope s_bases) := ⟨rfl, rfl, rfl, by decide +kernel, rfl, by decide +kernel, by decide +kernel⟩
def b_bases : Sv :=
    (sSeq (sSet 1 (eSh (e2 oAdd (eInn (e2 oMul (eInn (eLst [(eC (.str ("value" : Str)))])) (eN (n1 oInt) [(e1 (oIsX [("Unlike", true), ("BadText", true), ("BadRow", true), ("Own", true), ("NoName", true), ("NoBook", false), ("NoTie", false), ("NoPlace", false), ("NoDeed", false), ("MayNot", false), ("Barred", false), ("Lost", false), ("Gap", false), ("Apart", false), ("Stopped", false), ("Shared", false), ("Tied", false), ("Taken", false), ("Last", false), ("TooMany", false), ("Full", false)]) (eB 0))]))) (eInn (e2 oMul (eInn (eLst [(eC (.str ("lookup" : Str)))])) (eN (n1 oInt) [(e1 (oIsX [("Unlike", false), ("BadText", false), ("BadRow", false), ("Own", false), ("NoName", false), ("NoBook", true), ("NoTie", true), ("NoPlace", true), ("NoDeed", true), ("MayNot", false), ("Barred", false), ("Lost", false), ("Gap", false), ("Apart", false), ("Stopped", false), ("Shared", false), ("Tied", false), ("Taken", false), ("Last", false), ("TooMany", false), ("Full", false)]) (eB 0))]))))))
    (sSeq (sSet 1 (eSh (e2 oAdd (eI 1) (eInn (e2 oMul (eInn (eLst [(eC (.str ("runtime" : Str)))])) (eN (n1 oInt) [(e1 (oIsX [("Unlike", false), ("BadText", false), ("BadRow", false), ("Own", false), ("NoName", false), ("NoBook", false), ("NoTie", false), ("NoPlace", false), ("NoDeed", false), ("MayNot", true), ("Barred", true), ("Lost", true), ("Gap", true), ("Apart", true), ("Stopped", true), ("Shared", true), ("Tied", true), ("Taken", true), ("Last", true), ("TooMany", false), ("Full", false)]) (eB 0))]))))))
    (sSeq (sSet 1 (eSh (e2 oAdd (eI 1) (eInn (e2 oMul (eInn (eLst [(eC (.str ("overflow" : Str)))])) (eN (n1 oInt) [(e1 (oIsX [("Unlike", false), ("BadText", false), ("BadRow", false), ("Own", false), ("NoName", false), ("NoBook", false), ("NoTie", false), ("NoPlace", false), ("NoDeed", false), ("MayNot", false), ("Barred", false), ("Lost", false), ("Gap", false), ("Apart", false), ("Stopped", false), ("Shared", false), ("Tied", false), ("Taken", false), ("Last", false), ("TooMany", true), ("Full", true)]) (eB 0))]))))))
    (sRet (e2 oAdd (eI 1) (eInn (e2 oMul (eInn (eLst [(eC (.str ("other" : Str)))])) (eN (n1 oInt) [(e1 (oIsX3 [("Unlike", false), ("BadText", false), ("BadRow", false), ("Own", false), ("NoName", false), ("NoBook", false), ("NoTie", false), ("NoPlace", false), ("NoDeed", false), ("MayNot", false), ("Barred", false), ("Lost", false), ("Gap", false), ("Apart", false), ("Stopped", false), ("Shared", false), ("Tied", false), ("Taken", false), ("Last", false), ("TooMany", false), ("Full", false)] [("Unlike", false), ("BadText", false), ("BadRow", false), ("Own", false), ("NoName", false), ("NoBook", false), ("NoTie", false), ("NoPlace", false), ("NoDeed", false), ("MayNot", false), ("Barred", false), ("Lost", false), ("Gap", false), ("Apart", false), ("Stopped", false), ("Shared", false), ("Tied", false), ("Taken", false), ("Last", false), ("TooMany", false), ("Full", false)] [("Unlike", false), ("BadText", false), ("BadRow", false), ("Own", false), ("NoName", false), ("NoBook", false), ("NoTie", false), ("NoPlace", false), ("NoDeed", false), ("MayNot", false), ("Barred", false), ("Lost", false), ("Gap", false), ("Apart", false), ("Stopped", false), ("Shared", false), ("Tied", false), ("Taken", false), ("Last", false), ("TooMany", false), ("Full", false)]) (eB 0))]))))))))
def g_bases : Fn := runFn 1 b_bases
abbrev s_law : Stmt := top 35
abbrev N_law : List Str := ["_law_script", "_law_box_here", "_law_some", "_law_mine", "_law_its", "_law_error", "_law_twin", "_law_base"]
theorem sc_law : FnScope N_law ["_law_script"] (defScope s_law) := ⟨rfl, rfl, rfl, by decide +kernel, rfl, by decide +kernel, by decide +kernel⟩
def b_law : Sv :=
    (sSeq (sSet 1 (eSh (eCall g_box [(eV 0), (eC (.int 0))])))
    (sSeq (sSet 2 (eSh (eLst [(eC (.str ("a" : Str))), (eC (.int 7)), (e1 oNeg (eC (.int 1))), (eC .non), (eLst [(eC (.str ("a" : Str))), (eC (.str ("b" : Str)))]), (eTup [(eC (.str ("a" : Str))), (eC (.str ("b" : Str)))]), (eC (.str ("" : Str))), (e2 oPow (eC (.int 10)) (eC (.int 30)))])))
    (sSeq (sPar 3 false 4 false (eSh (eCall g_pick [(eV 1), (eV 2)])) (eSh (eCall g_pick [(eV 1), (eV 2)])))
    (sSeq (sFor (.three 5 6 7) (itD itSeq (eSh (eCall g_all [(eV 3), (eV 4)])))
    (sSeq (sIf (eOr (e2 oNe (eCall g_kinds [(eV 5)]) (eC (.int 1))) (eOr (e2 oNe (eCall g_kinds [(eV 6)]) (eC (.int 1))) (eOr (e2 oNe (eCall g_bases [(eV 5)]) (eLst [(eV 7)])) (e2 oNe (eCall g_bases [(eV 6)]) (eLst [(eV 7)])))))
    (sRet (eC (.bl false)))
    sNx)
    (sIf (eOr (e1 oNot (eCall g_fields [(eV 3), (eV 4), (eV 5)])) (e1 oNot (eCall g_fields [(eV 3), (eV 4), (eV 6)])))
    (sRet (eC (.bl false)))
    sNx)))
    (sRet (eCall (g_same 6) [(eSh (eLst [(eC (.int 300)), (eC (.int 6)), (eC (.int 800)), (eC (.int 8))])), (eSh (eLst [(eC (.int 300)), (eC (.int 6)), (eC (.int 800)), (eC (.int 8))]))]))))))
def g_law : Fn := runFn 7 b_law
abbrev si_BadText : Stmt := (clsB (top 2)).getD 0 (.Pass ⟨0, 0, 0, 0⟩)
theorem sci_BadText : FnScope ["self", "text"] ["self", "text"] (defScope si_BadText) := ⟨rfl, rfl, rfl, by decide +kernel, rfl, by decide +kernel, by decide +kernel⟩
abbrev si_BadRow : Stmt := (clsB (top 3)).getD 0 (.Pass ⟨0, 0, 0, 0⟩)
theorem sci_BadRow : FnScope ["self", "number"] ["self", "number"] (defScope si_BadRow) := ⟨rfl, rfl, rfl, by decide +kernel, rfl, by decide +kernel, by decide +kernel⟩
abbrev si_Own : Stmt := (clsB (top 4)).getD 0 (.Pass ⟨0, 0, 0, 0⟩)
theorem sci_Own : FnScope ["self", "book"] ["self", "book"] (defScope si_Own) := ⟨rfl, rfl, rfl, by decide +kernel, rfl, by decide +kernel, by decide +kernel⟩
abbrev si_NoName : Stmt := (clsB (top 5)).getD 0 (.Pass ⟨0, 0, 0, 0⟩)
theorem sci_NoName : FnScope ["self", "book"] ["self", "book"] (defScope si_NoName) := ⟨rfl, rfl, rfl, by decide +kernel, rfl, by decide +kernel, by decide +kernel⟩
abbrev si_NoBook : Stmt := (clsB (top 6)).getD 0 (.Pass ⟨0, 0, 0, 0⟩)
theorem sci_NoBook : FnScope ["self", "book"] ["self", "book"] (defScope si_NoBook) := ⟨rfl, rfl, rfl, by decide +kernel, rfl, by decide +kernel, by decide +kernel⟩
abbrev si_NoTie : Stmt := (clsB (top 7)).getD 0 (.Pass ⟨0, 0, 0, 0⟩)
theorem sci_NoTie : FnScope ["self", "pair"] ["self", "pair"] (defScope si_NoTie) := ⟨rfl, rfl, rfl, by decide +kernel, rfl, by decide +kernel, by decide +kernel⟩
abbrev si_NoPlace : Stmt := (clsB (top 8)).getD 0 (.Pass ⟨0, 0, 0, 0⟩)
theorem sci_NoPlace : FnScope ["self", "at"] ["self", "at"] (defScope si_NoPlace) := ⟨rfl, rfl, rfl, by decide +kernel, rfl, by decide +kernel, by decide +kernel⟩
abbrev si_NoDeed : Stmt := (clsB (top 9)).getD 0 (.Pass ⟨0, 0, 0, 0⟩)
theorem sci_NoDeed : FnScope ["self", "many"] ["self", "many"] (defScope si_NoDeed) := ⟨rfl, rfl, rfl, by decide +kernel, rfl, by decide +kernel, by decide +kernel⟩
abbrev si_MayNot : Stmt := (clsB (top 10)).getD 0 (.Pass ⟨0, 0, 0, 0⟩)
theorem sci_MayNot : FnScope ["self", "book"] ["self", "book"] (defScope si_MayNot) := ⟨rfl, rfl, rfl, by decide +kernel, rfl, by decide +kernel, by decide +kernel⟩
abbrev si_Barred : Stmt := (clsB (top 11)).getD 0 (.Pass ⟨0, 0, 0, 0⟩)
theorem sci_Barred : FnScope ["self", "ring"] ["self", "ring"] (defScope si_Barred) := ⟨rfl, rfl, rfl, by decide +kernel, rfl, by decide +kernel, by decide +kernel⟩
abbrev si_Lost : Stmt := (clsB (top 12)).getD 0 (.Pass ⟨0, 0, 0, 0⟩)
theorem sci_Lost : FnScope ["self", "place"] ["self", "place"] (defScope si_Lost) := ⟨rfl, rfl, rfl, by decide +kernel, rfl, by decide +kernel, by decide +kernel⟩
abbrev si_Gap : Stmt := (clsB (top 13)).getD 0 (.Pass ⟨0, 0, 0, 0⟩)
theorem sci_Gap : FnScope ["self", "place", "ring"] ["self", "place", "ring"] (defScope si_Gap) := ⟨rfl, rfl, rfl, by decide +kernel, rfl, by decide +kernel, by decide +kernel⟩
abbrev si_Apart : Stmt := (clsB (top 14)).getD 0 (.Pass ⟨0, 0, 0, 0⟩)
theorem sci_Apart : FnScope ["self", "one", "other"] ["self", "one", "other"] (defScope si_Apart) := ⟨rfl, rfl, rfl, by decide +kernel, rfl, by decide +kernel, by decide +kernel⟩
abbrev si_Stopped : Stmt := (clsB (top 15)).getD 0 (.Pass ⟨0, 0, 0, 0⟩)
theorem sci_Stopped : FnScope ["self", "number"] ["self", "number"] (defScope si_Stopped) := ⟨rfl, rfl, rfl, by decide +kernel, rfl, by decide +kernel, by decide +kernel⟩
abbrev si_Shared : Stmt := (clsB (top 16)).getD 0 (.Pass ⟨0, 0, 0, 0⟩)
theorem sci_Shared : FnScope ["self", "book"] ["self", "book"] (defScope si_Shared) := ⟨rfl, rfl, rfl, by decide +kernel, rfl, by decide +kernel, by decide +kernel⟩
abbrev si_Tied : Stmt := (clsB (top 17)).getD 0 (.Pass ⟨0, 0, 0, 0⟩)
theorem sci_Tied : FnScope ["self", "pair"] ["self", "pair"] (defScope si_Tied) := ⟨rfl, rfl, rfl, by decide +kernel, rfl, by decide +kernel, by decide +kernel⟩
abbrev si_Taken : Stmt := (clsB (top 18)).getD 0 (.Pass ⟨0, 0, 0, 0⟩)
theorem sci_Taken : FnScope ["self", "book"] ["self", "book"] (defScope si_Taken) := ⟨rfl, rfl, rfl, by decide +kernel, rfl, by decide +kernel, by decide +kernel⟩
abbrev si_TooMany : Stmt := (clsB (top 20)).getD 0 (.Pass ⟨0, 0, 0, 0⟩)
theorem sci_TooMany : FnScope ["self", "many"] ["self", "many"] (defScope si_TooMany) := ⟨rfl, rfl, rfl, by decide +kernel, rfl, by decide +kernel, by decide +kernel⟩
abbrev si_Full : Stmt := (clsB (top 21)).getD 0 (.Pass ⟨0, 0, 0, 0⟩)
theorem sci_Full : FnScope ["self", "many"] ["self", "many"] (defScope si_Full) := ⟨rfl, rfl, rfl, by decide +kernel, rfl, by decide +kernel, by decide +kernel⟩
structure Xs (K : PySem.W.Frag) (mg : Str → Option Value) (e0 e1 e2 e3 e4 e5 e6 e7 e8 e9 e10 e11 e12 e13 e14 e15 e16 e17 e18 e19 e20 : Addr) : Prop where
  cl_Unlike : ClsX K mg "Unlike" e0
  nn_Unlike : PySem.W.subIn K (.type "NoneType") (.ref e0) = some false
  s_Unlike_Unlike : PySem.W.subIn K (.ref e0) (.ref e0) = some true
  s_Unlike_BadText : PySem.W.subIn K (.ref e0) (.ref e1) = some false
  s_Unlike_BadRow : PySem.W.subIn K (.ref e0) (.ref e2) = some false
  s_Unlike_Own : PySem.W.subIn K (.ref e0) (.ref e3) = some false
  s_Unlike_NoName : PySem.W.subIn K (.ref e0) (.ref e4) = some false
  s_Unlike_NoBook : PySem.W.subIn K (.ref e0) (.ref e5) = some false
  s_Unlike_NoTie : PySem.W.subIn K (.ref e0) (.ref e6) = some false
  s_Unlike_NoPlace : PySem.W.subIn K (.ref e0) (.ref e7) = some false
  s_Unlike_NoDeed : PySem.W.subIn K (.ref e0) (.ref e8) = some false
  s_Unlike_MayNot : PySem.W.subIn K (.ref e0) (.ref e9) = some false
  s_Unlike_Barred : PySem.W.subIn K (.ref e0) (.ref e10) = some false
  s_Unlike_Lost : PySem.W.subIn K (.ref e0) (.ref e11) = some false
  s_Unlike_Gap : PySem.W.subIn K (.ref e0) (.ref e12) = some false
  s_Unlike_Apart : PySem.W.subIn K (.ref e0) (.ref e13) = some false
  s_Unlike_Stopped : PySem.W.subIn K (.ref e0) (.ref e14) = some false
  s_Unlike_Shared : PySem.W.subIn K (.ref e0) (.ref e15) = some false
  s_Unlike_Tied : PySem.W.subIn K (.ref e0) (.ref e16) = some false
  s_Unlike_Taken : PySem.W.subIn K (.ref e0) (.ref e17) = some false
  s_Unlike_Last : PySem.W.subIn K (.ref e0) (.ref e18) = some false
  s_Unlike_TooMany : PySem.W.subIn K (.ref e0) (.ref e19) = some false
  s_Unlike_Full : PySem.W.subIn K (.ref e0) (.ref e20) = some false
  t_Unlike_IndexError : PySem.W.subIn K (.ref e0) (.type "IndexError") = some false
  t_Unlike_KeyError : PySem.W.subIn K (.ref e0) (.type "KeyError") = some false
  t_Unlike_LookupError : PySem.W.subIn K (.ref e0) (.type "LookupError") = some false
  t_Unlike_NotImplementedError : PySem.W.subIn K (.ref e0) (.type "NotImplementedError") = some false
  t_Unlike_OverflowError : PySem.W.subIn K (.ref e0) (.type "OverflowError") = some false
  t_Unlike_RuntimeError : PySem.W.subIn K (.ref e0) (.type "RuntimeError") = some false
  t_Unlike_ValueError : PySem.W.subIn K (.ref e0) (.type "ValueError") = some true
  cl_BadText : ClsX K mg "BadText" e1
  nn_BadText : PySem.W.subIn K (.type "NoneType") (.ref e1) = some false
  s_BadText_Unlike : PySem.W.subIn K (.ref e1) (.ref e0) = some false
  s_BadText_BadText : PySem.W.subIn K (.ref e1) (.ref e1) = some true
  s_BadText_BadRow : PySem.W.subIn K (.ref e1) (.ref e2) = some false
  s_BadText_Own : PySem.W.subIn K (.ref e1) (.ref e3) = some false
  s_BadText_NoName : PySem.W.subIn K (.ref e1) (.ref e4) = some false
  s_BadText_NoBook : PySem.W.subIn K (.ref e1) (.ref e5) = some false
  s_BadText_NoTie : PySem.W.subIn K (.ref e1) (.ref e6) = some false
  s_BadText_NoPlace : PySem.W.subIn K (.ref e1) (.ref e7) = some false
  s_BadText_NoDeed : PySem.W.subIn K (.ref e1) (.ref e8) = some false
  s_BadText_MayNot : PySem.W.subIn K (.ref e1) (.ref e9) = some false
  s_BadText_Barred : PySem.W.subIn K (.ref e1) (.ref e10) = some false
  s_BadText_Lost : PySem.W.subIn K (.ref e1) (.ref e11) = some false
  s_BadText_Gap : PySem.W.subIn K (.ref e1) (.ref e12) = some false
  s_BadText_Apart : PySem.W.subIn K (.ref e1) (.ref e13) = some false
  s_BadText_Stopped : PySem.W.subIn K (.ref e1) (.ref e14) = some false
  s_BadText_Shared : PySem.W.subIn K (.ref e1) (.ref e15) = some false
  s_BadText_Tied : PySem.W.subIn K (.ref e1) (.ref e16) = some false
  s_BadText_Taken : PySem.W.subIn K (.ref e1) (.ref e17) = some false
  s_BadText_Last : PySem.W.subIn K (.ref e1) (.ref e18) = some false
  s_BadText_TooMany : PySem.W.subIn K (.ref e1) (.ref e19) = some false
  s_BadText_Full : PySem.W.subIn K (.ref e1) (.ref e20) = some false
  t_BadText_IndexError : PySem.W.subIn K (.ref e1) (.type "IndexError") = some false
  t_BadText_KeyError : PySem.W.subIn K (.ref e1) (.type "KeyError") = some false
  t_BadText_LookupError : PySem.W.subIn K (.ref e1) (.type "LookupError") = some false
  t_BadText_NotImplementedError : PySem.W.subIn K (.ref e1) (.type "NotImplementedError") = some false
  t_BadText_OverflowError : PySem.W.subIn K (.ref e1) (.type "OverflowError") = some false
  t_BadText_RuntimeError : PySem.W.subIn K (.ref e1) (.type "RuntimeError") = some false
  t_BadText_ValueError : PySem.W.subIn K (.ref e1) (.type "ValueError") = some true
  f_BadText_text : PySem.W.findIn K (.ref e1) "text" = some none
  cl_BadRow : ClsX K mg "BadRow" e2
  nn_BadRow : PySem.W.subIn K (.type "NoneType") (.ref e2) = some false
  s_BadRow_Unlike : PySem.W.subIn K (.ref e2) (.ref e0) = some false
  s_BadRow_BadText : PySem.W.subIn K (.ref e2) (.ref e1) = some false
  s_BadRow_BadRow : PySem.W.subIn K (.ref e2) (.ref e2) = some true
  s_BadRow_Own : PySem.W.subIn K (.ref e2) (.ref e3) = some false
  s_BadRow_NoName : PySem.W.subIn K (.ref e2) (.ref e4) = some false
  s_BadRow_NoBook : PySem.W.subIn K (.ref e2) (.ref e5) = some false
  s_BadRow_NoTie : PySem.W.subIn K (.ref e2) (.ref e6) = some false
  s_BadRow_NoPlace : PySem.W.subIn K (.ref e2) (.ref e7) = some false
  s_BadRow_NoDeed : PySem.W.subIn K (.ref e2) (.ref e8) = some false
  s_BadRow_MayNot : PySem.W.subIn K (.ref e2) (.ref e9) = some false
  s_BadRow_Barred : PySem.W.subIn K (.ref e2) (.ref e10) = some false
  s_BadRow_Lost : PySem.W.subIn K (.ref e2) (.ref e11) = some false
  s_BadRow_Gap : PySem.W.subIn K (.ref e2) (.ref e12) = some false
  s_BadRow_Apart : PySem.W.subIn K (.ref e2) (.ref e13) = some false
  s_BadRow_Stopped : PySem.W.subIn K (.ref e2) (.ref e14) = some false
  s_BadRow_Shared : PySem.W.subIn K (.ref e2) (.ref e15) = some false
  s_BadRow_Tied : PySem.W.subIn K (.ref e2) (.ref e16) = some false
  s_BadRow_Taken : PySem.W.subIn K (.ref e2) (.ref e17) = some false
  s_BadRow_Last : PySem.W.subIn K (.ref e2) (.ref e18) = some false
  s_BadRow_TooMany : PySem.W.subIn K (.ref e2) (.ref e19) = some false
  s_BadRow_Full : PySem.W.subIn K (.ref e2) (.ref e20) = some false
  t_BadRow_IndexError : PySem.W.subIn K (.ref e2) (.type "IndexError") = some false
  t_BadRow_KeyError : PySem.W.subIn K (.ref e2) (.type "KeyError") = some false
  t_BadRow_LookupError : PySem.W.subIn K (.ref e2) (.type "LookupError") = some false
  t_BadRow_NotImplementedError : PySem.W.subIn K (.ref e2) (.type "NotImplementedError") = some false
  t_BadRow_OverflowError : PySem.W.subIn K (.ref e2) (.type "OverflowError") = some false
  t_BadRow_RuntimeError : PySem.W.subIn K (.ref e2) (.type "RuntimeError") = some false
  t_BadRow_ValueError : PySem.W.subIn K (.ref e2) (.type "ValueError") = some true
  f_BadRow_number : PySem.W.findIn K (.ref e2) "number" = some none
  cl_Own : ClsX K mg "Own" e3
  nn_Own : PySem.W.subIn K (.type "NoneType") (.ref e3) = some false
  s_Own_Unlike : PySem.W.subIn K (.ref e3) (.ref e0) = some false
  s_Own_BadText : PySem.W.subIn K (.ref e3) (.ref e1) = some false
  s_Own_BadRow : PySem.W.subIn K (.ref e3) (.ref e2) = some false
  s_Own_Own : PySem.W.subIn K (.ref e3) (.ref e3) = some true
  s_Own_NoName : PySem.W.subIn K (.ref e3) (.ref e4) = some false
  s_Own_NoBook : PySem.W.subIn K (.ref e3) (.ref e5) = some false
  s_Own_NoTie : PySem.W.subIn K (.ref e3) (.ref e6) = some false
  s_Own_NoPlace : PySem.W.subIn K (.ref e3) (.ref e7) = some false
  s_Own_NoDeed : PySem.W.subIn K (.ref e3) (.ref e8) = some false
  s_Own_MayNot : PySem.W.subIn K (.ref e3) (.ref e9) = some false
  s_Own_Barred : PySem.W.subIn K (.ref e3) (.ref e10) = some false
  s_Own_Lost : PySem.W.subIn K (.ref e3) (.ref e11) = some false
  s_Own_Gap : PySem.W.subIn K (.ref e3) (.ref e12) = some false
  s_Own_Apart : PySem.W.subIn K (.ref e3) (.ref e13) = some false
  s_Own_Stopped : PySem.W.subIn K (.ref e3) (.ref e14) = some false
  s_Own_Shared : PySem.W.subIn K (.ref e3) (.ref e15) = some false
  s_Own_Tied : PySem.W.subIn K (.ref e3) (.ref e16) = some false
  s_Own_Taken : PySem.W.subIn K (.ref e3) (.ref e17) = some false
  s_Own_Last : PySem.W.subIn K (.ref e3) (.ref e18) = some false
  s_Own_TooMany : PySem.W.subIn K (.ref e3) (.ref e19) = some false
  s_Own_Full : PySem.W.subIn K (.ref e3) (.ref e20) = some false
  t_Own_IndexError : PySem.W.subIn K (.ref e3) (.type "IndexError") = some false
  t_Own_KeyError : PySem.W.subIn K (.ref e3) (.type "KeyError") = some false
  t_Own_LookupError : PySem.W.subIn K (.ref e3) (.type "LookupError") = some false
  t_Own_NotImplementedError : PySem.W.subIn K (.ref e3) (.type "NotImplementedError") = some false
  t_Own_OverflowError : PySem.W.subIn K (.ref e3) (.type "OverflowError") = some false
  t_Own_RuntimeError : PySem.W.subIn K (.ref e3) (.type "RuntimeError") = some false
  t_Own_ValueError : PySem.W.subIn K (.ref e3) (.type "ValueError") = some true
  f_Own_book : PySem.W.findIn K (.ref e3) "book" = some none
  cl_NoName : ClsX K mg "NoName" e4
  nn_NoName : PySem.W.subIn K (.type "NoneType") (.ref e4) = some false
  s_NoName_Unlike : PySem.W.subIn K (.ref e4) (.ref e0) = some false
  s_NoName_BadText : PySem.W.subIn K (.ref e4) (.ref e1) = some false
  s_NoName_BadRow : PySem.W.subIn K (.ref e4) (.ref e2) = some false
  s_NoName_Own : PySem.W.subIn K (.ref e4) (.ref e3) = some false
  s_NoName_NoName : PySem.W.subIn K (.ref e4) (.ref e4) = some true
  s_NoName_NoBook : PySem.W.subIn K (.ref e4) (.ref e5) = some false
  s_NoName_NoTie : PySem.W.subIn K (.ref e4) (.ref e6) = some false
  s_NoName_NoPlace : PySem.W.subIn K (.ref e4) (.ref e7) = some false
  s_NoName_NoDeed : PySem.W.subIn K (.ref e4) (.ref e8) = some false
  s_NoName_MayNot : PySem.W.subIn K (.ref e4) (.ref e9) = some false
  s_NoName_Barred : PySem.W.subIn K (.ref e4) (.ref e10) = some false
  s_NoName_Lost : PySem.W.subIn K (.ref e4) (.ref e11) = some false
  s_NoName_Gap : PySem.W.subIn K (.ref e4) (.ref e12) = some false
  s_NoName_Apart : PySem.W.subIn K (.ref e4) (.ref e13) = some false
  s_NoName_Stopped : PySem.W.subIn K (.ref e4) (.ref e14) = some false
  s_NoName_Shared : PySem.W.subIn K (.ref e4) (.ref e15) = some false
  s_NoName_Tied : PySem.W.subIn K (.ref e4) (.ref e16) = some false
  s_NoName_Taken : PySem.W.subIn K (.ref e4) (.ref e17) = some false
  s_NoName_Last : PySem.W.subIn K (.ref e4) (.ref e18) = some false
  s_NoName_TooMany : PySem.W.subIn K (.ref e4) (.ref e19) = some false
  s_NoName_Full : PySem.W.subIn K (.ref e4) (.ref e20) = some false
  t_NoName_IndexError : PySem.W.subIn K (.ref e4) (.type "IndexError") = some false
  t_NoName_KeyError : PySem.W.subIn K (.ref e4) (.type "KeyError") = some false
  t_NoName_LookupError : PySem.W.subIn K (.ref e4) (.type "LookupError") = some false
  t_NoName_NotImplementedError : PySem.W.subIn K (.ref e4) (.type "NotImplementedError") = some false
  t_NoName_OverflowError : PySem.W.subIn K (.ref e4) (.type "OverflowError") = some false
  t_NoName_RuntimeError : PySem.W.subIn K (.ref e4) (.type "RuntimeError") = some false
  t_NoName_ValueError : PySem.W.subIn K (.ref e4) (.type "ValueError") = some true
  f_NoName_book : PySem.W.findIn K (.ref e4) "book" = some none
  cl_NoBook : ClsX K mg "NoBook" e5
  nn_NoBook : PySem.W.subIn K (.type "NoneType") (.ref e5) = some false
  s_NoBook_Unlike : PySem.W.subIn K (.ref e5) (.ref e0) = some false
  s_NoBook_BadText : PySem.W.subIn K (.ref e5) (.ref e1) = some false
  s_NoBook_BadRow : PySem.W.subIn K (.ref e5) (.ref e2) = some false
  s_NoBook_Own : PySem.W.subIn K (.ref e5) (.ref e3) = some false
  s_NoBook_NoName : PySem.W.subIn K (.ref e5) (.ref e4) = some false
  s_NoBook_NoBook : PySem.W.subIn K (.ref e5) (.ref e5) = some true
  s_NoBook_NoTie : PySem.W.subIn K (.ref e5) (.ref e6) = some false
  s_NoBook_NoPlace : PySem.W.subIn K (.ref e5) (.ref e7) = some false
  s_NoBook_NoDeed : PySem.W.subIn K (.ref e5) (.ref e8) = some false
  s_NoBook_MayNot : PySem.W.subIn K (.ref e5) (.ref e9) = some false
  s_NoBook_Barred : PySem.W.subIn K (.ref e5) (.ref e10) = some false
  s_NoBook_Lost : PySem.W.subIn K (.ref e5) (.ref e11) = some false
  s_NoBook_Gap : PySem.W.subIn K (.ref e5) (.ref e12) = some false
  s_NoBook_Apart : PySem.W.subIn K (.ref e5) (.ref e13) = some false
  s_NoBook_Stopped : PySem.W.subIn K (.ref e5) (.ref e14) = some false
  s_NoBook_Shared : PySem.W.subIn K (.ref e5) (.ref e15) = some false
  s_NoBook_Tied : PySem.W.subIn K (.ref e5) (.ref e16) = some false
  s_NoBook_Taken : PySem.W.subIn K (.ref e5) (.ref e17) = some false
  s_NoBook_Last : PySem.W.subIn K (.ref e5) (.ref e18) = some false
  s_NoBook_TooMany : PySem.W.subIn K (.ref e5) (.ref e19) = some false
  s_NoBook_Full : PySem.W.subIn K (.ref e5) (.ref e20) = some false
  t_NoBook_IndexError : PySem.W.subIn K (.ref e5) (.type "IndexError") = some false
  t_NoBook_KeyError : PySem.W.subIn K (.ref e5) (.type "KeyError") = some false
  t_NoBook_LookupError : PySem.W.subIn K (.ref e5) (.type "LookupError") = some true
  t_NoBook_NotImplementedError : PySem.W.subIn K (.ref e5) (.type "NotImplementedError") = some false
  t_NoBook_OverflowError : PySem.W.subIn K (.ref e5) (.type "OverflowError") = some false
  t_NoBook_RuntimeError : PySem.W.subIn K (.ref e5) (.type "RuntimeError") = some false
  t_NoBook_ValueError : PySem.W.subIn K (.ref e5) (.type "ValueError") = some false
  f_NoBook_book : PySem.W.findIn K (.ref e5) "book" = some none
  cl_NoTie : ClsX K mg "NoTie" e6
  nn_NoTie : PySem.W.subIn K (.type "NoneType") (.ref e6) = some false
  s_NoTie_Unlike : PySem.W.subIn K (.ref e6) (.ref e0) = some false
  s_NoTie_BadText : PySem.W.subIn K (.ref e6) (.ref e1) = some false
  s_NoTie_BadRow : PySem.W.subIn K (.ref e6) (.ref e2) = some false
  s_NoTie_Own : PySem.W.subIn K (.ref e6) (.ref e3) = some false
  s_NoTie_NoName : PySem.W.subIn K (.ref e6) (.ref e4) = some false
  s_NoTie_NoBook : PySem.W.subIn K (.ref e6) (.ref e5) = some false
  s_NoTie_NoTie : PySem.W.subIn K (.ref e6) (.ref e6) = some true
  s_NoTie_NoPlace : PySem.W.subIn K (.ref e6) (.ref e7) = some false
  s_NoTie_NoDeed : PySem.W.subIn K (.ref e6) (.ref e8) = some false
  s_NoTie_MayNot : PySem.W.subIn K (.ref e6) (.ref e9) = some false
  s_NoTie_Barred : PySem.W.subIn K (.ref e6) (.ref e10) = some false
  s_NoTie_Lost : PySem.W.subIn K (.ref e6) (.ref e11) = some false
  s_NoTie_Gap : PySem.W.subIn K (.ref e6) (.ref e12) = some false
  s_NoTie_Apart : PySem.W.subIn K (.ref e6) (.ref e13) = some false
  s_NoTie_Stopped : PySem.W.subIn K (.ref e6) (.ref e14) = some false
  s_NoTie_Shared : PySem.W.subIn K (.ref e6) (.ref e15) = some false
  s_NoTie_Tied : PySem.W.subIn K (.ref e6) (.ref e16) = some false
  s_NoTie_Taken : PySem.W.subIn K (.ref e6) (.ref e17) = some false
  s_NoTie_Last : PySem.W.subIn K (.ref e6) (.ref e18) = some false
  s_NoTie_TooMany : PySem.W.subIn K (.ref e6) (.ref e19) = some false
  s_NoTie_Full : PySem.W.subIn K (.ref e6) (.ref e20) = some false
  t_NoTie_IndexError : PySem.W.subIn K (.ref e6) (.type "IndexError") = some false
  t_NoTie_KeyError : PySem.W.subIn K (.ref e6) (.type "KeyError") = some false
  t_NoTie_LookupError : PySem.W.subIn K (.ref e6) (.type "LookupError") = some true
  t_NoTie_NotImplementedError : PySem.W.subIn K (.ref e6) (.type "NotImplementedError") = some false
  t_NoTie_OverflowError : PySem.W.subIn K (.ref e6) (.type "OverflowError") = some false
  t_NoTie_RuntimeError : PySem.W.subIn K (.ref e6) (.type "RuntimeError") = some false
  t_NoTie_ValueError : PySem.W.subIn K (.ref e6) (.type "ValueError") = some false
  f_NoTie_pair : PySem.W.findIn K (.ref e6) "pair" = some none
  cl_NoPlace : ClsX K mg "NoPlace" e7
  nn_NoPlace : PySem.W.subIn K (.type "NoneType") (.ref e7) = some false
  s_NoPlace_Unlike : PySem.W.subIn K (.ref e7) (.ref e0) = some false
  s_NoPlace_BadText : PySem.W.subIn K (.ref e7) (.ref e1) = some false
  s_NoPlace_BadRow : PySem.W.subIn K (.ref e7) (.ref e2) = some false
  s_NoPlace_Own : PySem.W.subIn K (.ref e7) (.ref e3) = some false
  s_NoPlace_NoName : PySem.W.subIn K (.ref e7) (.ref e4) = some false
  s_NoPlace_NoBook : PySem.W.subIn K (.ref e7) (.ref e5) = some false
  s_NoPlace_NoTie : PySem.W.subIn K (.ref e7) (.ref e6) = some false
  s_NoPlace_NoPlace : PySem.W.subIn K (.ref e7) (.ref e7) = some true
  s_NoPlace_NoDeed : PySem.W.subIn K (.ref e7) (.ref e8) = some false
  s_NoPlace_MayNot : PySem.W.subIn K (.ref e7) (.ref e9) = some false
  s_NoPlace_Barred : PySem.W.subIn K (.ref e7) (.ref e10) = some false
  s_NoPlace_Lost : PySem.W.subIn K (.ref e7) (.ref e11) = some false
  s_NoPlace_Gap : PySem.W.subIn K (.ref e7) (.ref e12) = some false
  s_NoPlace_Apart : PySem.W.subIn K (.ref e7) (.ref e13) = some false
  s_NoPlace_Stopped : PySem.W.subIn K (.ref e7) (.ref e14) = some false
  s_NoPlace_Shared : PySem.W.subIn K (.ref e7) (.ref e15) = some false
  s_NoPlace_Tied : PySem.W.subIn K (.ref e7) (.ref e16) = some false
  s_NoPlace_Taken : PySem.W.subIn K (.ref e7) (.ref e17) = some false
  s_NoPlace_Last : PySem.W.subIn K (.ref e7) (.ref e18) = some false
  s_NoPlace_TooMany : PySem.W.subIn K (.ref e7) (.ref e19) = some false
  s_NoPlace_Full : PySem.W.subIn K (.ref e7) (.ref e20) = some false
  t_NoPlace_IndexError : PySem.W.subIn K (.ref e7) (.type "IndexError") = some false
  t_NoPlace_KeyError : PySem.W.subIn K (.ref e7) (.type "KeyError") = some false
  t_NoPlace_LookupError : PySem.W.subIn K (.ref e7) (.type "LookupError") = some true
  t_NoPlace_NotImplementedError : PySem.W.subIn K (.ref e7) (.type "NotImplementedError") = some false
  t_NoPlace_OverflowError : PySem.W.subIn K (.ref e7) (.type "OverflowError") = some false
  t_NoPlace_RuntimeError : PySem.W.subIn K (.ref e7) (.type "RuntimeError") = some false
  t_NoPlace_ValueError : PySem.W.subIn K (.ref e7) (.type "ValueError") = some false
  f_NoPlace_at : PySem.W.findIn K (.ref e7) "at" = some none
  cl_NoDeed : ClsX K mg "NoDeed" e8
  nn_NoDeed : PySem.W.subIn K (.type "NoneType") (.ref e8) = some false
  s_NoDeed_Unlike : PySem.W.subIn K (.ref e8) (.ref e0) = some false
  s_NoDeed_BadText : PySem.W.subIn K (.ref e8) (.ref e1) = some false
  s_NoDeed_BadRow : PySem.W.subIn K (.ref e8) (.ref e2) = some false
  s_NoDeed_Own : PySem.W.subIn K (.ref e8) (.ref e3) = some false
  s_NoDeed_NoName : PySem.W.subIn K (.ref e8) (.ref e4) = some false
  s_NoDeed_NoBook : PySem.W.subIn K (.ref e8) (.ref e5) = some false
  s_NoDeed_NoTie : PySem.W.subIn K (.ref e8) (.ref e6) = some false
  s_NoDeed_NoPlace : PySem.W.subIn K (.ref e8) (.ref e7) = some false
  s_NoDeed_NoDeed : PySem.W.subIn K (.ref e8) (.ref e8) = some true
  s_NoDeed_MayNot : PySem.W.subIn K (.ref e8) (.ref e9) = some false
  s_NoDeed_Barred : PySem.W.subIn K (.ref e8) (.ref e10) = some false
  s_NoDeed_Lost : PySem.W.subIn K (.ref e8) (.ref e11) = some false
  s_NoDeed_Gap : PySem.W.subIn K (.ref e8) (.ref e12) = some false
  s_NoDeed_Apart : PySem.W.subIn K (.ref e8) (.ref e13) = some false
  s_NoDeed_Stopped : PySem.W.subIn K (.ref e8) (.ref e14) = some false
  s_NoDeed_Shared : PySem.W.subIn K (.ref e8) (.ref e15) = some false
  s_NoDeed_Tied : PySem.W.subIn K (.ref e8) (.ref e16) = some false
  s_NoDeed_Taken : PySem.W.subIn K (.ref e8) (.ref e17) = some false
  s_NoDeed_Last : PySem.W.subIn K (.ref e8) (.ref e18) = some false
  s_NoDeed_TooMany : PySem.W.subIn K (.ref e8) (.ref e19) = some false
  s_NoDeed_Full : PySem.W.subIn K (.ref e8) (.ref e20) = some false
  t_NoDeed_IndexError : PySem.W.subIn K (.ref e8) (.type "IndexError") = some false
  t_NoDeed_KeyError : PySem.W.subIn K (.ref e8) (.type "KeyError") = some false
  t_NoDeed_LookupError : PySem.W.subIn K (.ref e8) (.type "LookupError") = some true
  t_NoDeed_NotImplementedError : PySem.W.subIn K (.ref e8) (.type "NotImplementedError") = some false
  t_NoDeed_OverflowError : PySem.W.subIn K (.ref e8) (.type "OverflowError") = some false
  t_NoDeed_RuntimeError : PySem.W.subIn K (.ref e8) (.type "RuntimeError") = some false
  t_NoDeed_ValueError : PySem.W.subIn K (.ref e8) (.type "ValueError") = some false
  f_NoDeed_many : PySem.W.findIn K (.ref e8) "many" = some none
  cl_MayNot : ClsX K mg "MayNot" e9
  nn_MayNot : PySem.W.subIn K (.type "NoneType") (.ref e9) = some false
  s_MayNot_Unlike : PySem.W.subIn K (.ref e9) (.ref e0) = some false
  s_MayNot_BadText : PySem.W.subIn K (.ref e9) (.ref e1) = some false
  s_MayNot_BadRow : PySem.W.subIn K (.ref e9) (.ref e2) = some false
  s_MayNot_Own : PySem.W.subIn K (.ref e9) (.ref e3) = some false
  s_MayNot_NoName : PySem.W.subIn K (.ref e9) (.ref e4) = some false
  s_MayNot_NoBook : PySem.W.subIn K (.ref e9) (.ref e5) = some false
  s_MayNot_NoTie : PySem.W.subIn K (.ref e9) (.ref e6) = some false
  s_MayNot_NoPlace : PySem.W.subIn K (.ref e9) (.ref e7) = some false
  s_MayNot_NoDeed : PySem.W.subIn K (.ref e9) (.ref e8) = some false
  s_MayNot_MayNot : PySem.W.subIn K (.ref e9) (.ref e9) = some true
  s_MayNot_Barred : PySem.W.subIn K (.ref e9) (.ref e10) = some false
  s_MayNot_Lost : PySem.W.subIn K (.ref e9) (.ref e11) = some false
  s_MayNot_Gap : PySem.W.subIn K (.ref e9) (.ref e12) = some false
  s_MayNot_Apart : PySem.W.subIn K (.ref e9) (.ref e13) = some false
  s_MayNot_Stopped : PySem.W.subIn K (.ref e9) (.ref e14) = some false
  s_MayNot_Shared : PySem.W.subIn K (.ref e9) (.ref e15) = some false
  s_MayNot_Tied : PySem.W.subIn K (.ref e9) (.ref e16) = some false
  s_MayNot_Taken : PySem.W.subIn K (.ref e9) (.ref e17) = some false
  s_MayNot_Last : PySem.W.subIn K (.ref e9) (.ref e18) = some false
  s_MayNot_TooMany : PySem.W.subIn K (.ref e9) (.ref e19) = some false
  s_MayNot_Full : PySem.W.subIn K (.ref e9) (.ref e20) = some false
  t_MayNot_IndexError : PySem.W.subIn K (.ref e9) (.type "IndexError") = some false
  t_MayNot_KeyError : PySem.W.subIn K (.ref e9) (.type "KeyError") = some false
  t_MayNot_LookupError : PySem.W.subIn K (.ref e9) (.type "LookupError") = some false
  t_MayNot_NotImplementedError : PySem.W.subIn K (.ref e9) (.type "NotImplementedError") = some false
  t_MayNot_OverflowError : PySem.W.subIn K (.ref e9) (.type "OverflowError") = some false
  t_MayNot_RuntimeError : PySem.W.subIn K (.ref e9) (.type "RuntimeError") = some true
  t_MayNot_ValueError : PySem.W.subIn K (.ref e9) (.type "ValueError") = some false
  f_MayNot_book : PySem.W.findIn K (.ref e9) "book" = some none
  cl_Barred : ClsX K mg "Barred" e10
  nn_Barred : PySem.W.subIn K (.type "NoneType") (.ref e10) = some false
  s_Barred_Unlike : PySem.W.subIn K (.ref e10) (.ref e0) = some false
  s_Barred_BadText : PySem.W.subIn K (.ref e10) (.ref e1) = some false
  s_Barred_BadRow : PySem.W.subIn K (.ref e10) (.ref e2) = some false
  s_Barred_Own : PySem.W.subIn K (.ref e10) (.ref e3) = some false
  s_Barred_NoName : PySem.W.subIn K (.ref e10) (.ref e4) = some false
  s_Barred_NoBook : PySem.W.subIn K (.ref e10) (.ref e5) = some false
  s_Barred_NoTie : PySem.W.subIn K (.ref e10) (.ref e6) = some false
  s_Barred_NoPlace : PySem.W.subIn K (.ref e10) (.ref e7) = some false
  s_Barred_NoDeed : PySem.W.subIn K (.ref e10) (.ref e8) = some false
  s_Barred_MayNot : PySem.W.subIn K (.ref e10) (.ref e9) = some false
  s_Barred_Barred : PySem.W.subIn K (.ref e10) (.ref e10) = some true
  s_Barred_Lost : PySem.W.subIn K (.ref e10) (.ref e11) = some false
  s_Barred_Gap : PySem.W.subIn K (.ref e10) (.ref e12) = some false
  s_Barred_Apart : PySem.W.subIn K (.ref e10) (.ref e13) = some false
  s_Barred_Stopped : PySem.W.subIn K (.ref e10) (.ref e14) = some false
  s_Barred_Shared : PySem.W.subIn K (.ref e10) (.ref e15) = some false
  s_Barred_Tied : PySem.W.subIn K (.ref e10) (.ref e16) = some false
  s_Barred_Taken : PySem.W.subIn K (.ref e10) (.ref e17) = some false
  s_Barred_Last : PySem.W.subIn K (.ref e10) (.ref e18) = some false
  s_Barred_TooMany : PySem.W.subIn K (.ref e10) (.ref e19) = some false
  s_Barred_Full : PySem.W.subIn K (.ref e10) (.ref e20) = some false
  t_Barred_IndexError : PySem.W.subIn K (.ref e10) (.type "IndexError") = some false
  t_Barred_KeyError : PySem.W.subIn K (.ref e10) (.type "KeyError") = some false
  t_Barred_LookupError : PySem.W.subIn K (.ref e10) (.type "LookupError") = some false
  t_Barred_NotImplementedError : PySem.W.subIn K (.ref e10) (.type "NotImplementedError") = some false
  t_Barred_OverflowError : PySem.W.subIn K (.ref e10) (.type "OverflowError") = some false
  t_Barred_RuntimeError : PySem.W.subIn K (.ref e10) (.type "RuntimeError") = some true
  t_Barred_ValueError : PySem.W.subIn K (.ref e10) (.type "ValueError") = some false
  f_Barred_ring : PySem.W.findIn K (.ref e10) "ring" = some none
  cl_Lost : ClsX K mg "Lost" e11
  nn_Lost : PySem.W.subIn K (.type "NoneType") (.ref e11) = some false
  s_Lost_Unlike : PySem.W.subIn K (.ref e11) (.ref e0) = some false
  s_Lost_BadText : PySem.W.subIn K (.ref e11) (.ref e1) = some false
  s_Lost_BadRow : PySem.W.subIn K (.ref e11) (.ref e2) = some false
  s_Lost_Own : PySem.W.subIn K (.ref e11) (.ref e3) = some false
  s_Lost_NoName : PySem.W.subIn K (.ref e11) (.ref e4) = some false
  s_Lost_NoBook : PySem.W.subIn K (.ref e11) (.ref e5) = some false
  s_Lost_NoTie : PySem.W.subIn K (.ref e11) (.ref e6) = some false
  s_Lost_NoPlace : PySem.W.subIn K (.ref e11) (.ref e7) = some false
  s_Lost_NoDeed : PySem.W.subIn K (.ref e11) (.ref e8) = some false
  s_Lost_MayNot : PySem.W.subIn K (.ref e11) (.ref e9) = some false
  s_Lost_Barred : PySem.W.subIn K (.ref e11) (.ref e10) = some false
  s_Lost_Lost : PySem.W.subIn K (.ref e11) (.ref e11) = some true
  s_Lost_Gap : PySem.W.subIn K (.ref e11) (.ref e12) = some false
  s_Lost_Apart : PySem.W.subIn K (.ref e11) (.ref e13) = some false
  s_Lost_Stopped : PySem.W.subIn K (.ref e11) (.ref e14) = some false
  s_Lost_Shared : PySem.W.subIn K (.ref e11) (.ref e15) = some false
  s_Lost_Tied : PySem.W.subIn K (.ref e11) (.ref e16) = some false
  s_Lost_Taken : PySem.W.subIn K (.ref e11) (.ref e17) = some false
  s_Lost_Last : PySem.W.subIn K (.ref e11) (.ref e18) = some false
  s_Lost_TooMany : PySem.W.subIn K (.ref e11) (.ref e19) = some false
  s_Lost_Full : PySem.W.subIn K (.ref e11) (.ref e20) = some false
  t_Lost_IndexError : PySem.W.subIn K (.ref e11) (.type "IndexError") = some false
  t_Lost_KeyError : PySem.W.subIn K (.ref e11) (.type "KeyError") = some false
  t_Lost_LookupError : PySem.W.subIn K (.ref e11) (.type "LookupError") = some false
  t_Lost_NotImplementedError : PySem.W.subIn K (.ref e11) (.type "NotImplementedError") = some false
  t_Lost_OverflowError : PySem.W.subIn K (.ref e11) (.type "OverflowError") = some false
  t_Lost_RuntimeError : PySem.W.subIn K (.ref e11) (.type "RuntimeError") = some true
  t_Lost_ValueError : PySem.W.subIn K (.ref e11) (.type "ValueError") = some false
  f_Lost_place : PySem.W.findIn K (.ref e11) "place" = some none
  cl_Gap : ClsX K mg "Gap" e12
  nn_Gap : PySem.W.subIn K (.type "NoneType") (.ref e12) = some false
  s_Gap_Unlike : PySem.W.subIn K (.ref e12) (.ref e0) = some false
  s_Gap_BadText : PySem.W.subIn K (.ref e12) (.ref e1) = some false
  s_Gap_BadRow : PySem.W.subIn K (.ref e12) (.ref e2) = some false
  s_Gap_Own : PySem.W.subIn K (.ref e12) (.ref e3) = some false
  s_Gap_NoName : PySem.W.subIn K (.ref e12) (.ref e4) = some false
  s_Gap_NoBook : PySem.W.subIn K (.ref e12) (.ref e5) = some false
  s_Gap_NoTie : PySem.W.subIn K (.ref e12) (.ref e6) = some false
  s_Gap_NoPlace : PySem.W.subIn K (.ref e12) (.ref e7) = some false
  s_Gap_NoDeed : PySem.W.subIn K (.ref e12) (.ref e8) = some false
  s_Gap_MayNot : PySem.W.subIn K (.ref e12) (.ref e9) = some false
  s_Gap_Barred : PySem.W.subIn K (.ref e12) (.ref e10) = some false
  s_Gap_Lost : PySem.W.subIn K (.ref e12) (.ref e11) = some false
  s_Gap_Gap : PySem.W.subIn K (.ref e12) (.ref e12) = some true
  s_Gap_Apart : PySem.W.subIn K (.ref e12) (.ref e13) = some false
  s_Gap_Stopped : PySem.W.subIn K (.ref e12) (.ref e14) = some false
  s_Gap_Shared : PySem.W.subIn K (.ref e12) (.ref e15) = some false
  s_Gap_Tied : PySem.W.subIn K (.ref e12) (.ref e16) = some false
  s_Gap_Taken : PySem.W.subIn K (.ref e12) (.ref e17) = some false
  s_Gap_Last : PySem.W.subIn K (.ref e12) (.ref e18) = some false
  s_Gap_TooMany : PySem.W.subIn K (.ref e12) (.ref e19) = some false
  s_Gap_Full : PySem.W.subIn K (.ref e12) (.ref e20) = some false
  t_Gap_IndexError : PySem.W.subIn K (.ref e12) (.type "IndexError") = some false
  t_Gap_KeyError : PySem.W.subIn K (.ref e12) (.type "KeyError") = some false
  t_Gap_LookupError : PySem.W.subIn K (.ref e12) (.type "LookupError") = some false
  t_Gap_NotImplementedError : PySem.W.subIn K (.ref e12) (.type "NotImplementedError") = some false
  t_Gap_OverflowError : PySem.W.subIn K (.ref e12) (.type "OverflowError") = some false
  t_Gap_RuntimeError : PySem.W.subIn K (.ref e12) (.type "RuntimeError") = some true
  t_Gap_ValueError : PySem.W.subIn K (.ref e12) (.type "ValueError") = some false
  f_Gap_place : PySem.W.findIn K (.ref e12) "place" = some none
  f_Gap_ring : PySem.W.findIn K (.ref e12) "ring" = some none
  cl_Apart : ClsX K mg "Apart" e13
  nn_Apart : PySem.W.subIn K (.type "NoneType") (.ref e13) = some false
  s_Apart_Unlike : PySem.W.subIn K (.ref e13) (.ref e0) = some false
  s_Apart_BadText : PySem.W.subIn K (.ref e13) (.ref e1) = some false
  s_Apart_BadRow : PySem.W.subIn K (.ref e13) (.ref e2) = some false
  s_Apart_Own : PySem.W.subIn K (.ref e13) (.ref e3) = some false
  s_Apart_NoName : PySem.W.subIn K (.ref e13) (.ref e4) = some false
  s_Apart_NoBook : PySem.W.subIn K (.ref e13) (.ref e5) = some false
  s_Apart_NoTie : PySem.W.subIn K (.ref e13) (.ref e6) = some false
  s_Apart_NoPlace : PySem.W.subIn K (.ref e13) (.ref e7) = some false
  s_Apart_NoDeed : PySem.W.subIn K (.ref e13) (.ref e8) = some false
  s_Apart_MayNot : PySem.W.subIn K (.ref e13) (.ref e9) = some false
  s_Apart_Barred : PySem.W.subIn K (.ref e13) (.ref e10) = some false
  s_Apart_Lost : PySem.W.subIn K (.ref e13) (.ref e11) = some false
  s_Apart_Gap : PySem.W.subIn K (.ref e13) (.ref e12) = some false
  s_Apart_Apart : PySem.W.subIn K (.ref e13) (.ref e13) = some true
  s_Apart_Stopped : PySem.W.subIn K (.ref e13) (.ref e14) = some false
  s_Apart_Shared : PySem.W.subIn K (.ref e13) (.ref e15) = some false
  s_Apart_Tied : PySem.W.subIn K (.ref e13) (.ref e16) = some false
  s_Apart_Taken : PySem.W.subIn K (.ref e13) (.ref e17) = some false
  s_Apart_Last : PySem.W.subIn K (.ref e13) (.ref e18) = some false
  s_Apart_TooMany : PySem.W.subIn K (.ref e13) (.ref e19) = some false
  s_Apart_Full : PySem.W.subIn K (.ref e13) (.ref e20) = some false
  t_Apart_IndexError : PySem.W.subIn K (.ref e13) (.type "IndexError") = some false
  t_Apart_KeyError : PySem.W.subIn K (.ref e13) (.type "KeyError") = some false
  t_Apart_LookupError : PySem.W.subIn K (.ref e13) (.type "LookupError") = some false
  t_Apart_NotImplementedError : PySem.W.subIn K (.ref e13) (.type "NotImplementedError") = some false
  t_Apart_OverflowError : PySem.W.subIn K (.ref e13) (.type "OverflowError") = some false
  t_Apart_RuntimeError : PySem.W.subIn K (.ref e13) (.type "RuntimeError") = some true
  t_Apart_ValueError : PySem.W.subIn K (.ref e13) (.type "ValueError") = some false
  f_Apart_one : PySem.W.findIn K (.ref e13) "one" = some none
  f_Apart_other : PySem.W.findIn K (.ref e13) "other" = some none
  cl_Stopped : ClsX K mg "Stopped" e14
  nn_Stopped : PySem.W.subIn K (.type "NoneType") (.ref e14) = some false
  s_Stopped_Unlike : PySem.W.subIn K (.ref e14) (.ref e0) = some false
  s_Stopped_BadText : PySem.W.subIn K (.ref e14) (.ref e1) = some false
  s_Stopped_BadRow : PySem.W.subIn K (.ref e14) (.ref e2) = some false
  s_Stopped_Own : PySem.W.subIn K (.ref e14) (.ref e3) = some false
  s_Stopped_NoName : PySem.W.subIn K (.ref e14) (.ref e4) = some false
  s_Stopped_NoBook : PySem.W.subIn K (.ref e14) (.ref e5) = some false
  s_Stopped_NoTie : PySem.W.subIn K (.ref e14) (.ref e6) = some false
  s_Stopped_NoPlace : PySem.W.subIn K (.ref e14) (.ref e7) = some false
  s_Stopped_NoDeed : PySem.W.subIn K (.ref e14) (.ref e8) = some false
  s_Stopped_MayNot : PySem.W.subIn K (.ref e14) (.ref e9) = some false
  s_Stopped_Barred : PySem.W.subIn K (.ref e14) (.ref e10) = some false
  s_Stopped_Lost : PySem.W.subIn K (.ref e14) (.ref e11) = some false
  s_Stopped_Gap : PySem.W.subIn K (.ref e14) (.ref e12) = some false
  s_Stopped_Apart : PySem.W.subIn K (.ref e14) (.ref e13) = some false
  s_Stopped_Stopped : PySem.W.subIn K (.ref e14) (.ref e14) = some true
  s_Stopped_Shared : PySem.W.subIn K (.ref e14) (.ref e15) = some false
  s_Stopped_Tied : PySem.W.subIn K (.ref e14) (.ref e16) = some false
  s_Stopped_Taken : PySem.W.subIn K (.ref e14) (.ref e17) = some false
  s_Stopped_Last : PySem.W.subIn K (.ref e14) (.ref e18) = some false
  s_Stopped_TooMany : PySem.W.subIn K (.ref e14) (.ref e19) = some false
  s_Stopped_Full : PySem.W.subIn K (.ref e14) (.ref e20) = some false
  t_Stopped_IndexError : PySem.W.subIn K (.ref e14) (.type "IndexError") = some false
  t_Stopped_KeyError : PySem.W.subIn K (.ref e14) (.type "KeyError") = some false
  t_Stopped_LookupError : PySem.W.subIn K (.ref e14) (.type "LookupError") = some false
  t_Stopped_NotImplementedError : PySem.W.subIn K (.ref e14) (.type "NotImplementedError") = some false
  t_Stopped_OverflowError : PySem.W.subIn K (.ref e14) (.type "OverflowError") = some false
  t_Stopped_RuntimeError : PySem.W.subIn K (.ref e14) (.type "RuntimeError") = some true
  t_Stopped_ValueError : PySem.W.subIn K (.ref e14) (.type "ValueError") = some false
  f_Stopped_number : PySem.W.findIn K (.ref e14) "number" = some none
  cl_Shared : ClsX K mg "Shared" e15
  nn_Shared : PySem.W.subIn K (.type "NoneType") (.ref e15) = some false
  s_Shared_Unlike : PySem.W.subIn K (.ref e15) (.ref e0) = some false
  s_Shared_BadText : PySem.W.subIn K (.ref e15) (.ref e1) = some false
  s_Shared_BadRow : PySem.W.subIn K (.ref e15) (.ref e2) = some false
  s_Shared_Own : PySem.W.subIn K (.ref e15) (.ref e3) = some false
  s_Shared_NoName : PySem.W.subIn K (.ref e15) (.ref e4) = some false
  s_Shared_NoBook : PySem.W.subIn K (.ref e15) (.ref e5) = some false
  s_Shared_NoTie : PySem.W.subIn K (.ref e15) (.ref e6) = some false
  s_Shared_NoPlace : PySem.W.subIn K (.ref e15) (.ref e7) = some false
  s_Shared_NoDeed : PySem.W.subIn K (.ref e15) (.ref e8) = some false
  s_Shared_MayNot : PySem.W.subIn K (.ref e15) (.ref e9) = some false
  s_Shared_Barred : PySem.W.subIn K (.ref e15) (.ref e10) = some false
  s_Shared_Lost : PySem.W.subIn K (.ref e15) (.ref e11) = some false
  s_Shared_Gap : PySem.W.subIn K (.ref e15) (.ref e12) = some false
  s_Shared_Apart : PySem.W.subIn K (.ref e15) (.ref e13) = some false
  s_Shared_Stopped : PySem.W.subIn K (.ref e15) (.ref e14) = some false
  s_Shared_Shared : PySem.W.subIn K (.ref e15) (.ref e15) = some true
  s_Shared_Tied : PySem.W.subIn K (.ref e15) (.ref e16) = some false
  s_Shared_Taken : PySem.W.subIn K (.ref e15) (.ref e17) = some false
  s_Shared_Last : PySem.W.subIn K (.ref e15) (.ref e18) = some false
  s_Shared_TooMany : PySem.W.subIn K (.ref e15) (.ref e19) = some false
  s_Shared_Full : PySem.W.subIn K (.ref e15) (.ref e20) = some false
  t_Shared_IndexError : PySem.W.subIn K (.ref e15) (.type "IndexError") = some false
  t_Shared_KeyError : PySem.W.subIn K (.ref e15) (.type "KeyError") = some false
  t_Shared_LookupError : PySem.W.subIn K (.ref e15) (.type "LookupError") = some false
  t_Shared_NotImplementedError : PySem.W.subIn K (.ref e15) (.type "NotImplementedError") = some false
  t_Shared_OverflowError : PySem.W.subIn K (.ref e15) (.type "OverflowError") = some false
  t_Shared_RuntimeError : PySem.W.subIn K (.ref e15) (.type "RuntimeError") = some true
  t_Shared_ValueError : PySem.W.subIn K (.ref e15) (.type "ValueError") = some false
  f_Shared_book : PySem.W.findIn K (.ref e15) "book" = some none
  cl_Tied : ClsX K mg "Tied" e16
  nn_Tied : PySem.W.subIn K (.type "NoneType") (.ref e16) = some false
  s_Tied_Unlike : PySem.W.subIn K (.ref e16) (.ref e0) = some false
  s_Tied_BadText : PySem.W.subIn K (.ref e16) (.ref e1) = some false
  s_Tied_BadRow : PySem.W.subIn K (.ref e16) (.ref e2) = some false
  s_Tied_Own : PySem.W.subIn K (.ref e16) (.ref e3) = some false
  s_Tied_NoName : PySem.W.subIn K (.ref e16) (.ref e4) = some false
  s_Tied_NoBook : PySem.W.subIn K (.ref e16) (.ref e5) = some false
  s_Tied_NoTie : PySem.W.subIn K (.ref e16) (.ref e6) = some false
  s_Tied_NoPlace : PySem.W.subIn K (.ref e16) (.ref e7) = some false
  s_Tied_NoDeed : PySem.W.subIn K (.ref e16) (.ref e8) = some false
  s_Tied_MayNot : PySem.W.subIn K (.ref e16) (.ref e9) = some false
  s_Tied_Barred : PySem.W.subIn K (.ref e16) (.ref e10) = some false
  s_Tied_Lost : PySem.W.subIn K (.ref e16) (.ref e11) = some false
  s_Tied_Gap : PySem.W.subIn K (.ref e16) (.ref e12) = some false
  s_Tied_Apart : PySem.W.subIn K (.ref e16) (.ref e13) = some false
  s_Tied_Stopped : PySem.W.subIn K (.ref e16) (.ref e14) = some false
  s_Tied_Shared : PySem.W.subIn K (.ref e16) (.ref e15) = some false
  s_Tied_Tied : PySem.W.subIn K (.ref e16) (.ref e16) = some true
  s_Tied_Taken : PySem.W.subIn K (.ref e16) (.ref e17) = some false
  s_Tied_Last : PySem.W.subIn K (.ref e16) (.ref e18) = some false
  s_Tied_TooMany : PySem.W.subIn K (.ref e16) (.ref e19) = some false
  s_Tied_Full : PySem.W.subIn K (.ref e16) (.ref e20) = some false
  t_Tied_IndexError : PySem.W.subIn K (.ref e16) (.type "IndexError") = some false
  t_Tied_KeyError : PySem.W.subIn K (.ref e16) (.type "KeyError") = some false
  t_Tied_LookupError : PySem.W.subIn K (.ref e16) (.type "LookupError") = some false
  t_Tied_NotImplementedError : PySem.W.subIn K (.ref e16) (.type "NotImplementedError") = some false
  t_Tied_OverflowError : PySem.W.subIn K (.ref e16) (.type "OverflowError") = some false
  t_Tied_RuntimeError : PySem.W.subIn K (.ref e16) (.type "RuntimeError") = some true
  t_Tied_ValueError : PySem.W.subIn K (.ref e16) (.type "ValueError") = some false
  f_Tied_pair : PySem.W.findIn K (.ref e16) "pair" = some none
  cl_Taken : ClsX K mg "Taken" e17
  nn_Taken : PySem.W.subIn K (.type "NoneType") (.ref e17) = some false
  s_Taken_Unlike : PySem.W.subIn K (.ref e17) (.ref e0) = some false
  s_Taken_BadText : PySem.W.subIn K (.ref e17) (.ref e1) = some false
  s_Taken_BadRow : PySem.W.subIn K (.ref e17) (.ref e2) = some false
  s_Taken_Own : PySem.W.subIn K (.ref e17) (.ref e3) = some false
  s_Taken_NoName : PySem.W.subIn K (.ref e17) (.ref e4) = some false
  s_Taken_NoBook : PySem.W.subIn K (.ref e17) (.ref e5) = some false
  s_Taken_NoTie : PySem.W.subIn K (.ref e17) (.ref e6) = some false
  s_Taken_NoPlace : PySem.W.subIn K (.ref e17) (.ref e7) = some false
  s_Taken_NoDeed : PySem.W.subIn K (.ref e17) (.ref e8) = some false
  s_Taken_MayNot : PySem.W.subIn K (.ref e17) (.ref e9) = some false
  s_Taken_Barred : PySem.W.subIn K (.ref e17) (.ref e10) = some false
  s_Taken_Lost : PySem.W.subIn K (.ref e17) (.ref e11) = some false
  s_Taken_Gap : PySem.W.subIn K (.ref e17) (.ref e12) = some false
  s_Taken_Apart : PySem.W.subIn K (.ref e17) (.ref e13) = some false
  s_Taken_Stopped : PySem.W.subIn K (.ref e17) (.ref e14) = some false
  s_Taken_Shared : PySem.W.subIn K (.ref e17) (.ref e15) = some false
  s_Taken_Tied : PySem.W.subIn K (.ref e17) (.ref e16) = some false
  s_Taken_Taken : PySem.W.subIn K (.ref e17) (.ref e17) = some true
  s_Taken_Last : PySem.W.subIn K (.ref e17) (.ref e18) = some false
  s_Taken_TooMany : PySem.W.subIn K (.ref e17) (.ref e19) = some false
  s_Taken_Full : PySem.W.subIn K (.ref e17) (.ref e20) = some false
  t_Taken_IndexError : PySem.W.subIn K (.ref e17) (.type "IndexError") = some false
  t_Taken_KeyError : PySem.W.subIn K (.ref e17) (.type "KeyError") = some false
  t_Taken_LookupError : PySem.W.subIn K (.ref e17) (.type "LookupError") = some false
  t_Taken_NotImplementedError : PySem.W.subIn K (.ref e17) (.type "NotImplementedError") = some false
  t_Taken_OverflowError : PySem.W.subIn K (.ref e17) (.type "OverflowError") = some false
  t_Taken_RuntimeError : PySem.W.subIn K (.ref e17) (.type "RuntimeError") = some true
  t_Taken_ValueError : PySem.W.subIn K (.ref e17) (.type "ValueError") = some false
  f_Taken_book : PySem.W.findIn K (.ref e17) "book" = some none
  cl_Last : ClsX K mg "Last" e18
  nn_Last : PySem.W.subIn K (.type "NoneType") (.ref e18) = some false
  s_Last_Unlike : PySem.W.subIn K (.ref e18) (.ref e0) = some false
  s_Last_BadText : PySem.W.subIn K (.ref e18) (.ref e1) = some false
  s_Last_BadRow : PySem.W.subIn K (.ref e18) (.ref e2) = some false
  s_Last_Own : PySem.W.subIn K (.ref e18) (.ref e3) = some false
  s_Last_NoName : PySem.W.subIn K (.ref e18) (.ref e4) = some false
  s_Last_NoBook : PySem.W.subIn K (.ref e18) (.ref e5) = some false
  s_Last_NoTie : PySem.W.subIn K (.ref e18) (.ref e6) = some false
  s_Last_NoPlace : PySem.W.subIn K (.ref e18) (.ref e7) = some false
  s_Last_NoDeed : PySem.W.subIn K (.ref e18) (.ref e8) = some false
  s_Last_MayNot : PySem.W.subIn K (.ref e18) (.ref e9) = some false
  s_Last_Barred : PySem.W.subIn K (.ref e18) (.ref e10) = some false
  s_Last_Lost : PySem.W.subIn K (.ref e18) (.ref e11) = some false
  s_Last_Gap : PySem.W.subIn K (.ref e18) (.ref e12) = some false
  s_Last_Apart : PySem.W.subIn K (.ref e18) (.ref e13) = some false
  s_Last_Stopped : PySem.W.subIn K (.ref e18) (.ref e14) = some false
  s_Last_Shared : PySem.W.subIn K (.ref e18) (.ref e15) = some false
  s_Last_Tied : PySem.W.subIn K (.ref e18) (.ref e16) = some false
  s_Last_Taken : PySem.W.subIn K (.ref e18) (.ref e17) = some false
  s_Last_Last : PySem.W.subIn K (.ref e18) (.ref e18) = some true
  s_Last_TooMany : PySem.W.subIn K (.ref e18) (.ref e19) = some false
  s_Last_Full : PySem.W.subIn K (.ref e18) (.ref e20) = some false
  t_Last_IndexError : PySem.W.subIn K (.ref e18) (.type "IndexError") = some false
  t_Last_KeyError : PySem.W.subIn K (.ref e18) (.type "KeyError") = some false
  t_Last_LookupError : PySem.W.subIn K (.ref e18) (.type "LookupError") = some false
  t_Last_NotImplementedError : PySem.W.subIn K (.ref e18) (.type "NotImplementedError") = some false
  t_Last_OverflowError : PySem.W.subIn K (.ref e18) (.type "OverflowError") = some false
  t_Last_RuntimeError : PySem.W.subIn K (.ref e18) (.type "RuntimeError") = some true
  t_Last_ValueError : PySem.W.subIn K (.ref e18) (.type "ValueError") = some false
  cl_TooMany : ClsX K mg "TooMany" e19
  nn_TooMany : PySem.W.subIn K (.type "NoneType") (.ref e19) = some false
  s_TooMany_Unlike : PySem.W.subIn K (.ref e19) (.ref e0) = some false
  s_TooMany_BadText : PySem.W.subIn K (.ref e19) (.ref e1) = some false
  s_TooMany_BadRow : PySem.W.subIn K (.ref e19) (.ref e2) = some false
  s_TooMany_Own : PySem.W.subIn K (.ref e19) (.ref e3) = some false
  s_TooMany_NoName : PySem.W.subIn K (.ref e19) (.ref e4) = some false
  s_TooMany_NoBook : PySem.W.subIn K (.ref e19) (.ref e5) = some false
  s_TooMany_NoTie : PySem.W.subIn K (.ref e19) (.ref e6) = some false
  s_TooMany_NoPlace : PySem.W.subIn K (.ref e19) (.ref e7) = some false
  s_TooMany_NoDeed : PySem.W.subIn K (.ref e19) (.ref e8) = some false
  s_TooMany_MayNot : PySem.W.subIn K (.ref e19) (.ref e9) = some false
  s_TooMany_Barred : PySem.W.subIn K (.ref e19) (.ref e10) = some false
  s_TooMany_Lost : PySem.W.subIn K (.ref e19) (.ref e11) = some false
  s_TooMany_Gap : PySem.W.subIn K (.ref e19) (.ref e12) = some false
  s_TooMany_Apart : PySem.W.subIn K (.ref e19) (.ref e13) = some false
  s_TooMany_Stopped : PySem.W.subIn K (.ref e19) (.ref e14) = some false
  s_TooMany_Shared : PySem.W.subIn K (.ref e19) (.ref e15) = some false
  s_TooMany_Tied : PySem.W.subIn K (.ref e19) (.ref e16) = some false
  s_TooMany_Taken : PySem.W.subIn K (.ref e19) (.ref e17) = some false
  s_TooMany_Last : PySem.W.subIn K (.ref e19) (.ref e18) = some false
  s_TooMany_TooMany : PySem.W.subIn K (.ref e19) (.ref e19) = some true
  s_TooMany_Full : PySem.W.subIn K (.ref e19) (.ref e20) = some false
  t_TooMany_IndexError : PySem.W.subIn K (.ref e19) (.type "IndexError") = some false
  t_TooMany_KeyError : PySem.W.subIn K (.ref e19) (.type "KeyError") = some false
  t_TooMany_LookupError : PySem.W.subIn K (.ref e19) (.type "LookupError") = some false
  t_TooMany_NotImplementedError : PySem.W.subIn K (.ref e19) (.type "NotImplementedError") = some false
  t_TooMany_OverflowError : PySem.W.subIn K (.ref e19) (.type "OverflowError") = some true
  t_TooMany_RuntimeError : PySem.W.subIn K (.ref e19) (.type "RuntimeError") = some false
  t_TooMany_ValueError : PySem.W.subIn K (.ref e19) (.type "ValueError") = some false
  f_TooMany_many : PySem.W.findIn K (.ref e19) "many" = some none
  cl_Full : ClsX K mg "Full" e20
  nn_Full : PySem.W.subIn K (.type "NoneType") (.ref e20) = some false
  s_Full_Unlike : PySem.W.subIn K (.ref e20) (.ref e0) = some false
  s_Full_BadText : PySem.W.subIn K (.ref e20) (.ref e1) = some false
  s_Full_BadRow : PySem.W.subIn K (.ref e20) (.ref e2) = some false
  s_Full_Own : PySem.W.subIn K (.ref e20) (.ref e3) = some false
  s_Full_NoName : PySem.W.subIn K (.ref e20) (.ref e4) = some false
  s_Full_NoBook : PySem.W.subIn K (.ref e20) (.ref e5) = some false
  s_Full_NoTie : PySem.W.subIn K (.ref e20) (.ref e6) = some false
  s_Full_NoPlace : PySem.W.subIn K (.ref e20) (.ref e7) = some false
  s_Full_NoDeed : PySem.W.subIn K (.ref e20) (.ref e8) = some false
  s_Full_MayNot : PySem.W.subIn K (.ref e20) (.ref e9) = some false
  s_Full_Barred : PySem.W.subIn K (.ref e20) (.ref e10) = some false
  s_Full_Lost : PySem.W.subIn K (.ref e20) (.ref e11) = some false
  s_Full_Gap : PySem.W.subIn K (.ref e20) (.ref e12) = some false
  s_Full_Apart : PySem.W.subIn K (.ref e20) (.ref e13) = some false
  s_Full_Stopped : PySem.W.subIn K (.ref e20) (.ref e14) = some false
  s_Full_Shared : PySem.W.subIn K (.ref e20) (.ref e15) = some false
  s_Full_Tied : PySem.W.subIn K (.ref e20) (.ref e16) = some false
  s_Full_Taken : PySem.W.subIn K (.ref e20) (.ref e17) = some false
  s_Full_Last : PySem.W.subIn K (.ref e20) (.ref e18) = some false
  s_Full_TooMany : PySem.W.subIn K (.ref e20) (.ref e19) = some false
  s_Full_Full : PySem.W.subIn K (.ref e20) (.ref e20) = some true
  t_Full_IndexError : PySem.W.subIn K (.ref e20) (.type "IndexError") = some false
  t_Full_KeyError : PySem.W.subIn K (.ref e20) (.type "KeyError") = some false
  t_Full_LookupError : PySem.W.subIn K (.ref e20) (.type "LookupError") = some false
  t_Full_NotImplementedError : PySem.W.subIn K (.ref e20) (.type "NotImplementedError") = some false
  t_Full_OverflowError : PySem.W.subIn K (.ref e20) (.type "OverflowError") = some true
  t_Full_RuntimeError : PySem.W.subIn K (.ref e20) (.type "RuntimeError") = some false
  t_Full_ValueError : PySem.W.subIn K (.ref e20) (.type "ValueError") = some false
  f_Full_many : PySem.W.findIn K (.ref e20) "many" = some none
  nt_IndexError : PySem.W.subIn K (.type "NoneType") (.type "IndexError") = some false
  nt_KeyError : PySem.W.subIn K (.type "NoneType") (.type "KeyError") = some false
  nt_LookupError : PySem.W.subIn K (.type "NoneType") (.type "LookupError") = some false
  nt_NotImplementedError : PySem.W.subIn K (.type "NoneType") (.type "NotImplementedError") = some false
  nt_OverflowError : PySem.W.subIn K (.type "NoneType") (.type "OverflowError") = some false
  nt_RuntimeError : PySem.W.subIn K (.type "NoneType") (.type "RuntimeError") = some false
  nt_ValueError : PySem.W.subIn K (.type "NoneType") (.type "ValueError") = some false
structure Zs (mg : Str → Option Value) : Prop where
  len_ : mg "len" = none
  abs_ : mg "abs" = none
  int_ : mg "int" = none
  isinstance_ : mg "isinstance" = none
  list_ : mg "list" = none
  tuple_ : mg "tuple" = none
  zip_ : mg "zip" = none
  all_ : mg "all" = none
  bool_ : mg "bool" = none
  str_ : mg "str" = none
  ValueError_ : mg "ValueError" = none
  LookupError_ : mg "LookupError" = none
  RuntimeError_ : mg "RuntimeError" = none
  OverflowError_ : mg "OverflowError" = none
  IndexError_ : mg "IndexError" = none
  KeyError_ : mg "KeyError" = none
  NotImplementedError_ : mg "NotImplementedError" = none
  MOST_GOINGS_ : ∃ u, mg "MOST_GOINGS" = some u ∧ RelV (V.int 8) u
  MOST_LED_ : ∃ u, mg "MOST_LED" = some u ∧ RelV (V.int 800) u
  MOST_KNOT_ : ∃ u, mg "MOST_KNOT" = some u ∧ RelV (V.int 6) u
  MOST_RINGS_ : ∃ u, mg "MOST_RINGS" = some u ∧ RelV (V.int 300) u
section
variable {P : Program} {w : World} {K : PySem.W.Frag} {mg : Str → Option Value} {base : Heap}
theorem okc_BadText (zs : Zs mg) {e fI : Addr} {doc pm cdv ct oc : Value} {an od : Option Addr} {osl : Array (Option Value)} (hns : PySem.W.nsIn K mainGlobals "BadText" = some (some (.ref e))) (hmg : mg "BadText" = some (.ref e)) (T : OwnX K e "ValueError" "ValueError.__new__" "ValueError.__init__" [.type "ValueError", .type "Exception", .type "BaseException", .type "object"]) (iC : PySem.W.findIn K (.ref e) "__init__" = some (some (.ref fI))) (tI : PySem.W.typeIn K (.ref fI) = some (.type "function"))
    (lk : K.lookup fI = some ⟨oc, od, .func (PySem.W.fnOf "__init__" "BadText.__init__" (defArgs si_BadText) (defBody si_BadText) (defScope si_BadText) .none .none doc pm an cdv ct), osl⟩) (hcd : PySem.W.codeIn K cdv "BadText.__init__" = true) (vV : PySem.W.findCls K (.type "ValueError") (.type "type") "__init__" = some (.val (.builtin "ValueError.__init__"))) (htext : PySem.W.takerIn K e "text" = some none) : XCls P w K mg base 2 "BadText" ["text"] :=
  xcls_mk hns hmg T iC tI lk hcd sci_BadText rfl (by decide) (fun A outer s H E hg hr => init1 exN_Value T zs.ValueError_ vV htext) spI_one (fun us hu => match us, hu with | [_, _], _ => rfl)
theorem okcK_BadText (zs : Zs mg) {e fI : Addr} {doc pm cdv ct oc : Value} {an od : Option Addr} {osl : Array (Option Value)} (hns : PySem.W.nsIn K mainGlobals "BadText" = some (some (.ref e))) (hmg : mg "BadText" = some (.ref e)) (T : OwnX K e "ValueError" "ValueError.__new__" "ValueError.__init__" [.type "ValueError", .type "Exception", .type "BaseException", .type "object"]) (iC : PySem.W.findIn K (.ref e) "__init__" = some (some (.ref fI))) (tI : PySem.W.typeIn K (.ref fI) = some (.type "function"))
    (lk : K.lookup fI = some ⟨oc, od, .func (PySem.W.fnOf "__init__" "BadText.__init__" (defArgs si_BadText) (defBody si_BadText) (defScope si_BadText) .none .none doc pm an cdv ct), osl⟩) (hcd : PySem.W.codeIn K cdv "BadText.__init__" = true) (vV : PySem.W.findCls K (.type "ValueError") (.type "type") "__init__" = some (.val (.builtin "ValueError.__init__"))) (htext : PySem.W.takerIn K e "text" = some none) : XClsK P w K mg base 2 "BadText" ["text"] :=
  xclsK_mk hns hmg T iC tI lk hcd sci_BadText (fun A outer s H E hg hr => init1 exN_Value T zs.ValueError_ vV htext) spI_one (fun u ws kn idx hw ho => by rcases ho with ⟨rfl, rfl⟩ | ⟨rfl, rfl⟩ <;> (match ws, hw with | [_], _ => rfl))
theorem okc_BadRow (zs : Zs mg) {e fI : Addr} {doc pm cdv ct oc : Value} {an od : Option Addr} {osl : Array (Option Value)} (hns : PySem.W.nsIn K mainGlobals "BadRow" = some (some (.ref e))) (hmg : mg "BadRow" = some (.ref e)) (T : OwnX K e "ValueError" "ValueError.__new__" "ValueError.__init__" [.type "ValueError", .type "Exception", .type "BaseException", .type "object"]) (iC : PySem.W.findIn K (.ref e) "__init__" = some (some (.ref fI))) (tI : PySem.W.typeIn K (.ref fI) = some (.type "function"))
    (lk : K.lookup fI = some ⟨oc, od, .func (PySem.W.fnOf "__init__" "BadRow.__init__" (defArgs si_BadRow) (defBody si_BadRow) (defScope si_BadRow) .none .none doc pm an cdv ct), osl⟩) (hcd : PySem.W.codeIn K cdv "BadRow.__init__" = true) (vV : PySem.W.findCls K (.type "ValueError") (.type "type") "__init__" = some (.val (.builtin "ValueError.__init__"))) (hnumber : PySem.W.takerIn K e "number" = some none) : XCls P w K mg base 2 "BadRow" ["number"] :=
  xcls_mk hns hmg T iC tI lk hcd sci_BadRow rfl (by decide) (fun A outer s H E hg hr => init1 exN_Value T zs.ValueError_ vV hnumber) spI_one (fun us hu => match us, hu with | [_, _], _ => rfl)
theorem okcK_BadRow (zs : Zs mg) {e fI : Addr} {doc pm cdv ct oc : Value} {an od : Option Addr} {osl : Array (Option Value)} (hns : PySem.W.nsIn K mainGlobals "BadRow" = some (some (.ref e))) (hmg : mg "BadRow" = some (.ref e)) (T : OwnX K e "ValueError" "ValueError.__new__" "ValueError.__init__" [.type "ValueError", .type "Exception", .type "BaseException", .type "object"]) (iC : PySem.W.findIn K (.ref e) "__init__" = some (some (.ref fI))) (tI : PySem.W.typeIn K (.ref fI) = some (.type "function"))
    (lk : K.lookup fI = some ⟨oc, od, .func (PySem.W.fnOf "__init__" "BadRow.__init__" (defArgs si_BadRow) (defBody si_BadRow) (defScope si_BadRow) .none .none doc pm an cdv ct), osl⟩) (hcd : PySem.W.codeIn K cdv "BadRow.__init__" = true) (vV : PySem.W.findCls K (.type "ValueError") (.type "type") "__init__" = some (.val (.builtin "ValueError.__init__"))) (hnumber : PySem.W.takerIn K e "number" = some none) : XClsK P w K mg base 2 "BadRow" ["number"] :=
  xclsK_mk hns hmg T iC tI lk hcd sci_BadRow (fun A outer s H E hg hr => init1 exN_Value T zs.ValueError_ vV hnumber) spI_one (fun u ws kn idx hw ho => by rcases ho with ⟨rfl, rfl⟩ | ⟨rfl, rfl⟩ <;> (match ws, hw with | [_], _ => rfl))
theorem okc_Own (zs : Zs mg) {e fI : Addr} {doc pm cdv ct oc : Value} {an od : Option Addr} {osl : Array (Option Value)} (hns : PySem.W.nsIn K mainGlobals "Own" = some (some (.ref e))) (hmg : mg "Own" = some (.ref e)) (T : OwnX K e "ValueError" "ValueError.__new__" "ValueError.__init__" [.type "ValueError", .type "Exception", .type "BaseException", .type "object"]) (iC : PySem.W.findIn K (.ref e) "__init__" = some (some (.ref fI))) (tI : PySem.W.typeIn K (.ref fI) = some (.type "function"))
    (lk : K.lookup fI = some ⟨oc, od, .func (PySem.W.fnOf "__init__" "Own.__init__" (defArgs si_Own) (defBody si_Own) (defScope si_Own) .none .none doc pm an cdv ct), osl⟩) (hcd : PySem.W.codeIn K cdv "Own.__init__" = true) (vV : PySem.W.findCls K (.type "ValueError") (.type "type") "__init__" = some (.val (.builtin "ValueError.__init__"))) (hbook : PySem.W.takerIn K e "book" = some none) : XCls P w K mg base 2 "Own" ["book"] :=
  xcls_mk hns hmg T iC tI lk hcd sci_Own rfl (by decide) (fun A outer s H E hg hr => init1 exN_Value T zs.ValueError_ vV hbook) spI_one (fun us hu => match us, hu with | [_, _], _ => rfl)
theorem okcK_Own (zs : Zs mg) {e fI : Addr} {doc pm cdv ct oc : Value} {an od : Option Addr} {osl : Array (Option Value)} (hns : PySem.W.nsIn K mainGlobals "Own" = some (some (.ref e))) (hmg : mg "Own" = some (.ref e)) (T : OwnX K e "ValueError" "ValueError.__new__" "ValueError.__init__" [.type "ValueError", .type "Exception", .type "BaseException", .type "object"]) (iC : PySem.W.findIn K (.ref e) "__init__" = some (some (.ref fI))) (tI : PySem.W.typeIn K (.ref fI) = some (.type "function"))
    (lk : K.lookup fI = some ⟨oc, od, .func (PySem.W.fnOf "__init__" "Own.__init__" (defArgs si_Own) (defBody si_Own) (defScope si_Own) .none .none doc pm an cdv ct), osl⟩) (hcd : PySem.W.codeIn K cdv "Own.__init__" = true) (vV : PySem.W.findCls K (.type "ValueError") (.type "type") "__init__" = some (.val (.builtin "ValueError.__init__"))) (hbook : PySem.W.takerIn K e "book" = some none) : XClsK P w K mg base 2 "Own" ["book"] :=
  xclsK_mk hns hmg T iC tI lk hcd sci_Own (fun A outer s H E hg hr => init1 exN_Value T zs.ValueError_ vV hbook) spI_one (fun u ws kn idx hw ho => by rcases ho with ⟨rfl, rfl⟩ | ⟨rfl, rfl⟩ <;> (match ws, hw with | [_], _ => rfl))
theorem okc_NoName (zs : Zs mg) {e fI : Addr} {doc pm cdv ct oc : Value} {an od : Option Addr} {osl : Array (Option Value)} (hns : PySem.W.nsIn K mainGlobals "NoName" = some (some (.ref e))) (hmg : mg "NoName" = some (.ref e)) (T : OwnX K e "ValueError" "ValueError.__new__" "ValueError.__init__" [.type "ValueError", .type "Exception", .type "BaseException", .type "object"]) (iC : PySem.W.findIn K (.ref e) "__init__" = some (some (.ref fI))) (tI : PySem.W.typeIn K (.ref fI) = some (.type "function"))
    (lk : K.lookup fI = some ⟨oc, od, .func (PySem.W.fnOf "__init__" "NoName.__init__" (defArgs si_NoName) (defBody si_NoName) (defScope si_NoName) .none .none doc pm an cdv ct), osl⟩) (hcd : PySem.W.codeIn K cdv "NoName.__init__" = true) (vV : PySem.W.findCls K (.type "ValueError") (.type "type") "__init__" = some (.val (.builtin "ValueError.__init__"))) (hbook : PySem.W.takerIn K e "book" = some none) : XCls P w K mg base 2 "NoName" ["book"] :=
  xcls_mk hns hmg T iC tI lk hcd sci_NoName rfl (by decide) (fun A outer s H E hg hr => init1 exN_Value T zs.ValueError_ vV hbook) spI_one (fun us hu => match us, hu with | [_, _], _ => rfl)
theorem okcK_NoName (zs : Zs mg) {e fI : Addr} {doc pm cdv ct oc : Value} {an od : Option Addr} {osl : Array (Option Value)} (hns : PySem.W.nsIn K mainGlobals "NoName" = some (some (.ref e))) (hmg : mg "NoName" = some (.ref e)) (T : OwnX K e "ValueError" "ValueError.__new__" "ValueError.__init__" [.type "ValueError", .type "Exception", .type "BaseException", .type "object"]) (iC : PySem.W.findIn K (.ref e) "__init__" = some (some (.ref fI))) (tI : PySem.W.typeIn K (.ref fI) = some (.type "function"))
    (lk : K.lookup fI = some ⟨oc, od, .func (PySem.W.fnOf "__init__" "NoName.__init__" (defArgs si_NoName) (defBody si_NoName) (defScope si_NoName) .none .none doc pm an cdv ct), osl⟩) (hcd : PySem.W.codeIn K cdv "NoName.__init__" = true) (vV : PySem.W.findCls K (.type "ValueError") (.type "type") "__init__" = some (.val (.builtin "ValueError.__init__"))) (hbook : PySem.W.takerIn K e "book" = some none) : XClsK P w K mg base 2 "NoName" ["book"] :=
  xclsK_mk hns hmg T iC tI lk hcd sci_NoName (fun A outer s H E hg hr => init1 exN_Value T zs.ValueError_ vV hbook) spI_one (fun u ws kn idx hw ho => by rcases ho with ⟨rfl, rfl⟩ | ⟨rfl, rfl⟩ <;> (match ws, hw with | [_], _ => rfl))
theorem okc_NoBook (zs : Zs mg) {e fI : Addr} {doc pm cdv ct oc : Value} {an od : Option Addr} {osl : Array (Option Value)} (hns : PySem.W.nsIn K mainGlobals "NoBook" = some (some (.ref e))) (hmg : mg "NoBook" = some (.ref e)) (T : OwnX K e "LookupError" "LookupError.__new__" "LookupError.__init__" [.type "LookupError", .type "Exception", .type "BaseException", .type "object"]) (iC : PySem.W.findIn K (.ref e) "__init__" = some (some (.ref fI))) (tI : PySem.W.typeIn K (.ref fI) = some (.type "function"))
    (lk : K.lookup fI = some ⟨oc, od, .func (PySem.W.fnOf "__init__" "NoBook.__init__" (defArgs si_NoBook) (defBody si_NoBook) (defScope si_NoBook) .none .none doc pm an cdv ct), osl⟩) (hcd : PySem.W.codeIn K cdv "NoBook.__init__" = true) (vV : PySem.W.findCls K (.type "LookupError") (.type "type") "__init__" = some (.val (.builtin "LookupError.__init__"))) (hbook : PySem.W.takerIn K e "book" = some none) : XCls P w K mg base 2 "NoBook" ["book"] :=
  xcls_mk hns hmg T iC tI lk hcd sci_NoBook rfl (by decide) (fun A outer s H E hg hr => init1 exN_Lookup T zs.LookupError_ vV hbook) spI_one (fun us hu => match us, hu with | [_, _], _ => rfl)
theorem okcK_NoBook (zs : Zs mg) {e fI : Addr} {doc pm cdv ct oc : Value} {an od : Option Addr} {osl : Array (Option Value)} (hns : PySem.W.nsIn K mainGlobals "NoBook" = some (some (.ref e))) (hmg : mg "NoBook" = some (.ref e)) (T : OwnX K e "LookupError" "LookupError.__new__" "LookupError.__init__" [.type "LookupError", .type "Exception", .type "BaseException", .type "object"]) (iC : PySem.W.findIn K (.ref e) "__init__" = some (some (.ref fI))) (tI : PySem.W.typeIn K (.ref fI) = some (.type "function"))
    (lk : K.lookup fI = some ⟨oc, od, .func (PySem.W.fnOf "__init__" "NoBook.__init__" (defArgs si_NoBook) (defBody si_NoBook) (defScope si_NoBook) .none .none doc pm an cdv ct), osl⟩) (hcd : PySem.W.codeIn K cdv "NoBook.__init__" = true) (vV : PySem.W.findCls K (.type "LookupError") (.type "type") "__init__" = some (.val (.builtin "LookupError.__init__"))) (hbook : PySem.W.takerIn K e "book" = some none) : XClsK P w K mg base 2 "NoBook" ["book"] :=
  xclsK_mk hns hmg T iC tI lk hcd sci_NoBook (fun A outer s H E hg hr => init1 exN_Lookup T zs.LookupError_ vV hbook) spI_one (fun u ws kn idx hw ho => by rcases ho with ⟨rfl, rfl⟩ | ⟨rfl, rfl⟩ <;> (match ws, hw with | [_], _ => rfl))
theorem okc_NoTie (zs : Zs mg) {e fI : Addr} {doc pm cdv ct oc : Value} {an od : Option Addr} {osl : Array (Option Value)} (hns : PySem.W.nsIn K mainGlobals "NoTie" = some (some (.ref e))) (hmg : mg "NoTie" = some (.ref e)) (T : OwnX K e "LookupError" "LookupError.__new__" "LookupError.__init__" [.type "LookupError", .type "Exception", .type "BaseException", .type "object"]) (iC : PySem.W.findIn K (.ref e) "__init__" = some (some (.ref fI))) (tI : PySem.W.typeIn K (.ref fI) = some (.type "function"))
    (lk : K.lookup fI = some ⟨oc, od, .func (PySem.W.fnOf "__init__" "NoTie.__init__" (defArgs si_NoTie) (defBody si_NoTie) (defScope si_NoTie) .none .none doc pm an cdv ct), osl⟩) (hcd : PySem.W.codeIn K cdv "NoTie.__init__" = true) (vV : PySem.W.findCls K (.type "LookupError") (.type "type") "__init__" = some (.val (.builtin "LookupError.__init__"))) (hpair : PySem.W.takerIn K e "pair" = some none) : XCls P w K mg base 2 "NoTie" ["pair"] :=
  xcls_mk hns hmg T iC tI lk hcd sci_NoTie rfl (by decide) (fun A outer s H E hg hr => init1 exN_Lookup T zs.LookupError_ vV hpair) spI_one (fun us hu => match us, hu with | [_, _], _ => rfl)
theorem okcK_NoTie (zs : Zs mg) {e fI : Addr} {doc pm cdv ct oc : Value} {an od : Option Addr} {osl : Array (Option Value)} (hns : PySem.W.nsIn K mainGlobals "NoTie" = some (some (.ref e))) (hmg : mg "NoTie" = some (.ref e)) (T : OwnX K e "LookupError" "LookupError.__new__" "LookupError.__init__" [.type "LookupError", .type "Exception", .type "BaseException", .type "object"]) (iC : PySem.W.findIn K (.ref e) "__init__" = some (some (.ref fI))) (tI : PySem.W.typeIn K (.ref fI) = some (.type "function"))
    (lk : K.lookup fI = some ⟨oc, od, .func (PySem.W.fnOf "__init__" "NoTie.__init__" (defArgs si_NoTie) (defBody si_NoTie) (defScope si_NoTie) .none .none doc pm an cdv ct), osl⟩) (hcd : PySem.W.codeIn K cdv "NoTie.__init__" = true) (vV : PySem.W.findCls K (.type "LookupError") (.type "type") "__init__" = some (.val (.builtin "LookupError.__init__"))) (hpair : PySem.W.takerIn K e "pair" = some none) : XClsK P w K mg base 2 "NoTie" ["pair"] :=
  xclsK_mk hns hmg T iC tI lk hcd sci_NoTie (fun A outer s H E hg hr => init1 exN_Lookup T zs.LookupError_ vV hpair) spI_one (fun u ws kn idx hw ho => by rcases ho with ⟨rfl, rfl⟩ | ⟨rfl, rfl⟩ <;> (match ws, hw with | [_], _ => rfl))
theorem okc_NoPlace (zs : Zs mg) {e fI : Addr} {doc pm cdv ct oc : Value} {an od : Option Addr} {osl : Array (Option Value)} (hns : PySem.W.nsIn K mainGlobals "NoPlace" = some (some (.ref e))) (hmg : mg "NoPlace" = some (.ref e)) (T : OwnX K e "LookupError" "LookupError.__new__" "LookupError.__init__" [.type "LookupError", .type "Exception", .type "BaseException", .type "object"]) (iC : PySem.W.findIn K (.ref e) "__init__" = some (some (.ref fI))) (tI : PySem.W.typeIn K (.ref fI) = some (.type "function"))
    (lk : K.lookup fI = some ⟨oc, od, .func (PySem.W.fnOf "__init__" "NoPlace.__init__" (defArgs si_NoPlace) (defBody si_NoPlace) (defScope si_NoPlace) .none .none doc pm an cdv ct), osl⟩) (hcd : PySem.W.codeIn K cdv "NoPlace.__init__" = true) (vV : PySem.W.findCls K (.type "LookupError") (.type "type") "__init__" = some (.val (.builtin "LookupError.__init__"))) (hat : PySem.W.takerIn K e "at" = some none) : XCls P w K mg base 2 "NoPlace" ["at"] :=
  xcls_mk hns hmg T iC tI lk hcd sci_NoPlace rfl (by decide) (fun A outer s H E hg hr => init1 exN_Lookup T zs.LookupError_ vV hat) spI_one (fun us hu => match us, hu with | [_, _], _ => rfl)
theorem okcK_NoPlace (zs : Zs mg) {e fI : Addr} {doc pm cdv ct oc : Value} {an od : Option Addr} {osl : Array (Option Value)} (hns : PySem.W.nsIn K mainGlobals "NoPlace" = some (some (.ref e))) (hmg : mg "NoPlace" = some (.ref e)) (T : OwnX K e "LookupError" "LookupError.__new__" "LookupError.__init__" [.type "LookupError", .type "Exception", .type "BaseException", .type "object"]) (iC : PySem.W.findIn K (.ref e) "__init__" = some (some (.ref fI))) (tI : PySem.W.typeIn K (.ref fI) = some (.type "function"))
    (lk : K.lookup fI = some ⟨oc, od, .func (PySem.W.fnOf "__init__" "NoPlace.__init__" (defArgs si_NoPlace) (defBody si_NoPlace) (defScope si_NoPlace) .none .none doc pm an cdv ct), osl⟩) (hcd : PySem.W.codeIn K cdv "NoPlace.__init__" = true) (vV : PySem.W.findCls K (.type "LookupError") (.type "type") "__init__" = some (.val (.builtin "LookupError.__init__"))) (hat : PySem.W.takerIn K e "at" = some none) : XClsK P w K mg base 2 "NoPlace" ["at"] :=
  xclsK_mk hns hmg T iC tI lk hcd sci_NoPlace (fun A outer s H E hg hr => init1 exN_Lookup T zs.LookupError_ vV hat) spI_one (fun u ws kn idx hw ho => by rcases ho with ⟨rfl, rfl⟩ | ⟨rfl, rfl⟩ <;> (match ws, hw with | [_], _ => rfl))
theorem okc_NoDeed (zs : Zs mg) {e fI : Addr} {doc pm cdv ct oc : Value} {an od : Option Addr} {osl : Array (Option Value)} (hns : PySem.W.nsIn K mainGlobals "NoDeed" = some (some (.ref e))) (hmg : mg "NoDeed" = some (.ref e)) (T : OwnX K e "LookupError" "LookupError.__new__" "LookupError.__init__" [.type "LookupError", .type "Exception", .type "BaseException", .type "object"]) (iC : PySem.W.findIn K (.ref e) "__init__" = some (some (.ref fI))) (tI : PySem.W.typeIn K (.ref fI) = some (.type "function"))
    (lk : K.lookup fI = some ⟨oc, od, .func (PySem.W.fnOf "__init__" "NoDeed.__init__" (defArgs si_NoDeed) (defBody si_NoDeed) (defScope si_NoDeed) .none .none doc pm an cdv ct), osl⟩) (hcd : PySem.W.codeIn K cdv "NoDeed.__init__" = true) (vV : PySem.W.findCls K (.type "LookupError") (.type "type") "__init__" = some (.val (.builtin "LookupError.__init__"))) (hmany : PySem.W.takerIn K e "many" = some none) : XCls P w K mg base 2 "NoDeed" ["many"] :=
  xcls_mk hns hmg T iC tI lk hcd sci_NoDeed rfl (by decide) (fun A outer s H E hg hr => init1 exN_Lookup T zs.LookupError_ vV hmany) spI_one (fun us hu => match us, hu with | [_, _], _ => rfl)
theorem okcK_NoDeed (zs : Zs mg) {e fI : Addr} {doc pm cdv ct oc : Value} {an od : Option Addr} {osl : Array (Option Value)} (hns : PySem.W.nsIn K mainGlobals "NoDeed" = some (some (.ref e))) (hmg : mg "NoDeed" = some (.ref e)) (T : OwnX K e "LookupError" "LookupError.__new__" "LookupError.__init__" [.type "LookupError", .type "Exception", .type "BaseException", .type "object"]) (iC : PySem.W.findIn K (.ref e) "__init__" = some (some (.ref fI))) (tI : PySem.W.typeIn K (.ref fI) = some (.type "function"))
    (lk : K.lookup fI = some ⟨oc, od, .func (PySem.W.fnOf "__init__" "NoDeed.__init__" (defArgs si_NoDeed) (defBody si_NoDeed) (defScope si_NoDeed) .none .none doc pm an cdv ct), osl⟩) (hcd : PySem.W.codeIn K cdv "NoDeed.__init__" = true) (vV : PySem.W.findCls K (.type "LookupError") (.type "type") "__init__" = some (.val (.builtin "LookupError.__init__"))) (hmany : PySem.W.takerIn K e "many" = some none) : XClsK P w K mg base 2 "NoDeed" ["many"] :=
  xclsK_mk hns hmg T iC tI lk hcd sci_NoDeed (fun A outer s H E hg hr => init1 exN_Lookup T zs.LookupError_ vV hmany) spI_one (fun u ws kn idx hw ho => by rcases ho with ⟨rfl, rfl⟩ | ⟨rfl, rfl⟩ <;> (match ws, hw with | [_], _ => rfl))
theorem okc_MayNot (zs : Zs mg) {e fI : Addr} {doc pm cdv ct oc : Value} {an od : Option Addr} {osl : Array (Option Value)} (hns : PySem.W.nsIn K mainGlobals "MayNot" = some (some (.ref e))) (hmg : mg "MayNot" = some (.ref e)) (T : OwnX K e "RuntimeError" "RuntimeError.__new__" "RuntimeError.__init__" [.type "RuntimeError", .type "Exception", .type "BaseException", .type "object"]) (iC : PySem.W.findIn K (.ref e) "__init__" = some (some (.ref fI))) (tI : PySem.W.typeIn K (.ref fI) = some (.type "function"))
    (lk : K.lookup fI = some ⟨oc, od, .func (PySem.W.fnOf "__init__" "MayNot.__init__" (defArgs si_MayNot) (defBody si_MayNot) (defScope si_MayNot) .none .none doc pm an cdv ct), osl⟩) (hcd : PySem.W.codeIn K cdv "MayNot.__init__" = true) (vV : PySem.W.findCls K (.type "RuntimeError") (.type "type") "__init__" = some (.val (.builtin "RuntimeError.__init__"))) (hbook : PySem.W.takerIn K e "book" = some none) : XCls P w K mg base 2 "MayNot" ["book"] :=
  xcls_mk hns hmg T iC tI lk hcd sci_MayNot rfl (by decide) (fun A outer s H E hg hr => init1 exN_Runtime T zs.RuntimeError_ vV hbook) spI_one (fun us hu => match us, hu with | [_, _], _ => rfl)
theorem okcK_MayNot (zs : Zs mg) {e fI : Addr} {doc pm cdv ct oc : Value} {an od : Option Addr} {osl : Array (Option Value)} (hns : PySem.W.nsIn K mainGlobals "MayNot" = some (some (.ref e))) (hmg : mg "MayNot" = some (.ref e)) (T : OwnX K e "RuntimeError" "RuntimeError.__new__" "RuntimeError.__init__" [.type "RuntimeError", .type "Exception", .type "BaseException", .type "object"]) (iC : PySem.W.findIn K (.ref e) "__init__" = some (some (.ref fI))) (tI : PySem.W.typeIn K (.ref fI) = some (.type "function"))
    (lk : K.lookup fI = some ⟨oc, od, .func (PySem.W.fnOf "__init__" "MayNot.__init__" (defArgs si_MayNot) (defBody si_MayNot) (defScope si_MayNot) .none .none doc pm an cdv ct), osl⟩) (hcd : PySem.W.codeIn K cdv "MayNot.__init__" = true) (vV : PySem.W.findCls K (.type "RuntimeError") (.type "type") "__init__" = some (.val (.builtin "RuntimeError.__init__"))) (hbook : PySem.W.takerIn K e "book" = some none) : XClsK P w K mg base 2 "MayNot" ["book"] :=
  xclsK_mk hns hmg T iC tI lk hcd sci_MayNot (fun A outer s H E hg hr => init1 exN_Runtime T zs.RuntimeError_ vV hbook) spI_one (fun u ws kn idx hw ho => by rcases ho with ⟨rfl, rfl⟩ | ⟨rfl, rfl⟩ <;> (match ws, hw with | [_], _ => rfl))
theorem okc_Barred (zs : Zs mg) {e fI : Addr} {doc pm cdv ct oc : Value} {an od : Option Addr} {osl : Array (Option Value)} (hns : PySem.W.nsIn K mainGlobals "Barred" = some (some (.ref e))) (hmg : mg "Barred" = some (.ref e)) (T : OwnX K e "RuntimeError" "RuntimeError.__new__" "RuntimeError.__init__" [.type "RuntimeError", .type "Exception", .type "BaseException", .type "object"]) (iC : PySem.W.findIn K (.ref e) "__init__" = some (some (.ref fI))) (tI : PySem.W.typeIn K (.ref fI) = some (.type "function"))
    (lk : K.lookup fI = some ⟨oc, od, .func (PySem.W.fnOf "__init__" "Barred.__init__" (defArgs si_Barred) (defBody si_Barred) (defScope si_Barred) .none .none doc pm an cdv ct), osl⟩) (hcd : PySem.W.codeIn K cdv "Barred.__init__" = true) (vV : PySem.W.findCls K (.type "RuntimeError") (.type "type") "__init__" = some (.val (.builtin "RuntimeError.__init__"))) (hring : PySem.W.takerIn K e "ring" = some none) : XCls P w K mg base 2 "Barred" ["ring"] :=
  xcls_mk hns hmg T iC tI lk hcd sci_Barred rfl (by decide) (fun A outer s H E hg hr => init1 exN_Runtime T zs.RuntimeError_ vV hring) spI_one (fun us hu => match us, hu with | [_, _], _ => rfl)
theorem okcK_Barred (zs : Zs mg) {e fI : Addr} {doc pm cdv ct oc : Value} {an od : Option Addr} {osl : Array (Option Value)} (hns : PySem.W.nsIn K mainGlobals "Barred" = some (some (.ref e))) (hmg : mg "Barred" = some (.ref e)) (T : OwnX K e "RuntimeError" "RuntimeError.__new__" "RuntimeError.__init__" [.type "RuntimeError", .type "Exception", .type "BaseException", .type "object"]) (iC : PySem.W.findIn K (.ref e) "__init__" = some (some (.ref fI))) (tI : PySem.W.typeIn K (.ref fI) = some (.type "function"))
    (lk : K.lookup fI = some ⟨oc, od, .func (PySem.W.fnOf "__init__" "Barred.__init__" (defArgs si_Barred) (defBody si_Barred) (defScope si_Barred) .none .none doc pm an cdv ct), osl⟩) (hcd : PySem.W.codeIn K cdv "Barred.__init__" = true) (vV : PySem.W.findCls K (.type "RuntimeError") (.type "type") "__init__" = some (.val (.builtin "RuntimeError.__init__"))) (hring : PySem.W.takerIn K e "ring" = some none) : XClsK P w K mg base 2 "Barred" ["ring"] :=
  xclsK_mk hns hmg T iC tI lk hcd sci_Barred (fun A outer s H E hg hr => init1 exN_Runtime T zs.RuntimeError_ vV hring) spI_one (fun u ws kn idx hw ho => by rcases ho with ⟨rfl, rfl⟩ | ⟨rfl, rfl⟩ <;> (match ws, hw with | [_], _ => rfl))
theorem okc_Lost (zs : Zs mg) {e fI : Addr} {doc pm cdv ct oc : Value} {an od : Option Addr} {osl : Array (Option Value)} (hns : PySem.W.nsIn K mainGlobals "Lost" = some (some (.ref e))) (hmg : mg "Lost" = some (.ref e)) (T : OwnX K e "RuntimeError" "RuntimeError.__new__" "RuntimeError.__init__" [.type "RuntimeError", .type "Exception", .type "BaseException", .type "object"]) (iC : PySem.W.findIn K (.ref e) "__init__" = some (some (.ref fI))) (tI : PySem.W.typeIn K (.ref fI) = some (.type "function"))
    (lk : K.lookup fI = some ⟨oc, od, .func (PySem.W.fnOf "__init__" "Lost.__init__" (defArgs si_Lost) (defBody si_Lost) (defScope si_Lost) .none .none doc pm an cdv ct), osl⟩) (hcd : PySem.W.codeIn K cdv "Lost.__init__" = true) (vV : PySem.W.findCls K (.type "RuntimeError") (.type "type") "__init__" = some (.val (.builtin "RuntimeError.__init__"))) (hplace : PySem.W.takerIn K e "place" = some none) : XCls P w K mg base 2 "Lost" ["place"] :=
  xcls_mk hns hmg T iC tI lk hcd sci_Lost rfl (by decide) (fun A outer s H E hg hr => init1 exN_Runtime T zs.RuntimeError_ vV hplace) spI_one (fun us hu => match us, hu with | [_, _], _ => rfl)
theorem okcK_Lost (zs : Zs mg) {e fI : Addr} {doc pm cdv ct oc : Value} {an od : Option Addr} {osl : Array (Option Value)} (hns : PySem.W.nsIn K mainGlobals "Lost" = some (some (.ref e))) (hmg : mg "Lost" = some (.ref e)) (T : OwnX K e "RuntimeError" "RuntimeError.__new__" "RuntimeError.__init__" [.type "RuntimeError", .type "Exception", .type "BaseException", .type "object"]) (iC : PySem.W.findIn K (.ref e) "__init__" = some (some (.ref fI))) (tI : PySem.W.typeIn K (.ref fI) = some (.type "function"))
    (lk : K.lookup fI = some ⟨oc, od, .func (PySem.W.fnOf "__init__" "Lost.__init__" (defArgs si_Lost) (defBody si_Lost) (defScope si_Lost) .none .none doc pm an cdv ct), osl⟩) (hcd : PySem.W.codeIn K cdv "Lost.__init__" = true) (vV : PySem.W.findCls K (.type "RuntimeError") (.type "type") "__init__" = some (.val (.builtin "RuntimeError.__init__"))) (hplace : PySem.W.takerIn K e "place" = some none) : XClsK P w K mg base 2 "Lost" ["place"] :=
  xclsK_mk hns hmg T iC tI lk hcd sci_Lost (fun A outer s H E hg hr => init1 exN_Runtime T zs.RuntimeError_ vV hplace) spI_one (fun u ws kn idx hw ho => by rcases ho with ⟨rfl, rfl⟩ | ⟨rfl, rfl⟩ <;> (match ws, hw with | [_], _ => rfl))
theorem okc_Gap (zs : Zs mg) {e fI : Addr} {doc pm cdv ct oc : Value} {an od : Option Addr} {osl : Array (Option Value)} (hns : PySem.W.nsIn K mainGlobals "Gap" = some (some (.ref e))) (hmg : mg "Gap" = some (.ref e)) (T : OwnX K e "RuntimeError" "RuntimeError.__new__" "RuntimeError.__init__" [.type "RuntimeError", .type "Exception", .type "BaseException", .type "object"]) (iC : PySem.W.findIn K (.ref e) "__init__" = some (some (.ref fI))) (tI : PySem.W.typeIn K (.ref fI) = some (.type "function"))
    (lk : K.lookup fI = some ⟨oc, od, .func (PySem.W.fnOf "__init__" "Gap.__init__" (defArgs si_Gap) (defBody si_Gap) (defScope si_Gap) .none .none doc pm an cdv ct), osl⟩) (hcd : PySem.W.codeIn K cdv "Gap.__init__" = true) (vV : PySem.W.findCls K (.type "RuntimeError") (.type "type") "__init__" = some (.val (.builtin "RuntimeError.__init__"))) (hplace : PySem.W.takerIn K e "place" = some none) (hring : PySem.W.takerIn K e "ring" = some none) : XCls P w K mg base 2 "Gap" ["place", "ring"] :=
  xcls_mk hns hmg T iC tI lk hcd sci_Gap rfl (by decide) (fun A outer s H E hg hr => init2 exN_Runtime T zs.RuntimeError_ vV hplace hring) spI_two (fun us hu => match us, hu with | [_, _, _], _ => rfl)
theorem okcK_Gap (zs : Zs mg) {e fI : Addr} {doc pm cdv ct oc : Value} {an od : Option Addr} {osl : Array (Option Value)} (hns : PySem.W.nsIn K mainGlobals "Gap" = some (some (.ref e))) (hmg : mg "Gap" = some (.ref e)) (T : OwnX K e "RuntimeError" "RuntimeError.__new__" "RuntimeError.__init__" [.type "RuntimeError", .type "Exception", .type "BaseException", .type "object"]) (iC : PySem.W.findIn K (.ref e) "__init__" = some (some (.ref fI))) (tI : PySem.W.typeIn K (.ref fI) = some (.type "function"))
    (lk : K.lookup fI = some ⟨oc, od, .func (PySem.W.fnOf "__init__" "Gap.__init__" (defArgs si_Gap) (defBody si_Gap) (defScope si_Gap) .none .none doc pm an cdv ct), osl⟩) (hcd : PySem.W.codeIn K cdv "Gap.__init__" = true) (vV : PySem.W.findCls K (.type "RuntimeError") (.type "type") "__init__" = some (.val (.builtin "RuntimeError.__init__"))) (hplace : PySem.W.takerIn K e "place" = some none) (hring : PySem.W.takerIn K e "ring" = some none) : XClsK P w K mg base 2 "Gap" ["place", "ring"] :=
  xclsK_mk hns hmg T iC tI lk hcd sci_Gap (fun A outer s H E hg hr => init2 exN_Runtime T zs.RuntimeError_ vV hplace hring) spI_two (fun u ws kn idx hw ho => by rcases ho with ⟨rfl, rfl⟩ | ⟨rfl, rfl⟩ <;> (match ws, hw with | [_, _], _ => rfl))
theorem okc_Apart (zs : Zs mg) {e fI : Addr} {doc pm cdv ct oc : Value} {an od : Option Addr} {osl : Array (Option Value)} (hns : PySem.W.nsIn K mainGlobals "Apart" = some (some (.ref e))) (hmg : mg "Apart" = some (.ref e)) (T : OwnX K e "RuntimeError" "RuntimeError.__new__" "RuntimeError.__init__" [.type "RuntimeError", .type "Exception", .type "BaseException", .type "object"]) (iC : PySem.W.findIn K (.ref e) "__init__" = some (some (.ref fI))) (tI : PySem.W.typeIn K (.ref fI) = some (.type "function"))
    (lk : K.lookup fI = some ⟨oc, od, .func (PySem.W.fnOf "__init__" "Apart.__init__" (defArgs si_Apart) (defBody si_Apart) (defScope si_Apart) .none .none doc pm an cdv ct), osl⟩) (hcd : PySem.W.codeIn K cdv "Apart.__init__" = true) (vV : PySem.W.findCls K (.type "RuntimeError") (.type "type") "__init__" = some (.val (.builtin "RuntimeError.__init__"))) (hone : PySem.W.takerIn K e "one" = some none) (hother : PySem.W.takerIn K e "other" = some none) : XCls P w K mg base 2 "Apart" ["one", "other"] :=
  xcls_mk hns hmg T iC tI lk hcd sci_Apart rfl (by decide) (fun A outer s H E hg hr => init2 exN_Runtime T zs.RuntimeError_ vV hone hother) spI_two (fun us hu => match us, hu with | [_, _, _], _ => rfl)
theorem okcK_Apart (zs : Zs mg) {e fI : Addr} {doc pm cdv ct oc : Value} {an od : Option Addr} {osl : Array (Option Value)} (hns : PySem.W.nsIn K mainGlobals "Apart" = some (some (.ref e))) (hmg : mg "Apart" = some (.ref e)) (T : OwnX K e "RuntimeError" "RuntimeError.__new__" "RuntimeError.__init__" [.type "RuntimeError", .type "Exception", .type "BaseException", .type "object"]) (iC : PySem.W.findIn K (.ref e) "__init__" = some (some (.ref fI))) (tI : PySem.W.typeIn K (.ref fI) = some (.type "function"))
    (lk : K.lookup fI = some ⟨oc, od, .func (PySem.W.fnOf "__init__" "Apart.__init__" (defArgs si_Apart) (defBody si_Apart) (defScope si_Apart) .none .none doc pm an cdv ct), osl⟩) (hcd : PySem.W.codeIn K cdv "Apart.__init__" = true) (vV : PySem.W.findCls K (.type "RuntimeError") (.type "type") "__init__" = some (.val (.builtin "RuntimeError.__init__"))) (hone : PySem.W.takerIn K e "one" = some none) (hother : PySem.W.takerIn K e "other" = some none) : XClsK P w K mg base 2 "Apart" ["one", "other"] :=
  xclsK_mk hns hmg T iC tI lk hcd sci_Apart (fun A outer s H E hg hr => init2 exN_Runtime T zs.RuntimeError_ vV hone hother) spI_two (fun u ws kn idx hw ho => by rcases ho with ⟨rfl, rfl⟩ | ⟨rfl, rfl⟩ <;> (match ws, hw with | [_, _], _ => rfl))
theorem okc_Stopped (zs : Zs mg) {e fI : Addr} {doc pm cdv ct oc : Value} {an od : Option Addr} {osl : Array (Option Value)} (hns : PySem.W.nsIn K mainGlobals "Stopped" = some (some (.ref e))) (hmg : mg "Stopped" = some (.ref e)) (T : OwnX K e "RuntimeError" "RuntimeError.__new__" "RuntimeError.__init__" [.type "RuntimeError", .type "Exception", .type "BaseException", .type "object"]) (iC : PySem.W.findIn K (.ref e) "__init__" = some (some (.ref fI))) (tI : PySem.W.typeIn K (.ref fI) = some (.type "function"))
    (lk : K.lookup fI = some ⟨oc, od, .func (PySem.W.fnOf "__init__" "Stopped.__init__" (defArgs si_Stopped) (defBody si_Stopped) (defScope si_Stopped) .none .none doc pm an cdv ct), osl⟩) (hcd : PySem.W.codeIn K cdv "Stopped.__init__" = true) (vV : PySem.W.findCls K (.type "RuntimeError") (.type "type") "__init__" = some (.val (.builtin "RuntimeError.__init__"))) (hnumber : PySem.W.takerIn K e "number" = some none) : XCls P w K mg base 2 "Stopped" ["number"] :=
  xcls_mk hns hmg T iC tI lk hcd sci_Stopped rfl (by decide) (fun A outer s H E hg hr => init1 exN_Runtime T zs.RuntimeError_ vV hnumber) spI_one (fun us hu => match us, hu with | [_, _], _ => rfl)
theorem okcK_Stopped (zs : Zs mg) {e fI : Addr} {doc pm cdv ct oc : Value} {an od : Option Addr} {osl : Array (Option Value)} (hns : PySem.W.nsIn K mainGlobals "Stopped" = some (some (.ref e))) (hmg : mg "Stopped" = some (.ref e)) (T : OwnX K e "RuntimeError" "RuntimeError.__new__" "RuntimeError.__init__" [.type "RuntimeError", .type "Exception", .type "BaseException", .type "object"]) (iC : PySem.W.findIn K (.ref e) "__init__" = some (some (.ref fI))) (tI : PySem.W.typeIn K (.ref fI) = some (.type "function"))
    (lk : K.lookup fI = some ⟨oc, od, .func (PySem.W.fnOf "__init__" "Stopped.__init__" (defArgs si_Stopped) (defBody si_Stopped) (defScope si_Stopped) .none .none doc pm an cdv ct), osl⟩) (hcd : PySem.W.codeIn K cdv "Stopped.__init__" = true) (vV : PySem.W.findCls K (.type "RuntimeError") (.type "type") "__init__" = some (.val (.builtin "RuntimeError.__init__"))) (hnumber : PySem.W.takerIn K e "number" = some none) : XClsK P w K mg base 2 "Stopped" ["number"] :=
  xclsK_mk hns hmg T iC tI lk hcd sci_Stopped (fun A outer s H E hg hr => init1 exN_Runtime T zs.RuntimeError_ vV hnumber) spI_one (fun u ws kn idx hw ho => by rcases ho with ⟨rfl, rfl⟩ | ⟨rfl, rfl⟩ <;> (match ws, hw with | [_], _ => rfl))
theorem okc_Shared (zs : Zs mg) {e fI : Addr} {doc pm cdv ct oc : Value} {an od : Option Addr} {osl : Array (Option Value)} (hns : PySem.W.nsIn K mainGlobals "Shared" = some (some (.ref e))) (hmg : mg "Shared" = some (.ref e)) (T : OwnX K e "RuntimeError" "RuntimeError.__new__" "RuntimeError.__init__" [.type "RuntimeError", .type "Exception", .type "BaseException", .type "object"]) (iC : PySem.W.findIn K (.ref e) "__init__" = some (some (.ref fI))) (tI : PySem.W.typeIn K (.ref fI) = some (.type "function"))
    (lk : K.lookup fI = some ⟨oc, od, .func (PySem.W.fnOf "__init__" "Shared.__init__" (defArgs si_Shared) (defBody si_Shared) (defScope si_Shared) .none .none doc pm an cdv ct), osl⟩) (hcd : PySem.W.codeIn K cdv "Shared.__init__" = true) (vV : PySem.W.findCls K (.type "RuntimeError") (.type "type") "__init__" = some (.val (.builtin "RuntimeError.__init__"))) (hbook : PySem.W.takerIn K e "book" = some none) : XCls P w K mg base 2 "Shared" ["book"] :=
  xcls_mk hns hmg T iC tI lk hcd sci_Shared rfl (by decide) (fun A outer s H E hg hr => init1 exN_Runtime T zs.RuntimeError_ vV hbook) spI_one (fun us hu => match us, hu with | [_, _], _ => rfl)
theorem okcK_Shared (zs : Zs mg) {e fI : Addr} {doc pm cdv ct oc : Value} {an od : Option Addr} {osl : Array (Option Value)} (hns : PySem.W.nsIn K mainGlobals "Shared" = some (some (.ref e))) (hmg : mg "Shared" = some (.ref e)) (T : OwnX K e "RuntimeError" "RuntimeError.__new__" "RuntimeError.__init__" [.type "RuntimeError", .type "Exception", .type "BaseException", .type "object"]) (iC : PySem.W.findIn K (.ref e) "__init__" = some (some (.ref fI))) (tI : PySem.W.typeIn K (.ref fI) = some (.type "function"))
    (lk : K.lookup fI = some ⟨oc, od, .func (PySem.W.fnOf "__init__" "Shared.__init__" (defArgs si_Shared) (defBody si_Shared) (defScope si_Shared) .none .none doc pm an cdv ct), osl⟩) (hcd : PySem.W.codeIn K cdv "Shared.__init__" = true) (vV : PySem.W.findCls K (.type "RuntimeError") (.type "type") "__init__" = some (.val (.builtin "RuntimeError.__init__"))) (hbook : PySem.W.takerIn K e "book" = some none) : XClsK P w K mg base 2 "Shared" ["book"] :=
  xclsK_mk hns hmg T iC tI lk hcd sci_Shared (fun A outer s H E hg hr => init1 exN_Runtime T zs.RuntimeError_ vV hbook) spI_one (fun u ws kn idx hw ho => by rcases ho with ⟨rfl, rfl⟩ | ⟨rfl, rfl⟩ <;> (match ws, hw with | [_], _ => rfl))
theorem okc_Tied (zs : Zs mg) {e fI : Addr} {doc pm cdv ct oc : Value} {an od : Option Addr} {osl : Array (Option Value)} (hns : PySem.W.nsIn K mainGlobals "Tied" = some (some (.ref e))) (hmg : mg "Tied" = some (.ref e)) (T : OwnX K e "RuntimeError" "RuntimeError.__new__" "RuntimeError.__init__" [.type "RuntimeError", .type "Exception", .type "BaseException", .type "object"]) (iC : PySem.W.findIn K (.ref e) "__init__" = some (some (.ref fI))) (tI : PySem.W.typeIn K (.ref fI) = some (.type "function"))
    (lk : K.lookup fI = some ⟨oc, od, .func (PySem.W.fnOf "__init__" "Tied.__init__" (defArgs si_Tied) (defBody si_Tied) (defScope si_Tied) .none .none doc pm an cdv ct), osl⟩) (hcd : PySem.W.codeIn K cdv "Tied.__init__" = true) (vV : PySem.W.findCls K (.type "RuntimeError") (.type "type") "__init__" = some (.val (.builtin "RuntimeError.__init__"))) (hpair : PySem.W.takerIn K e "pair" = some none) : XCls P w K mg base 2 "Tied" ["pair"] :=
  xcls_mk hns hmg T iC tI lk hcd sci_Tied rfl (by decide) (fun A outer s H E hg hr => init1 exN_Runtime T zs.RuntimeError_ vV hpair) spI_one (fun us hu => match us, hu with | [_, _], _ => rfl)
theorem okcK_Tied (zs : Zs mg) {e fI : Addr} {doc pm cdv ct oc : Value} {an od : Option Addr} {osl : Array (Option Value)} (hns : PySem.W.nsIn K mainGlobals "Tied" = some (some (.ref e))) (hmg : mg "Tied" = some (.ref e)) (T : OwnX K e "RuntimeError" "RuntimeError.__new__" "RuntimeError.__init__" [.type "RuntimeError", .type "Exception", .type "BaseException", .type "object"]) (iC : PySem.W.findIn K (.ref e) "__init__" = some (some (.ref fI))) (tI : PySem.W.typeIn K (.ref fI) = some (.type "function"))
    (lk : K.lookup fI = some ⟨oc, od, .func (PySem.W.fnOf "__init__" "Tied.__init__" (defArgs si_Tied) (defBody si_Tied) (defScope si_Tied) .none .none doc pm an cdv ct), osl⟩) (hcd : PySem.W.codeIn K cdv "Tied.__init__" = true) (vV : PySem.W.findCls K (.type "RuntimeError") (.type "type") "__init__" = some (.val (.builtin "RuntimeError.__init__"))) (hpair : PySem.W.takerIn K e "pair" = some none) : XClsK P w K mg base 2 "Tied" ["pair"] :=
  xclsK_mk hns hmg T iC tI lk hcd sci_Tied (fun A outer s H E hg hr => init1 exN_Runtime T zs.RuntimeError_ vV hpair) spI_one (fun u ws kn idx hw ho => by rcases ho with ⟨rfl, rfl⟩ | ⟨rfl, rfl⟩ <;> (match ws, hw with | [_], _ => rfl))
theorem okc_Taken (zs : Zs mg) {e fI : Addr} {doc pm cdv ct oc : Value} {an od : Option Addr} {osl : Array (Option Value)} (hns : PySem.W.nsIn K mainGlobals "Taken" = some (some (.ref e))) (hmg : mg "Taken" = some (.ref e)) (T : OwnX K e "RuntimeError" "RuntimeError.__new__" "RuntimeError.__init__" [.type "RuntimeError", .type "Exception", .type "BaseException", .type "object"]) (iC : PySem.W.findIn K (.ref e) "__init__" = some (some (.ref fI))) (tI : PySem.W.typeIn K (.ref fI) = some (.type "function"))
    (lk : K.lookup fI = some ⟨oc, od, .func (PySem.W.fnOf "__init__" "Taken.__init__" (defArgs si_Taken) (defBody si_Taken) (defScope si_Taken) .none .none doc pm an cdv ct), osl⟩) (hcd : PySem.W.codeIn K cdv "Taken.__init__" = true) (vV : PySem.W.findCls K (.type "RuntimeError") (.type "type") "__init__" = some (.val (.builtin "RuntimeError.__init__"))) (hbook : PySem.W.takerIn K e "book" = some none) : XCls P w K mg base 2 "Taken" ["book"] :=
  xcls_mk hns hmg T iC tI lk hcd sci_Taken rfl (by decide) (fun A outer s H E hg hr => init1 exN_Runtime T zs.RuntimeError_ vV hbook) spI_one (fun us hu => match us, hu with | [_, _], _ => rfl)
theorem okcK_Taken (zs : Zs mg) {e fI : Addr} {doc pm cdv ct oc : Value} {an od : Option Addr} {osl : Array (Option Value)} (hns : PySem.W.nsIn K mainGlobals "Taken" = some (some (.ref e))) (hmg : mg "Taken" = some (.ref e)) (T : OwnX K e "RuntimeError" "RuntimeError.__new__" "RuntimeError.__init__" [.type "RuntimeError", .type "Exception", .type "BaseException", .type "object"]) (iC : PySem.W.findIn K (.ref e) "__init__" = some (some (.ref fI))) (tI : PySem.W.typeIn K (.ref fI) = some (.type "function"))
    (lk : K.lookup fI = some ⟨oc, od, .func (PySem.W.fnOf "__init__" "Taken.__init__" (defArgs si_Taken) (defBody si_Taken) (defScope si_Taken) .none .none doc pm an cdv ct), osl⟩) (hcd : PySem.W.codeIn K cdv "Taken.__init__" = true) (vV : PySem.W.findCls K (.type "RuntimeError") (.type "type") "__init__" = some (.val (.builtin "RuntimeError.__init__"))) (hbook : PySem.W.takerIn K e "book" = some none) : XClsK P w K mg base 2 "Taken" ["book"] :=
  xclsK_mk hns hmg T iC tI lk hcd sci_Taken (fun A outer s H E hg hr => init1 exN_Runtime T zs.RuntimeError_ vV hbook) spI_one (fun u ws kn idx hw ho => by rcases ho with ⟨rfl, rfl⟩ | ⟨rfl, rfl⟩ <;> (match ws, hw with | [_], _ => rfl))
theorem okc_TooMany (zs : Zs mg) {e fI : Addr} {doc pm cdv ct oc : Value} {an od : Option Addr} {osl : Array (Option Value)} (hns : PySem.W.nsIn K mainGlobals "TooMany" = some (some (.ref e))) (hmg : mg "TooMany" = some (.ref e)) (T : OwnX K e "OverflowError" "OverflowError.__new__" "OverflowError.__init__" [.type "OverflowError", .type "ArithmeticError", .type "Exception", .type "BaseException", .type "object"]) (iC : PySem.W.findIn K (.ref e) "__init__" = some (some (.ref fI))) (tI : PySem.W.typeIn K (.ref fI) = some (.type "function"))
    (lk : K.lookup fI = some ⟨oc, od, .func (PySem.W.fnOf "__init__" "TooMany.__init__" (defArgs si_TooMany) (defBody si_TooMany) (defScope si_TooMany) .none .none doc pm an cdv ct), osl⟩) (hcd : PySem.W.codeIn K cdv "TooMany.__init__" = true) (vV : PySem.W.findCls K (.type "OverflowError") (.type "type") "__init__" = some (.val (.builtin "OverflowError.__init__"))) (hmany : PySem.W.takerIn K e "many" = some none) : XCls P w K mg base 2 "TooMany" ["many"] :=
  xcls_mk hns hmg T iC tI lk hcd sci_TooMany rfl (by decide) (fun A outer s H E hg hr => init1 exN_Overflow T zs.OverflowError_ vV hmany) spI_one (fun us hu => match us, hu with | [_, _], _ => rfl)
theorem okcK_TooMany (zs : Zs mg) {e fI : Addr} {doc pm cdv ct oc : Value} {an od : Option Addr} {osl : Array (Option Value)} (hns : PySem.W.nsIn K mainGlobals "TooMany" = some (some (.ref e))) (hmg : mg "TooMany" = some (.ref e)) (T : OwnX K e "OverflowError" "OverflowError.__new__" "OverflowError.__init__" [.type "OverflowError", .type "ArithmeticError", .type "Exception", .type "BaseException", .type "object"]) (iC : PySem.W.findIn K (.ref e) "__init__" = some (some (.ref fI))) (tI : PySem.W.typeIn K (.ref fI) = some (.type "function"))
    (lk : K.lookup fI = some ⟨oc, od, .func (PySem.W.fnOf "__init__" "TooMany.__init__" (defArgs si_TooMany) (defBody si_TooMany) (defScope si_TooMany) .none .none doc pm an cdv ct), osl⟩) (hcd : PySem.W.codeIn K cdv "TooMany.__init__" = true) (vV : PySem.W.findCls K (.type "OverflowError") (.type "type") "__init__" = some (.val (.builtin "OverflowError.__init__"))) (hmany : PySem.W.takerIn K e "many" = some none) : XClsK P w K mg base 2 "TooMany" ["many"] :=
  xclsK_mk hns hmg T iC tI lk hcd sci_TooMany (fun A outer s H E hg hr => init1 exN_Overflow T zs.OverflowError_ vV hmany) spI_one (fun u ws kn idx hw ho => by rcases ho with ⟨rfl, rfl⟩ | ⟨rfl, rfl⟩ <;> (match ws, hw with | [_], _ => rfl))
theorem okc_Full (zs : Zs mg) {e fI : Addr} {doc pm cdv ct oc : Value} {an od : Option Addr} {osl : Array (Option Value)} (hns : PySem.W.nsIn K mainGlobals "Full" = some (some (.ref e))) (hmg : mg "Full" = some (.ref e)) (T : OwnX K e "OverflowError" "OverflowError.__new__" "OverflowError.__init__" [.type "OverflowError", .type "ArithmeticError", .type "Exception", .type "BaseException", .type "object"]) (iC : PySem.W.findIn K (.ref e) "__init__" = some (some (.ref fI))) (tI : PySem.W.typeIn K (.ref fI) = some (.type "function"))
    (lk : K.lookup fI = some ⟨oc, od, .func (PySem.W.fnOf "__init__" "Full.__init__" (defArgs si_Full) (defBody si_Full) (defScope si_Full) .none .none doc pm an cdv ct), osl⟩) (hcd : PySem.W.codeIn K cdv "Full.__init__" = true) (vV : PySem.W.findCls K (.type "OverflowError") (.type "type") "__init__" = some (.val (.builtin "OverflowError.__init__"))) (hmany : PySem.W.takerIn K e "many" = some none) : XCls P w K mg base 2 "Full" ["many"] :=
  xcls_mk hns hmg T iC tI lk hcd sci_Full rfl (by decide) (fun A outer s H E hg hr => init1 exN_Overflow T zs.OverflowError_ vV hmany) spI_one (fun us hu => match us, hu with | [_, _], _ => rfl)
theorem okcK_Full (zs : Zs mg) {e fI : Addr} {doc pm cdv ct oc : Value} {an od : Option Addr} {osl : Array (Option Value)} (hns : PySem.W.nsIn K mainGlobals "Full" = some (some (.ref e))) (hmg : mg "Full" = some (.ref e)) (T : OwnX K e "OverflowError" "OverflowError.__new__" "OverflowError.__init__" [.type "OverflowError", .type "ArithmeticError", .type "Exception", .type "BaseException", .type "object"]) (iC : PySem.W.findIn K (.ref e) "__init__" = some (some (.ref fI))) (tI : PySem.W.typeIn K (.ref fI) = some (.type "function"))
    (lk : K.lookup fI = some ⟨oc, od, .func (PySem.W.fnOf "__init__" "Full.__init__" (defArgs si_Full) (defBody si_Full) (defScope si_Full) .none .none doc pm an cdv ct), osl⟩) (hcd : PySem.W.codeIn K cdv "Full.__init__" = true) (vV : PySem.W.findCls K (.type "OverflowError") (.type "type") "__init__" = some (.val (.builtin "OverflowError.__init__"))) (hmany : PySem.W.takerIn K e "many" = some none) : XClsK P w K mg base 2 "Full" ["many"] :=
  xclsK_mk hns hmg T iC tI lk hcd sci_Full (fun A outer s H E hg hr => init1 exN_Overflow T zs.OverflowError_ vV hmany) spI_one (fun u ws kn idx hw ho => by rcases ho with ⟨rfl, rfl⟩ | ⟨rfl, rfl⟩ <;> (match ws, hw with | [_], _ => rfl))
theorem ok_box (zs : Zs mg) (S : Std K mg "_law_box" s_box) {e0 e1 e2 e3 e4 e5 e6 e7 e8 e9 e10 e11 e12 e13 e14 e15 e16 e17 e18 e19 e20 : Addr} (xs : Xs K mg e0 e1 e2 e3 e4 e5 e6 e7 e8 e9 e10 e11 e12 e13 e14 e15 e16 e17 e18 e19 e20)  : Cal P w K mg base 1 "_law_box" s_box g_box ["_law_script", "_law_k"] := by
  refine Cal.of (k := 0) 1 S sc_box rfl fun f cdv A outer s H E hg hr => ?_
  have nd : N_box.Nodup := sc_box.nd
  exact (ds_cons (stSet 2 nd de_int)
    (ds_cons (ds_if (tLt (nB 1) (de_look (bLen zs.len_ (aM (nB 0) da_nilM))))
    (ds_one (stSet 2 nd (de_sh (xIx (nI 0) (nB 1)))))
    ds_nil)
    (ds_one (ds_ret (xBox (aV (xMul (de_inn (bAbs zs.abs_ (aM (nB 2) da_nilM))) (de_look (bInt zs.int_ (aM (de_look (xGe (de_look (bAbs zs.abs_ (aM (nB 2) da_nilM))) (de_look (xPow (de_s1 de_int) (de_s1 de_int))))) da_nilM)))) (aV (xAdd (de_inn (xAdd (de_inn (xMod (nB 2) (de_s1 de_int))) (de_inn (xMul (de_s1 de_int) (nB 1))))) (de_s1 de_int)) (aV (de_sv de_int) da_nil))))))))
theorem ok_take (zs : Zs mg) (S : Std K mg "_law_take" s_take) {e0 e1 e2 e3 e4 e5 e6 e7 e8 e9 e10 e11 e12 e13 e14 e15 e16 e17 e18 e19 e20 : Addr} (xs : Xs K mg e0 e1 e2 e3 e4 e5 e6 e7 e8 e9 e10 e11 e12 e13 e14 e15 e16 e17 e18 e19 e20)  : Cal P w K mg base 1 "_law_take" s_take g_take ["_law_box_here", "_law_bound"] := by
  refine Cal.of (k := 0) 2 S sc_take rfl fun f cdv A outer s H E hg hr => ?_
  have nd : N_take.Nodup := sc_take.nd
  exact (ds_cons (ds_if (tGt (de_look (xIx (nI 0) (de_s1 de_int))) (de_s1 de_int))
    (ds_cons (stSet 2 nd (de_sh (xMod (de_look (xIx (nI 0) (de_s1 de_int))) (nB 1))))
    (ds_cons (stBset 0 (de_s1 de_int) (de_look (xFdiv (de_look (xIx (nI 0) (de_s1 de_int))) (nB 1))))
    (ds_one (stRetV 2))))
    ds_nil)
    (ds_cons (stBset 0 (de_s1 de_int) (de_look (xAdd (de_inn (xIx (nI 0) (de_s1 de_int))) (de_s1 de_int))))
    (ds_cons (stSet 3 nd (de_sh (xMod (de_look (xPow (de_look (xAdd (de_inn (xIx (nI 0) (de_s1 de_int))) (de_inn (xMul (de_s1 de_int) (de_look (xIx (nI 0) (de_s1 de_int))))))) (de_s1 de_int))) (de_s1 de_int))))
    (ds_one (ds_ret (xMod (de_look (xFdiv (de_look (xMod (de_look (xAdd (de_inn (xMul (nI 3) (de_look (xAdd (de_inn (xMod (nB 3) (de_s1 de_int))) (de_s1 de_int))))) (de_inn (xMul (de_inn (xIx (nI 0) (de_s1 de_int))) (de_s1 de_int))))) (de_s1 de_int))) (de_s1 de_int))) (nB 1)))))))
theorem ok_pick (zs : Zs mg) (S : Std K mg "_law_pick" s_pick) {e0 e1 e2 e3 e4 e5 e6 e7 e8 e9 e10 e11 e12 e13 e14 e15 e16 e17 e18 e19 e20 : Addr} (xs : Xs K mg e0 e1 e2 e3 e4 e5 e6 e7 e8 e9 e10 e11 e12 e13 e14 e15 e16 e17 e18 e19 e20) (c_take : Cal P w K mg base 1 "_law_take" s_take g_take ["_law_box_here", "_law_bound"]) : Cal P w K mg base 2 "_law_pick" s_pick g_pick ["_law_box_here", "_law_some"] := by
  refine Cal.of (k := 1) 0 S sc_pick rfl fun f cdv A outer s H E hg hr => ?_
  have nd : N_pick.Nodup := sc_pick.nd
  exact (ds_one (ds_ret (xIx (nI 1) (de_look (callF c_take hg (hr.mono (by omega)) (aS (nS 0) (aS (de_sh (bLen zs.len_ (aM (nB 1) da_nilM))) da_nilS)) (fun _ _ _ _ _ _ us hl => match us, hl with | [_, _], _ => rfl))))))
theorem ok_same (zs : Zs mg) (S : Std K mg "_law_same" s_same) {e0 e1 e2 e3 e4 e5 e6 e7 e8 e9 e10 e11 e12 e13 e14 e15 e16 e17 e18 e19 e20 : Addr} (xs : Xs K mg e0 e1 e2 e3 e4 e5 e6 e7 e8 e9 e10 e11 e12 e13 e14 e15 e16 e17 e18 e19 e20)  : ∀ m, Cal P w K mg base (0 + m) "_law_same" s_same (g_same m) ["_law_found", "_law_due"]
  | 0 => .zero S
  | m + 1 => by
    have ih := ok_same zs S xs  m
    refine Cal.of (k := 0 + m) 2 S sc_same rfl fun f cdv A outer s H E hg hr => ?_
    have nd : N_same.Nodup := sc_same.nd
    exact (ds_cons (ds_if (tVal (bIsi2 .tlist .ttuple zs.isinstance_ zs.list_ zs.tuple_ (nB 1)))
    (ds_cons (ds_if (PW.pt (tOr (tNe hr (de_look (bIsi .tlist zs.isinstance_ zs.list_ (nB 0))) (de_look (bIsi .tlist zs.isinstance_ zs.list_ (nB 1)))) (dw_or1 (tNe hr (de_look (bIsi .ttuple zs.isinstance_ zs.tuple_ (nB 0))) (de_look (bIsi .ttuple zs.isinstance_ zs.tuple_ (nB 1)))))))
    (ds_one (ds_ret (de_sv de_bl)))
    ds_nil)
    (ds_one (ds_ret (de_and (xEq hr (de_look (bLen zs.len_ (aM (nB 0) da_nilM))) (de_look (bLen zs.len_ (aM (nB 1) da_nilM)))) (de_one (bAll rfl zs.all_ (aM (de_look (xLc [("_law_mine", 2), ("_law_its", 3)] (.two 2 3) rfl nd (wZip zs.zip_ (aS (nS 0) (aS (nS 1) da_nilS))) (blkOk_by (N := N_same) (sc := defScope s_same) (own := [("_law_mine", 2), ("_law_its", 3)]) (by decide +kernel)) (fun _ _ _ _ _ => (g2 2 3 rfl nd)) (fun _ _ _ _ _ => dts_nil) (fun _ _ _ _ _ => (callF ih hg hr (aS (nS 2) (aS (nS 3) da_nilS)) (fun _ _ _ _ _ _ us hl => match us, hl with | [_, _], _ => rfl))))) da_nilM)))))))
    ds_nil)
    (ds_cons (ds_if (PW.pt (tOr (tIs (nB 1) (de_s1 de_non)) (dw_or1 (tVal (bIsi2 .tbool .tstr zs.isinstance_ zs.bool_ zs.str_ (nB 1))))))
    (ds_one (ds_ret (de_and (xEq hr (nB 0) (nB 1)) (de_and (xEq hr (de_look (bIsi .tbool zs.isinstance_ zs.bool_ (nB 0))) (de_look (bIsi .tbool zs.isinstance_ zs.bool_ (nB 1)))) (de_one (xEq hr (de_look (xIs (nB 0) (de_s1 de_non))) (de_look (xIs (nB 1) (de_s1 de_non)))))))))
    ds_nil)
    (ds_one (ds_ret (de_and (bIsi .tint zs.isinstance_ zs.int_ (nB 0)) (de_and (de_not (bIsi .tbool zs.isinstance_ zs.bool_ (nB 0))) (de_one (xEq hr (nB 0) (nB 1)))))))))
theorem ok_all (zs : Zs mg) (S : Std K mg "_law_all" s_all) {e0 e1 e2 e3 e4 e5 e6 e7 e8 e9 e10 e11 e12 e13 e14 e15 e16 e17 e18 e19 e20 : Addr} (xs : Xs K mg e0 e1 e2 e3 e4 e5 e6 e7 e8 e9 e10 e11 e12 e13 e14 e15 e16 e17 e18 e19 e20)  (k_Unlike : XCls0 P w K mg base "Unlike") (k_BadText : XCls P w K mg base 2 "BadText" ["text"]) (kK_BadText : XClsK P w K mg base 2 "BadText" ["text"]) (k_BadRow : XCls P w K mg base 2 "BadRow" ["number"]) (kK_BadRow : XClsK P w K mg base 2 "BadRow" ["number"]) (k_Own : XCls P w K mg base 2 "Own" ["book"]) (kK_Own : XClsK P w K mg base 2 "Own" ["book"]) (k_NoName : XCls P w K mg base 2 "NoName" ["book"]) (kK_NoName : XClsK P w K mg base 2 "NoName" ["book"]) (k_NoBook : XCls P w K mg base 2 "NoBook" ["book"]) (kK_NoBook : XClsK P w K mg base 2 "NoBook" ["book"]) (k_NoTie : XCls P w K mg base 2 "NoTie" ["pair"]) (kK_NoTie : XClsK P w K mg base 2 "NoTie" ["pair"]) (k_NoPlace : XCls P w K mg base 2 "NoPlace" ["at"]) (kK_NoPlace : XClsK P w K mg base 2 "NoPlace" ["at"]) (k_NoDeed : XCls P w K mg base 2 "NoDeed" ["many"]) (kK_NoDeed : XClsK P w K mg base 2 "NoDeed" ["many"]) (k_MayNot : XCls P w K mg base 2 "MayNot" ["book"]) (kK_MayNot : XClsK P w K mg base 2 "MayNot" ["book"]) (k_Barred : XCls P w K mg base 2 "Barred" ["ring"]) (kK_Barred : XClsK P w K mg base 2 "Barred" ["ring"]) (k_Lost : XCls P w K mg base 2 "Lost" ["place"]) (kK_Lost : XClsK P w K mg base 2 "Lost" ["place"]) (k_Gap : XCls P w K mg base 2 "Gap" ["place", "ring"]) (kK_Gap : XClsK P w K mg base 2 "Gap" ["place", "ring"]) (k_Apart : XCls P w K mg base 2 "Apart" ["one", "other"]) (kK_Apart : XClsK P w K mg base 2 "Apart" ["one", "other"]) (k_Stopped : XCls P w K mg base 2 "Stopped" ["number"]) (kK_Stopped : XClsK P w K mg base 2 "Stopped" ["number"]) (k_Shared : XCls P w K mg base 2 "Shared" ["book"]) (kK_Shared : XClsK P w K mg base 2 "Shared" ["book"]) (k_Tied : XCls P w K mg base 2 "Tied" ["pair"]) (kK_Tied : XClsK P w K mg base 2 "Tied" ["pair"]) (k_Taken : XCls P w K mg base 2 "Taken" ["book"]) (kK_Taken : XClsK P w K mg base 2 "Taken" ["book"]) (k_Last : XCls0 P w K mg base "Last") (k_TooMany : XCls P w K mg base 2 "TooMany" ["many"]) (kK_TooMany : XClsK P w K mg base 2 "TooMany" ["many"]) (k_Full : XCls P w K mg base 2 "Full" ["many"]) (kK_Full : XClsK P w K mg base 2 "Full" ["many"]) : Cal P w K mg base 3 "_law_all" s_all g_all ["_law_mine", "_law_its"] := by
  refine Cal.of (k := 2) 1 S sc_all rfl fun f cdv A outer s H E hg hr => ?_
  have nd : N_all.Nodup := sc_all.nd
  exact (ds_cons (stSet 2 nd (de_sh (xLst (aV (xTup (aV (xExc k_BadText hg (hr.mono (by omega)) (aS (nS 0) da_nilS) (by decide +kernel)) (aV (xExcK [0] kK_BadText hg (hr.mono (by omega)) (kS (nS 0) dk_nil) (by decide +kernel) (Or.inl ⟨rfl, rfl⟩)) (aV (de_sv (de_str (by decide +kernel))) da_nil)))) (aV (xTup (aV (xExc k_BadRow hg (hr.mono (by omega)) (aS (nS 0) da_nilS) (by decide +kernel)) (aV (xExcK [0] kK_BadRow hg (hr.mono (by omega)) (kS (nS 0) dk_nil) (by decide +kernel) (Or.inl ⟨rfl, rfl⟩)) (aV (de_sv (de_str (by decide +kernel))) da_nil)))) da_nil)))))
    (ds_cons (stSet 2 nd (de_sh (xAdd (nI 2) (de_inn (xLst (aV (xTup (aV (xExc k_Own hg (hr.mono (by omega)) (aS (nS 0) da_nilS) (by decide +kernel)) (aV (xExcK [0] kK_Own hg (hr.mono (by omega)) (kS (nS 0) dk_nil) (by decide +kernel) (Or.inl ⟨rfl, rfl⟩)) (aV (de_sv (de_str (by decide +kernel))) da_nil)))) (aV (xTup (aV (xExc k_NoName hg (hr.mono (by omega)) (aS (nS 0) da_nilS) (by decide +kernel)) (aV (xExcK [0] kK_NoName hg (hr.mono (by omega)) (kS (nS 0) dk_nil) (by decide +kernel) (Or.inl ⟨rfl, rfl⟩)) (aV (de_sv (de_str (by decide +kernel))) da_nil)))) da_nil)))))))
    (ds_cons (stSet 2 nd (de_sh (xAdd (nI 2) (de_inn (xLst (aV (xTup (aV (xExc k_NoBook hg (hr.mono (by omega)) (aS (nS 0) da_nilS) (by decide +kernel)) (aV (xExcK [0] kK_NoBook hg (hr.mono (by omega)) (kS (nS 0) dk_nil) (by decide +kernel) (Or.inl ⟨rfl, rfl⟩)) (aV (de_sv (de_str (by decide +kernel))) da_nil)))) (aV (xTup (aV (xExc k_NoTie hg (hr.mono (by omega)) (aS (nS 0) da_nilS) (by decide +kernel)) (aV (xExcK [0] kK_NoTie hg (hr.mono (by omega)) (kS (nS 0) dk_nil) (by decide +kernel) (Or.inl ⟨rfl, rfl⟩)) (aV (de_sv (de_str (by decide +kernel))) da_nil)))) da_nil)))))))
    (ds_cons (stSet 2 nd (de_sh (xAdd (nI 2) (de_inn (xLst (aV (xTup (aV (xExc k_NoPlace hg (hr.mono (by omega)) (aS (nS 0) da_nilS) (by decide +kernel)) (aV (xExcK [0] kK_NoPlace hg (hr.mono (by omega)) (kS (nS 0) dk_nil) (by decide +kernel) (Or.inl ⟨rfl, rfl⟩)) (aV (de_sv (de_str (by decide +kernel))) da_nil)))) (aV (xTup (aV (xExc k_NoDeed hg (hr.mono (by omega)) (aS (nS 0) da_nilS) (by decide +kernel)) (aV (xExcK [0] kK_NoDeed hg (hr.mono (by omega)) (kS (nS 0) dk_nil) (by decide +kernel) (Or.inl ⟨rfl, rfl⟩)) (aV (de_sv (de_str (by decide +kernel))) da_nil)))) da_nil)))))))
    (ds_cons (stSet 2 nd (de_sh (xAdd (nI 2) (de_inn (xLst (aV (xTup (aV (xExc k_MayNot hg (hr.mono (by omega)) (aS (nS 0) da_nilS) (by decide +kernel)) (aV (xExcK [0] kK_MayNot hg (hr.mono (by omega)) (kS (nS 0) dk_nil) (by decide +kernel) (Or.inl ⟨rfl, rfl⟩)) (aV (de_sv (de_str (by decide +kernel))) da_nil)))) (aV (xTup (aV (xExc k_Barred hg (hr.mono (by omega)) (aS (nS 0) da_nilS) (by decide +kernel)) (aV (xExcK [0] kK_Barred hg (hr.mono (by omega)) (kS (nS 0) dk_nil) (by decide +kernel) (Or.inl ⟨rfl, rfl⟩)) (aV (de_sv (de_str (by decide +kernel))) da_nil)))) da_nil)))))))
    (ds_cons (stSet 2 nd (de_sh (xAdd (nI 2) (de_inn (xLst (aV (xTup (aV (xExc k_Lost hg (hr.mono (by omega)) (aS (nS 0) da_nilS) (by decide +kernel)) (aV (xExcK [0] kK_Lost hg (hr.mono (by omega)) (kS (nS 0) dk_nil) (by decide +kernel) (Or.inl ⟨rfl, rfl⟩)) (aV (de_sv (de_str (by decide +kernel))) da_nil)))) (aV (xTup (aV (xExc k_Stopped hg (hr.mono (by omega)) (aS (nS 0) da_nilS) (by decide +kernel)) (aV (xExcK [0] kK_Stopped hg (hr.mono (by omega)) (kS (nS 0) dk_nil) (by decide +kernel) (Or.inl ⟨rfl, rfl⟩)) (aV (de_sv (de_str (by decide +kernel))) da_nil)))) da_nil)))))))
    (ds_cons (stSet 2 nd (de_sh (xAdd (nI 2) (de_inn (xLst (aV (xTup (aV (xExc k_Shared hg (hr.mono (by omega)) (aS (nS 0) da_nilS) (by decide +kernel)) (aV (xExcK [0] kK_Shared hg (hr.mono (by omega)) (kS (nS 0) dk_nil) (by decide +kernel) (Or.inl ⟨rfl, rfl⟩)) (aV (de_sv (de_str (by decide +kernel))) da_nil)))) (aV (xTup (aV (xExc k_Tied hg (hr.mono (by omega)) (aS (nS 0) da_nilS) (by decide +kernel)) (aV (xExcK [0] kK_Tied hg (hr.mono (by omega)) (kS (nS 0) dk_nil) (by decide +kernel) (Or.inl ⟨rfl, rfl⟩)) (aV (de_sv (de_str (by decide +kernel))) da_nil)))) da_nil)))))))
    (ds_cons (stSet 2 nd (de_sh (xAdd (nI 2) (de_inn (xLst (aV (xTup (aV (xExc k_Taken hg (hr.mono (by omega)) (aS (nS 0) da_nilS) (by decide +kernel)) (aV (xExcK [0] kK_Taken hg (hr.mono (by omega)) (kS (nS 0) dk_nil) (by decide +kernel) (Or.inl ⟨rfl, rfl⟩)) (aV (de_sv (de_str (by decide +kernel))) da_nil)))) (aV (xTup (aV (xExc k_TooMany hg (hr.mono (by omega)) (aS (nS 0) da_nilS) (by decide +kernel)) (aV (xExcK [0] kK_TooMany hg (hr.mono (by omega)) (kS (nS 0) dk_nil) (by decide +kernel) (Or.inl ⟨rfl, rfl⟩)) (aV (de_sv (de_str (by decide +kernel))) da_nil)))) da_nil)))))))
    (ds_cons (stSet 2 nd (de_sh (xAdd (nI 2) (de_inn (xLst (aV (xTup (aV (xExc k_Full hg (hr.mono (by omega)) (aS (nS 0) da_nilS) (by decide +kernel)) (aV (xExcK [0] kK_Full hg (hr.mono (by omega)) (kS (nS 0) dk_nil) (by decide +kernel) (Or.inl ⟨rfl, rfl⟩)) (aV (de_sv (de_str (by decide +kernel))) da_nil)))) (aV (xTup (aV (xExc0 k_Unlike) (aV (xExc0 k_Unlike) (aV (de_sv (de_str (by decide +kernel))) da_nil)))) da_nil)))))))
    (ds_cons (stSet 2 nd (de_sh (xAdd (nI 2) (de_inn (xLst (aV (xTup (aV (xExc0 k_Last) (aV (xExc0 k_Last) (aV (de_sv (de_str (by decide +kernel))) da_nil)))) (aV (xTup (aV (xExc k_Gap hg (hr.mono (by omega)) (aS (nS 0) (aS (nS 1) da_nilS)) (by decide +kernel)) (aV (xExcK [1, 0] kK_Gap hg (hr.mono (by omega)) (kS (nS 1) (kS (nS 0) dk_nil)) (by decide +kernel) (Or.inr ⟨rfl, rfl⟩)) (aV (de_sv (de_str (by decide +kernel))) da_nil)))) da_nil)))))))
    (ds_one (ds_ret (xAdd (nI 2) (de_inn (xLst (aV (xTup (aV (xExc k_Apart hg (hr.mono (by omega)) (aS (nS 0) (aS (nS 1) da_nilS)) (by decide +kernel)) (aV (xExcK [1, 0] kK_Apart hg (hr.mono (by omega)) (kS (nS 1) (kS (nS 0) dk_nil)) (by decide +kernel) (Or.inr ⟨rfl, rfl⟩)) (aV (de_sv (de_str (by decide +kernel))) da_nil)))) da_nil))))))))))))))))
theorem ok_fields (zs : Zs mg) (S : Std K mg "_law_fields" s_fields) {e0 e1 e2 e3 e4 e5 e6 e7 e8 e9 e10 e11 e12 e13 e14 e15 e16 e17 e18 e19 e20 : Addr} (xs : Xs K mg e0 e1 e2 e3 e4 e5 e6 e7 e8 e9 e10 e11 e12 e13 e14 e15 e16 e17 e18 e19 e20) (c_same : Cal P w K mg base 6 "_law_same" s_same (g_same 6) ["_law_found", "_law_due"]) : Cal P w K mg base 7 "_law_fields" s_fields g_fields ["_law_mine", "_law_its", "_law_error"] := by
  refine Cal.of (k := 6) 0 S sc_fields rfl fun f cdv A outer s H E hg hr => ?_
  have nd : N_fields.Nodup := sc_fields.nd
  exact (ds_cons (ds_if (tVal (isO2 [("Unlike", true), ("BadText", false), ("BadRow", false), ("Own", false), ("NoName", false), ("NoBook", false), ("NoTie", false), ("NoPlace", false), ("NoDeed", false), ("MayNot", false), ("Barred", false), ("Lost", false), ("Gap", false), ("Apart", false), ("Stopped", false), ("Shared", false), ("Tied", false), ("Taken", false), ("Last", false), ("TooMany", false), ("Full", false)] [("Unlike", false), ("BadText", false), ("BadRow", false), ("Own", false), ("NoName", false), ("NoBook", false), ("NoTie", false), ("NoPlace", false), ("NoDeed", false), ("MayNot", false), ("Barred", false), ("Lost", false), ("Gap", false), ("Apart", false), ("Stopped", false), ("Shared", false), ("Tied", false), ("Taken", false), ("Last", true), ("TooMany", false), ("Full", false)] xs.cl_Unlike xs.cl_Last xs.nn_Unlike xs.nn_Last xs.s_Unlike_Unlike xs.s_Last_Last (al_cons ⟨_, xs.cl_Unlike, xs.s_Unlike_Unlike⟩ (al_cons ⟨_, xs.cl_BadText, xs.s_BadText_Unlike⟩ (al_cons ⟨_, xs.cl_BadRow, xs.s_BadRow_Unlike⟩ (al_cons ⟨_, xs.cl_Own, xs.s_Own_Unlike⟩ (al_cons ⟨_, xs.cl_NoName, xs.s_NoName_Unlike⟩ (al_cons ⟨_, xs.cl_NoBook, xs.s_NoBook_Unlike⟩ (al_cons ⟨_, xs.cl_NoTie, xs.s_NoTie_Unlike⟩ (al_cons ⟨_, xs.cl_NoPlace, xs.s_NoPlace_Unlike⟩ (al_cons ⟨_, xs.cl_NoDeed, xs.s_NoDeed_Unlike⟩ (al_cons ⟨_, xs.cl_MayNot, xs.s_MayNot_Unlike⟩ (al_cons ⟨_, xs.cl_Barred, xs.s_Barred_Unlike⟩ (al_cons ⟨_, xs.cl_Lost, xs.s_Lost_Unlike⟩ (al_cons ⟨_, xs.cl_Gap, xs.s_Gap_Unlike⟩ (al_cons ⟨_, xs.cl_Apart, xs.s_Apart_Unlike⟩ (al_cons ⟨_, xs.cl_Stopped, xs.s_Stopped_Unlike⟩ (al_cons ⟨_, xs.cl_Shared, xs.s_Shared_Unlike⟩ (al_cons ⟨_, xs.cl_Tied, xs.s_Tied_Unlike⟩ (al_cons ⟨_, xs.cl_Taken, xs.s_Taken_Unlike⟩ (al_cons ⟨_, xs.cl_Last, xs.s_Last_Unlike⟩ (al_cons ⟨_, xs.cl_TooMany, xs.s_TooMany_Unlike⟩ (al_cons ⟨_, xs.cl_Full, xs.s_Full_Unlike⟩ al_nil))))))))))))))))))))) (al_cons ⟨_, xs.cl_Unlike, xs.s_Unlike_Last⟩ (al_cons ⟨_, xs.cl_BadText, xs.s_BadText_Last⟩ (al_cons ⟨_, xs.cl_BadRow, xs.s_BadRow_Last⟩ (al_cons ⟨_, xs.cl_Own, xs.s_Own_Last⟩ (al_cons ⟨_, xs.cl_NoName, xs.s_NoName_Last⟩ (al_cons ⟨_, xs.cl_NoBook, xs.s_NoBook_Last⟩ (al_cons ⟨_, xs.cl_NoTie, xs.s_NoTie_Last⟩ (al_cons ⟨_, xs.cl_NoPlace, xs.s_NoPlace_Last⟩ (al_cons ⟨_, xs.cl_NoDeed, xs.s_NoDeed_Last⟩ (al_cons ⟨_, xs.cl_MayNot, xs.s_MayNot_Last⟩ (al_cons ⟨_, xs.cl_Barred, xs.s_Barred_Last⟩ (al_cons ⟨_, xs.cl_Lost, xs.s_Lost_Last⟩ (al_cons ⟨_, xs.cl_Gap, xs.s_Gap_Last⟩ (al_cons ⟨_, xs.cl_Apart, xs.s_Apart_Last⟩ (al_cons ⟨_, xs.cl_Stopped, xs.s_Stopped_Last⟩ (al_cons ⟨_, xs.cl_Shared, xs.s_Shared_Last⟩ (al_cons ⟨_, xs.cl_Tied, xs.s_Tied_Last⟩ (al_cons ⟨_, xs.cl_Taken, xs.s_Taken_Last⟩ (al_cons ⟨_, xs.cl_Last, xs.s_Last_Last⟩ (al_cons ⟨_, xs.cl_TooMany, xs.s_TooMany_Last⟩ (al_cons ⟨_, xs.cl_Full, xs.s_Full_Last⟩ al_nil))))))))))))))))))))) zs.isinstance_ (nB 2)))
    (ds_one (ds_ret (de_sv de_bl)))
    ds_nil)
    (ds_cons (ds_if (tVal (isO [("Unlike", false), ("BadText", false), ("BadRow", false), ("Own", false), ("NoName", false), ("NoBook", false), ("NoTie", false), ("NoPlace", false), ("NoDeed", false), ("MayNot", false), ("Barred", false), ("Lost", false), ("Gap", true), ("Apart", false), ("Stopped", false), ("Shared", false), ("Tied", false), ("Taken", false), ("Last", false), ("TooMany", false), ("Full", false)] xs.cl_Gap xs.nn_Gap xs.s_Gap_Gap (al_cons ⟨_, xs.cl_Unlike, xs.s_Unlike_Gap⟩ (al_cons ⟨_, xs.cl_BadText, xs.s_BadText_Gap⟩ (al_cons ⟨_, xs.cl_BadRow, xs.s_BadRow_Gap⟩ (al_cons ⟨_, xs.cl_Own, xs.s_Own_Gap⟩ (al_cons ⟨_, xs.cl_NoName, xs.s_NoName_Gap⟩ (al_cons ⟨_, xs.cl_NoBook, xs.s_NoBook_Gap⟩ (al_cons ⟨_, xs.cl_NoTie, xs.s_NoTie_Gap⟩ (al_cons ⟨_, xs.cl_NoPlace, xs.s_NoPlace_Gap⟩ (al_cons ⟨_, xs.cl_NoDeed, xs.s_NoDeed_Gap⟩ (al_cons ⟨_, xs.cl_MayNot, xs.s_MayNot_Gap⟩ (al_cons ⟨_, xs.cl_Barred, xs.s_Barred_Gap⟩ (al_cons ⟨_, xs.cl_Lost, xs.s_Lost_Gap⟩ (al_cons ⟨_, xs.cl_Gap, xs.s_Gap_Gap⟩ (al_cons ⟨_, xs.cl_Apart, xs.s_Apart_Gap⟩ (al_cons ⟨_, xs.cl_Stopped, xs.s_Stopped_Gap⟩ (al_cons ⟨_, xs.cl_Shared, xs.s_Shared_Gap⟩ (al_cons ⟨_, xs.cl_Tied, xs.s_Tied_Gap⟩ (al_cons ⟨_, xs.cl_Taken, xs.s_Taken_Gap⟩ (al_cons ⟨_, xs.cl_Last, xs.s_Last_Gap⟩ (al_cons ⟨_, xs.cl_TooMany, xs.s_TooMany_Gap⟩ (al_cons ⟨_, xs.cl_Full, xs.s_Full_Gap⟩ al_nil))))))))))))))))))))) zs.isinstance_ (nB 2)))
    (ds_one (ds_ret (callF c_same hg (hr.mono (by omega)) (aS (de_sh (xLst (aV (xFld "place" ["Lost", "Gap"] (al_cons ⟨_, xs.cl_Lost, xs.f_Lost_place⟩ (al_cons ⟨_, xs.cl_Gap, xs.f_Gap_place⟩ al_nil)) (nB 2)) (aV (xFld "ring" ["Barred", "Gap"] (al_cons ⟨_, xs.cl_Barred, xs.f_Barred_ring⟩ (al_cons ⟨_, xs.cl_Gap, xs.f_Gap_ring⟩ al_nil)) (nB 2)) da_nil)))) (aS (de_sh (xLst (aV (nV 0) (aV (nV 1) da_nil)))) da_nilS)) (fun _ _ _ _ _ _ us hl => match us, hl with | [_, _], _ => rfl))))
    ds_nil)
    (ds_cons (ds_if (tVal (isO [("Unlike", false), ("BadText", false), ("BadRow", false), ("Own", false), ("NoName", false), ("NoBook", false), ("NoTie", false), ("NoPlace", false), ("NoDeed", false), ("MayNot", false), ("Barred", false), ("Lost", false), ("Gap", false), ("Apart", true), ("Stopped", false), ("Shared", false), ("Tied", false), ("Taken", false), ("Last", false), ("TooMany", false), ("Full", false)] xs.cl_Apart xs.nn_Apart xs.s_Apart_Apart (al_cons ⟨_, xs.cl_Unlike, xs.s_Unlike_Apart⟩ (al_cons ⟨_, xs.cl_BadText, xs.s_BadText_Apart⟩ (al_cons ⟨_, xs.cl_BadRow, xs.s_BadRow_Apart⟩ (al_cons ⟨_, xs.cl_Own, xs.s_Own_Apart⟩ (al_cons ⟨_, xs.cl_NoName, xs.s_NoName_Apart⟩ (al_cons ⟨_, xs.cl_NoBook, xs.s_NoBook_Apart⟩ (al_cons ⟨_, xs.cl_NoTie, xs.s_NoTie_Apart⟩ (al_cons ⟨_, xs.cl_NoPlace, xs.s_NoPlace_Apart⟩ (al_cons ⟨_, xs.cl_NoDeed, xs.s_NoDeed_Apart⟩ (al_cons ⟨_, xs.cl_MayNot, xs.s_MayNot_Apart⟩ (al_cons ⟨_, xs.cl_Barred, xs.s_Barred_Apart⟩ (al_cons ⟨_, xs.cl_Lost, xs.s_Lost_Apart⟩ (al_cons ⟨_, xs.cl_Gap, xs.s_Gap_Apart⟩ (al_cons ⟨_, xs.cl_Apart, xs.s_Apart_Apart⟩ (al_cons ⟨_, xs.cl_Stopped, xs.s_Stopped_Apart⟩ (al_cons ⟨_, xs.cl_Shared, xs.s_Shared_Apart⟩ (al_cons ⟨_, xs.cl_Tied, xs.s_Tied_Apart⟩ (al_cons ⟨_, xs.cl_Taken, xs.s_Taken_Apart⟩ (al_cons ⟨_, xs.cl_Last, xs.s_Last_Apart⟩ (al_cons ⟨_, xs.cl_TooMany, xs.s_TooMany_Apart⟩ (al_cons ⟨_, xs.cl_Full, xs.s_Full_Apart⟩ al_nil))))))))))))))))))))) zs.isinstance_ (nB 2)))
    (ds_one (ds_ret (callF c_same hg (hr.mono (by omega)) (aS (de_sh (xLst (aV (xFld "one" ["Apart"] (al_cons ⟨_, xs.cl_Apart, xs.f_Apart_one⟩ al_nil) (nB 2)) (aV (xFld "other" ["Apart"] (al_cons ⟨_, xs.cl_Apart, xs.f_Apart_other⟩ al_nil) (nB 2)) da_nil)))) (aS (de_sh (xLst (aV (nV 0) (aV (nV 1) da_nil)))) da_nilS)) (fun _ _ _ _ _ _ us hl => match us, hl with | [_, _], _ => rfl))))
    ds_nil)
    (ds_cons (ds_if (tVal (isO [("Unlike", false), ("BadText", true), ("BadRow", false), ("Own", false), ("NoName", false), ("NoBook", false), ("NoTie", false), ("NoPlace", false), ("NoDeed", false), ("MayNot", false), ("Barred", false), ("Lost", false), ("Gap", false), ("Apart", false), ("Stopped", false), ("Shared", false), ("Tied", false), ("Taken", false), ("Last", false), ("TooMany", false), ("Full", false)] xs.cl_BadText xs.nn_BadText xs.s_BadText_BadText (al_cons ⟨_, xs.cl_Unlike, xs.s_Unlike_BadText⟩ (al_cons ⟨_, xs.cl_BadText, xs.s_BadText_BadText⟩ (al_cons ⟨_, xs.cl_BadRow, xs.s_BadRow_BadText⟩ (al_cons ⟨_, xs.cl_Own, xs.s_Own_BadText⟩ (al_cons ⟨_, xs.cl_NoName, xs.s_NoName_BadText⟩ (al_cons ⟨_, xs.cl_NoBook, xs.s_NoBook_BadText⟩ (al_cons ⟨_, xs.cl_NoTie, xs.s_NoTie_BadText⟩ (al_cons ⟨_, xs.cl_NoPlace, xs.s_NoPlace_BadText⟩ (al_cons ⟨_, xs.cl_NoDeed, xs.s_NoDeed_BadText⟩ (al_cons ⟨_, xs.cl_MayNot, xs.s_MayNot_BadText⟩ (al_cons ⟨_, xs.cl_Barred, xs.s_Barred_BadText⟩ (al_cons ⟨_, xs.cl_Lost, xs.s_Lost_BadText⟩ (al_cons ⟨_, xs.cl_Gap, xs.s_Gap_BadText⟩ (al_cons ⟨_, xs.cl_Apart, xs.s_Apart_BadText⟩ (al_cons ⟨_, xs.cl_Stopped, xs.s_Stopped_BadText⟩ (al_cons ⟨_, xs.cl_Shared, xs.s_Shared_BadText⟩ (al_cons ⟨_, xs.cl_Tied, xs.s_Tied_BadText⟩ (al_cons ⟨_, xs.cl_Taken, xs.s_Taken_BadText⟩ (al_cons ⟨_, xs.cl_Last, xs.s_Last_BadText⟩ (al_cons ⟨_, xs.cl_TooMany, xs.s_TooMany_BadText⟩ (al_cons ⟨_, xs.cl_Full, xs.s_Full_BadText⟩ al_nil))))))))))))))))))))) zs.isinstance_ (nB 2)))
    (ds_one (ds_ret (callF c_same hg (hr.mono (by omega)) (aS (de_sh (xFld "text" ["BadText"] (al_cons ⟨_, xs.cl_BadText, xs.f_BadText_text⟩ al_nil) (nB 2))) (aS (nS 0) da_nilS)) (fun _ _ _ _ _ _ us hl => match us, hl with | [_, _], _ => rfl))))
    ds_nil)
    (ds_cons (ds_if (tVal (isO2 [("Unlike", false), ("BadText", false), ("BadRow", true), ("Own", false), ("NoName", false), ("NoBook", false), ("NoTie", false), ("NoPlace", false), ("NoDeed", false), ("MayNot", false), ("Barred", false), ("Lost", false), ("Gap", false), ("Apart", false), ("Stopped", false), ("Shared", false), ("Tied", false), ("Taken", false), ("Last", false), ("TooMany", false), ("Full", false)] [("Unlike", false), ("BadText", false), ("BadRow", false), ("Own", false), ("NoName", false), ("NoBook", false), ("NoTie", false), ("NoPlace", false), ("NoDeed", false), ("MayNot", false), ("Barred", false), ("Lost", false), ("Gap", false), ("Apart", false), ("Stopped", true), ("Shared", false), ("Tied", false), ("Taken", false), ("Last", false), ("TooMany", false), ("Full", false)] xs.cl_BadRow xs.cl_Stopped xs.nn_BadRow xs.nn_Stopped xs.s_BadRow_BadRow xs.s_Stopped_Stopped (al_cons ⟨_, xs.cl_Unlike, xs.s_Unlike_BadRow⟩ (al_cons ⟨_, xs.cl_BadText, xs.s_BadText_BadRow⟩ (al_cons ⟨_, xs.cl_BadRow, xs.s_BadRow_BadRow⟩ (al_cons ⟨_, xs.cl_Own, xs.s_Own_BadRow⟩ (al_cons ⟨_, xs.cl_NoName, xs.s_NoName_BadRow⟩ (al_cons ⟨_, xs.cl_NoBook, xs.s_NoBook_BadRow⟩ (al_cons ⟨_, xs.cl_NoTie, xs.s_NoTie_BadRow⟩ (al_cons ⟨_, xs.cl_NoPlace, xs.s_NoPlace_BadRow⟩ (al_cons ⟨_, xs.cl_NoDeed, xs.s_NoDeed_BadRow⟩ (al_cons ⟨_, xs.cl_MayNot, xs.s_MayNot_BadRow⟩ (al_cons ⟨_, xs.cl_Barred, xs.s_Barred_BadRow⟩ (al_cons ⟨_, xs.cl_Lost, xs.s_Lost_BadRow⟩ (al_cons ⟨_, xs.cl_Gap, xs.s_Gap_BadRow⟩ (al_cons ⟨_, xs.cl_Apart, xs.s_Apart_BadRow⟩ (al_cons ⟨_, xs.cl_Stopped, xs.s_Stopped_BadRow⟩ (al_cons ⟨_, xs.cl_Shared, xs.s_Shared_BadRow⟩ (al_cons ⟨_, xs.cl_Tied, xs.s_Tied_BadRow⟩ (al_cons ⟨_, xs.cl_Taken, xs.s_Taken_BadRow⟩ (al_cons ⟨_, xs.cl_Last, xs.s_Last_BadRow⟩ (al_cons ⟨_, xs.cl_TooMany, xs.s_TooMany_BadRow⟩ (al_cons ⟨_, xs.cl_Full, xs.s_Full_BadRow⟩ al_nil))))))))))))))))))))) (al_cons ⟨_, xs.cl_Unlike, xs.s_Unlike_Stopped⟩ (al_cons ⟨_, xs.cl_BadText, xs.s_BadText_Stopped⟩ (al_cons ⟨_, xs.cl_BadRow, xs.s_BadRow_Stopped⟩ (al_cons ⟨_, xs.cl_Own, xs.s_Own_Stopped⟩ (al_cons ⟨_, xs.cl_NoName, xs.s_NoName_Stopped⟩ (al_cons ⟨_, xs.cl_NoBook, xs.s_NoBook_Stopped⟩ (al_cons ⟨_, xs.cl_NoTie, xs.s_NoTie_Stopped⟩ (al_cons ⟨_, xs.cl_NoPlace, xs.s_NoPlace_Stopped⟩ (al_cons ⟨_, xs.cl_NoDeed, xs.s_NoDeed_Stopped⟩ (al_cons ⟨_, xs.cl_MayNot, xs.s_MayNot_Stopped⟩ (al_cons ⟨_, xs.cl_Barred, xs.s_Barred_Stopped⟩ (al_cons ⟨_, xs.cl_Lost, xs.s_Lost_Stopped⟩ (al_cons ⟨_, xs.cl_Gap, xs.s_Gap_Stopped⟩ (al_cons ⟨_, xs.cl_Apart, xs.s_Apart_Stopped⟩ (al_cons ⟨_, xs.cl_Stopped, xs.s_Stopped_Stopped⟩ (al_cons ⟨_, xs.cl_Shared, xs.s_Shared_Stopped⟩ (al_cons ⟨_, xs.cl_Tied, xs.s_Tied_Stopped⟩ (al_cons ⟨_, xs.cl_Taken, xs.s_Taken_Stopped⟩ (al_cons ⟨_, xs.cl_Last, xs.s_Last_Stopped⟩ (al_cons ⟨_, xs.cl_TooMany, xs.s_TooMany_Stopped⟩ (al_cons ⟨_, xs.cl_Full, xs.s_Full_Stopped⟩ al_nil))))))))))))))))))))) zs.isinstance_ (nB 2)))
    (ds_one (ds_ret (callF c_same hg (hr.mono (by omega)) (aS (de_sh (xFld "number" ["BadRow", "Stopped"] (al_cons ⟨_, xs.cl_BadRow, xs.f_BadRow_number⟩ (al_cons ⟨_, xs.cl_Stopped, xs.f_Stopped_number⟩ al_nil)) (nB 2))) (aS (nS 0) da_nilS)) (fun _ _ _ _ _ _ us hl => match us, hl with | [_, _], _ => rfl))))
    ds_nil)
    (ds_cons (ds_if (tVal (isO2 [("Unlike", false), ("BadText", false), ("BadRow", false), ("Own", false), ("NoName", false), ("NoBook", false), ("NoTie", true), ("NoPlace", false), ("NoDeed", false), ("MayNot", false), ("Barred", false), ("Lost", false), ("Gap", false), ("Apart", false), ("Stopped", false), ("Shared", false), ("Tied", false), ("Taken", false), ("Last", false), ("TooMany", false), ("Full", false)] [("Unlike", false), ("BadText", false), ("BadRow", false), ("Own", false), ("NoName", false), ("NoBook", false), ("NoTie", false), ("NoPlace", false), ("NoDeed", false), ("MayNot", false), ("Barred", false), ("Lost", false), ("Gap", false), ("Apart", false), ("Stopped", false), ("Shared", false), ("Tied", true), ("Taken", false), ("Last", false), ("TooMany", false), ("Full", false)] xs.cl_NoTie xs.cl_Tied xs.nn_NoTie xs.nn_Tied xs.s_NoTie_NoTie xs.s_Tied_Tied (al_cons ⟨_, xs.cl_Unlike, xs.s_Unlike_NoTie⟩ (al_cons ⟨_, xs.cl_BadText, xs.s_BadText_NoTie⟩ (al_cons ⟨_, xs.cl_BadRow, xs.s_BadRow_NoTie⟩ (al_cons ⟨_, xs.cl_Own, xs.s_Own_NoTie⟩ (al_cons ⟨_, xs.cl_NoName, xs.s_NoName_NoTie⟩ (al_cons ⟨_, xs.cl_NoBook, xs.s_NoBook_NoTie⟩ (al_cons ⟨_, xs.cl_NoTie, xs.s_NoTie_NoTie⟩ (al_cons ⟨_, xs.cl_NoPlace, xs.s_NoPlace_NoTie⟩ (al_cons ⟨_, xs.cl_NoDeed, xs.s_NoDeed_NoTie⟩ (al_cons ⟨_, xs.cl_MayNot, xs.s_MayNot_NoTie⟩ (al_cons ⟨_, xs.cl_Barred, xs.s_Barred_NoTie⟩ (al_cons ⟨_, xs.cl_Lost, xs.s_Lost_NoTie⟩ (al_cons ⟨_, xs.cl_Gap, xs.s_Gap_NoTie⟩ (al_cons ⟨_, xs.cl_Apart, xs.s_Apart_NoTie⟩ (al_cons ⟨_, xs.cl_Stopped, xs.s_Stopped_NoTie⟩ (al_cons ⟨_, xs.cl_Shared, xs.s_Shared_NoTie⟩ (al_cons ⟨_, xs.cl_Tied, xs.s_Tied_NoTie⟩ (al_cons ⟨_, xs.cl_Taken, xs.s_Taken_NoTie⟩ (al_cons ⟨_, xs.cl_Last, xs.s_Last_NoTie⟩ (al_cons ⟨_, xs.cl_TooMany, xs.s_TooMany_NoTie⟩ (al_cons ⟨_, xs.cl_Full, xs.s_Full_NoTie⟩ al_nil))))))))))))))))))))) (al_cons ⟨_, xs.cl_Unlike, xs.s_Unlike_Tied⟩ (al_cons ⟨_, xs.cl_BadText, xs.s_BadText_Tied⟩ (al_cons ⟨_, xs.cl_BadRow, xs.s_BadRow_Tied⟩ (al_cons ⟨_, xs.cl_Own, xs.s_Own_Tied⟩ (al_cons ⟨_, xs.cl_NoName, xs.s_NoName_Tied⟩ (al_cons ⟨_, xs.cl_NoBook, xs.s_NoBook_Tied⟩ (al_cons ⟨_, xs.cl_NoTie, xs.s_NoTie_Tied⟩ (al_cons ⟨_, xs.cl_NoPlace, xs.s_NoPlace_Tied⟩ (al_cons ⟨_, xs.cl_NoDeed, xs.s_NoDeed_Tied⟩ (al_cons ⟨_, xs.cl_MayNot, xs.s_MayNot_Tied⟩ (al_cons ⟨_, xs.cl_Barred, xs.s_Barred_Tied⟩ (al_cons ⟨_, xs.cl_Lost, xs.s_Lost_Tied⟩ (al_cons ⟨_, xs.cl_Gap, xs.s_Gap_Tied⟩ (al_cons ⟨_, xs.cl_Apart, xs.s_Apart_Tied⟩ (al_cons ⟨_, xs.cl_Stopped, xs.s_Stopped_Tied⟩ (al_cons ⟨_, xs.cl_Shared, xs.s_Shared_Tied⟩ (al_cons ⟨_, xs.cl_Tied, xs.s_Tied_Tied⟩ (al_cons ⟨_, xs.cl_Taken, xs.s_Taken_Tied⟩ (al_cons ⟨_, xs.cl_Last, xs.s_Last_Tied⟩ (al_cons ⟨_, xs.cl_TooMany, xs.s_TooMany_Tied⟩ (al_cons ⟨_, xs.cl_Full, xs.s_Full_Tied⟩ al_nil))))))))))))))))))))) zs.isinstance_ (nB 2)))
    (ds_one (ds_ret (callF c_same hg (hr.mono (by omega)) (aS (de_sh (xFld "pair" ["NoTie", "Tied"] (al_cons ⟨_, xs.cl_NoTie, xs.f_NoTie_pair⟩ (al_cons ⟨_, xs.cl_Tied, xs.f_Tied_pair⟩ al_nil)) (nB 2))) (aS (nS 0) da_nilS)) (fun _ _ _ _ _ _ us hl => match us, hl with | [_, _], _ => rfl))))
    ds_nil)
    (ds_cons (ds_if (tVal (isO [("Unlike", false), ("BadText", false), ("BadRow", false), ("Own", false), ("NoName", false), ("NoBook", false), ("NoTie", false), ("NoPlace", true), ("NoDeed", false), ("MayNot", false), ("Barred", false), ("Lost", false), ("Gap", false), ("Apart", false), ("Stopped", false), ("Shared", false), ("Tied", false), ("Taken", false), ("Last", false), ("TooMany", false), ("Full", false)] xs.cl_NoPlace xs.nn_NoPlace xs.s_NoPlace_NoPlace (al_cons ⟨_, xs.cl_Unlike, xs.s_Unlike_NoPlace⟩ (al_cons ⟨_, xs.cl_BadText, xs.s_BadText_NoPlace⟩ (al_cons ⟨_, xs.cl_BadRow, xs.s_BadRow_NoPlace⟩ (al_cons ⟨_, xs.cl_Own, xs.s_Own_NoPlace⟩ (al_cons ⟨_, xs.cl_NoName, xs.s_NoName_NoPlace⟩ (al_cons ⟨_, xs.cl_NoBook, xs.s_NoBook_NoPlace⟩ (al_cons ⟨_, xs.cl_NoTie, xs.s_NoTie_NoPlace⟩ (al_cons ⟨_, xs.cl_NoPlace, xs.s_NoPlace_NoPlace⟩ (al_cons ⟨_, xs.cl_NoDeed, xs.s_NoDeed_NoPlace⟩ (al_cons ⟨_, xs.cl_MayNot, xs.s_MayNot_NoPlace⟩ (al_cons ⟨_, xs.cl_Barred, xs.s_Barred_NoPlace⟩ (al_cons ⟨_, xs.cl_Lost, xs.s_Lost_NoPlace⟩ (al_cons ⟨_, xs.cl_Gap, xs.s_Gap_NoPlace⟩ (al_cons ⟨_, xs.cl_Apart, xs.s_Apart_NoPlace⟩ (al_cons ⟨_, xs.cl_Stopped, xs.s_Stopped_NoPlace⟩ (al_cons ⟨_, xs.cl_Shared, xs.s_Shared_NoPlace⟩ (al_cons ⟨_, xs.cl_Tied, xs.s_Tied_NoPlace⟩ (al_cons ⟨_, xs.cl_Taken, xs.s_Taken_NoPlace⟩ (al_cons ⟨_, xs.cl_Last, xs.s_Last_NoPlace⟩ (al_cons ⟨_, xs.cl_TooMany, xs.s_TooMany_NoPlace⟩ (al_cons ⟨_, xs.cl_Full, xs.s_Full_NoPlace⟩ al_nil))))))))))))))))))))) zs.isinstance_ (nB 2)))
    (ds_one (ds_ret (callF c_same hg (hr.mono (by omega)) (aS (de_sh (xFld "at" ["NoPlace"] (al_cons ⟨_, xs.cl_NoPlace, xs.f_NoPlace_at⟩ al_nil) (nB 2))) (aS (nS 0) da_nilS)) (fun _ _ _ _ _ _ us hl => match us, hl with | [_, _], _ => rfl))))
    ds_nil)
    (ds_cons (ds_if (tVal (isX3 [("Unlike", false), ("BadText", false), ("BadRow", false), ("Own", false), ("NoName", false), ("NoBook", false), ("NoTie", false), ("NoPlace", false), ("NoDeed", true), ("MayNot", false), ("Barred", false), ("Lost", false), ("Gap", false), ("Apart", false), ("Stopped", false), ("Shared", false), ("Tied", false), ("Taken", false), ("Last", false), ("TooMany", false), ("Full", false)] [("Unlike", false), ("BadText", false), ("BadRow", false), ("Own", false), ("NoName", false), ("NoBook", false), ("NoTie", false), ("NoPlace", false), ("NoDeed", false), ("MayNot", false), ("Barred", false), ("Lost", false), ("Gap", false), ("Apart", false), ("Stopped", false), ("Shared", false), ("Tied", false), ("Taken", false), ("Last", false), ("TooMany", true), ("Full", false)] [("Unlike", false), ("BadText", false), ("BadRow", false), ("Own", false), ("NoName", false), ("NoBook", false), ("NoTie", false), ("NoPlace", false), ("NoDeed", false), ("MayNot", false), ("Barred", false), ("Lost", false), ("Gap", false), ("Apart", false), ("Stopped", false), ("Shared", false), ("Tied", false), ("Taken", false), ("Last", false), ("TooMany", false), ("Full", true)] (qO xs.cl_NoDeed xs.nn_NoDeed xs.s_NoDeed_NoDeed (al_cons ⟨_, xs.cl_Unlike, xs.s_Unlike_NoDeed⟩ (al_cons ⟨_, xs.cl_BadText, xs.s_BadText_NoDeed⟩ (al_cons ⟨_, xs.cl_BadRow, xs.s_BadRow_NoDeed⟩ (al_cons ⟨_, xs.cl_Own, xs.s_Own_NoDeed⟩ (al_cons ⟨_, xs.cl_NoName, xs.s_NoName_NoDeed⟩ (al_cons ⟨_, xs.cl_NoBook, xs.s_NoBook_NoDeed⟩ (al_cons ⟨_, xs.cl_NoTie, xs.s_NoTie_NoDeed⟩ (al_cons ⟨_, xs.cl_NoPlace, xs.s_NoPlace_NoDeed⟩ (al_cons ⟨_, xs.cl_NoDeed, xs.s_NoDeed_NoDeed⟩ (al_cons ⟨_, xs.cl_MayNot, xs.s_MayNot_NoDeed⟩ (al_cons ⟨_, xs.cl_Barred, xs.s_Barred_NoDeed⟩ (al_cons ⟨_, xs.cl_Lost, xs.s_Lost_NoDeed⟩ (al_cons ⟨_, xs.cl_Gap, xs.s_Gap_NoDeed⟩ (al_cons ⟨_, xs.cl_Apart, xs.s_Apart_NoDeed⟩ (al_cons ⟨_, xs.cl_Stopped, xs.s_Stopped_NoDeed⟩ (al_cons ⟨_, xs.cl_Shared, xs.s_Shared_NoDeed⟩ (al_cons ⟨_, xs.cl_Tied, xs.s_Tied_NoDeed⟩ (al_cons ⟨_, xs.cl_Taken, xs.s_Taken_NoDeed⟩ (al_cons ⟨_, xs.cl_Last, xs.s_Last_NoDeed⟩ (al_cons ⟨_, xs.cl_TooMany, xs.s_TooMany_NoDeed⟩ (al_cons ⟨_, xs.cl_Full, xs.s_Full_NoDeed⟩ al_nil)))))))))))))))))))))) (qO xs.cl_TooMany xs.nn_TooMany xs.s_TooMany_TooMany (al_cons ⟨_, xs.cl_Unlike, xs.s_Unlike_TooMany⟩ (al_cons ⟨_, xs.cl_BadText, xs.s_BadText_TooMany⟩ (al_cons ⟨_, xs.cl_BadRow, xs.s_BadRow_TooMany⟩ (al_cons ⟨_, xs.cl_Own, xs.s_Own_TooMany⟩ (al_cons ⟨_, xs.cl_NoName, xs.s_NoName_TooMany⟩ (al_cons ⟨_, xs.cl_NoBook, xs.s_NoBook_TooMany⟩ (al_cons ⟨_, xs.cl_NoTie, xs.s_NoTie_TooMany⟩ (al_cons ⟨_, xs.cl_NoPlace, xs.s_NoPlace_TooMany⟩ (al_cons ⟨_, xs.cl_NoDeed, xs.s_NoDeed_TooMany⟩ (al_cons ⟨_, xs.cl_MayNot, xs.s_MayNot_TooMany⟩ (al_cons ⟨_, xs.cl_Barred, xs.s_Barred_TooMany⟩ (al_cons ⟨_, xs.cl_Lost, xs.s_Lost_TooMany⟩ (al_cons ⟨_, xs.cl_Gap, xs.s_Gap_TooMany⟩ (al_cons ⟨_, xs.cl_Apart, xs.s_Apart_TooMany⟩ (al_cons ⟨_, xs.cl_Stopped, xs.s_Stopped_TooMany⟩ (al_cons ⟨_, xs.cl_Shared, xs.s_Shared_TooMany⟩ (al_cons ⟨_, xs.cl_Tied, xs.s_Tied_TooMany⟩ (al_cons ⟨_, xs.cl_Taken, xs.s_Taken_TooMany⟩ (al_cons ⟨_, xs.cl_Last, xs.s_Last_TooMany⟩ (al_cons ⟨_, xs.cl_TooMany, xs.s_TooMany_TooMany⟩ (al_cons ⟨_, xs.cl_Full, xs.s_Full_TooMany⟩ al_nil)))))))))))))))))))))) (qO xs.cl_Full xs.nn_Full xs.s_Full_Full (al_cons ⟨_, xs.cl_Unlike, xs.s_Unlike_Full⟩ (al_cons ⟨_, xs.cl_BadText, xs.s_BadText_Full⟩ (al_cons ⟨_, xs.cl_BadRow, xs.s_BadRow_Full⟩ (al_cons ⟨_, xs.cl_Own, xs.s_Own_Full⟩ (al_cons ⟨_, xs.cl_NoName, xs.s_NoName_Full⟩ (al_cons ⟨_, xs.cl_NoBook, xs.s_NoBook_Full⟩ (al_cons ⟨_, xs.cl_NoTie, xs.s_NoTie_Full⟩ (al_cons ⟨_, xs.cl_NoPlace, xs.s_NoPlace_Full⟩ (al_cons ⟨_, xs.cl_NoDeed, xs.s_NoDeed_Full⟩ (al_cons ⟨_, xs.cl_MayNot, xs.s_MayNot_Full⟩ (al_cons ⟨_, xs.cl_Barred, xs.s_Barred_Full⟩ (al_cons ⟨_, xs.cl_Lost, xs.s_Lost_Full⟩ (al_cons ⟨_, xs.cl_Gap, xs.s_Gap_Full⟩ (al_cons ⟨_, xs.cl_Apart, xs.s_Apart_Full⟩ (al_cons ⟨_, xs.cl_Stopped, xs.s_Stopped_Full⟩ (al_cons ⟨_, xs.cl_Shared, xs.s_Shared_Full⟩ (al_cons ⟨_, xs.cl_Tied, xs.s_Tied_Full⟩ (al_cons ⟨_, xs.cl_Taken, xs.s_Taken_Full⟩ (al_cons ⟨_, xs.cl_Last, xs.s_Last_Full⟩ (al_cons ⟨_, xs.cl_TooMany, xs.s_TooMany_Full⟩ (al_cons ⟨_, xs.cl_Full, xs.s_Full_Full⟩ al_nil)))))))))))))))))))))) zs.isinstance_ (nB 2)))
    (ds_one (ds_ret (callF c_same hg (hr.mono (by omega)) (aS (de_sh (xFld "many" ["NoDeed", "TooMany", "Full"] (al_cons ⟨_, xs.cl_NoDeed, xs.f_NoDeed_many⟩ (al_cons ⟨_, xs.cl_TooMany, xs.f_TooMany_many⟩ (al_cons ⟨_, xs.cl_Full, xs.f_Full_many⟩ al_nil))) (nB 2))) (aS (nS 0) da_nilS)) (fun _ _ _ _ _ _ us hl => match us, hl with | [_, _], _ => rfl))))
    ds_nil)
    (ds_cons (ds_if (tVal (isO [("Unlike", false), ("BadText", false), ("BadRow", false), ("Own", false), ("NoName", false), ("NoBook", false), ("NoTie", false), ("NoPlace", false), ("NoDeed", false), ("MayNot", false), ("Barred", true), ("Lost", false), ("Gap", false), ("Apart", false), ("Stopped", false), ("Shared", false), ("Tied", false), ("Taken", false), ("Last", false), ("TooMany", false), ("Full", false)] xs.cl_Barred xs.nn_Barred xs.s_Barred_Barred (al_cons ⟨_, xs.cl_Unlike, xs.s_Unlike_Barred⟩ (al_cons ⟨_, xs.cl_BadText, xs.s_BadText_Barred⟩ (al_cons ⟨_, xs.cl_BadRow, xs.s_BadRow_Barred⟩ (al_cons ⟨_, xs.cl_Own, xs.s_Own_Barred⟩ (al_cons ⟨_, xs.cl_NoName, xs.s_NoName_Barred⟩ (al_cons ⟨_, xs.cl_NoBook, xs.s_NoBook_Barred⟩ (al_cons ⟨_, xs.cl_NoTie, xs.s_NoTie_Barred⟩ (al_cons ⟨_, xs.cl_NoPlace, xs.s_NoPlace_Barred⟩ (al_cons ⟨_, xs.cl_NoDeed, xs.s_NoDeed_Barred⟩ (al_cons ⟨_, xs.cl_MayNot, xs.s_MayNot_Barred⟩ (al_cons ⟨_, xs.cl_Barred, xs.s_Barred_Barred⟩ (al_cons ⟨_, xs.cl_Lost, xs.s_Lost_Barred⟩ (al_cons ⟨_, xs.cl_Gap, xs.s_Gap_Barred⟩ (al_cons ⟨_, xs.cl_Apart, xs.s_Apart_Barred⟩ (al_cons ⟨_, xs.cl_Stopped, xs.s_Stopped_Barred⟩ (al_cons ⟨_, xs.cl_Shared, xs.s_Shared_Barred⟩ (al_cons ⟨_, xs.cl_Tied, xs.s_Tied_Barred⟩ (al_cons ⟨_, xs.cl_Taken, xs.s_Taken_Barred⟩ (al_cons ⟨_, xs.cl_Last, xs.s_Last_Barred⟩ (al_cons ⟨_, xs.cl_TooMany, xs.s_TooMany_Barred⟩ (al_cons ⟨_, xs.cl_Full, xs.s_Full_Barred⟩ al_nil))))))))))))))))))))) zs.isinstance_ (nB 2)))
    (ds_one (ds_ret (callF c_same hg (hr.mono (by omega)) (aS (de_sh (xFld "ring" ["Barred", "Gap"] (al_cons ⟨_, xs.cl_Barred, xs.f_Barred_ring⟩ (al_cons ⟨_, xs.cl_Gap, xs.f_Gap_ring⟩ al_nil)) (nB 2))) (aS (nS 0) da_nilS)) (fun _ _ _ _ _ _ us hl => match us, hl with | [_, _], _ => rfl))))
    ds_nil)
    (ds_cons (ds_if (tVal (isO [("Unlike", false), ("BadText", false), ("BadRow", false), ("Own", false), ("NoName", false), ("NoBook", false), ("NoTie", false), ("NoPlace", false), ("NoDeed", false), ("MayNot", false), ("Barred", false), ("Lost", true), ("Gap", false), ("Apart", false), ("Stopped", false), ("Shared", false), ("Tied", false), ("Taken", false), ("Last", false), ("TooMany", false), ("Full", false)] xs.cl_Lost xs.nn_Lost xs.s_Lost_Lost (al_cons ⟨_, xs.cl_Unlike, xs.s_Unlike_Lost⟩ (al_cons ⟨_, xs.cl_BadText, xs.s_BadText_Lost⟩ (al_cons ⟨_, xs.cl_BadRow, xs.s_BadRow_Lost⟩ (al_cons ⟨_, xs.cl_Own, xs.s_Own_Lost⟩ (al_cons ⟨_, xs.cl_NoName, xs.s_NoName_Lost⟩ (al_cons ⟨_, xs.cl_NoBook, xs.s_NoBook_Lost⟩ (al_cons ⟨_, xs.cl_NoTie, xs.s_NoTie_Lost⟩ (al_cons ⟨_, xs.cl_NoPlace, xs.s_NoPlace_Lost⟩ (al_cons ⟨_, xs.cl_NoDeed, xs.s_NoDeed_Lost⟩ (al_cons ⟨_, xs.cl_MayNot, xs.s_MayNot_Lost⟩ (al_cons ⟨_, xs.cl_Barred, xs.s_Barred_Lost⟩ (al_cons ⟨_, xs.cl_Lost, xs.s_Lost_Lost⟩ (al_cons ⟨_, xs.cl_Gap, xs.s_Gap_Lost⟩ (al_cons ⟨_, xs.cl_Apart, xs.s_Apart_Lost⟩ (al_cons ⟨_, xs.cl_Stopped, xs.s_Stopped_Lost⟩ (al_cons ⟨_, xs.cl_Shared, xs.s_Shared_Lost⟩ (al_cons ⟨_, xs.cl_Tied, xs.s_Tied_Lost⟩ (al_cons ⟨_, xs.cl_Taken, xs.s_Taken_Lost⟩ (al_cons ⟨_, xs.cl_Last, xs.s_Last_Lost⟩ (al_cons ⟨_, xs.cl_TooMany, xs.s_TooMany_Lost⟩ (al_cons ⟨_, xs.cl_Full, xs.s_Full_Lost⟩ al_nil))))))))))))))))))))) zs.isinstance_ (nB 2)))
    (ds_one (ds_ret (callF c_same hg (hr.mono (by omega)) (aS (de_sh (xFld "place" ["Lost", "Gap"] (al_cons ⟨_, xs.cl_Lost, xs.f_Lost_place⟩ (al_cons ⟨_, xs.cl_Gap, xs.f_Gap_place⟩ al_nil)) (nB 2))) (aS (nS 0) da_nilS)) (fun _ _ _ _ _ _ us hl => match us, hl with | [_, _], _ => rfl))))
    ds_nil)
    (ds_one (ds_ret (callF c_same hg (hr.mono (by omega)) (aS (de_sh (xFld "book" ["Own", "NoName", "NoBook", "MayNot", "Shared", "Taken"] (al_cons ⟨_, xs.cl_Own, xs.f_Own_book⟩ (al_cons ⟨_, xs.cl_NoName, xs.f_NoName_book⟩ (al_cons ⟨_, xs.cl_NoBook, xs.f_NoBook_book⟩ (al_cons ⟨_, xs.cl_MayNot, xs.f_MayNot_book⟩ (al_cons ⟨_, xs.cl_Shared, xs.f_Shared_book⟩ (al_cons ⟨_, xs.cl_Taken, xs.f_Taken_book⟩ al_nil)))))) (nB 2))) (aS (nS 0) da_nilS)) (fun _ _ _ _ _ _ us hl => match us, hl with | [_, _], _ => rfl))))))))))))))
theorem ok_kinds (zs : Zs mg) (S : Std K mg "_law_kinds" s_kinds) {e0 e1 e2 e3 e4 e5 e6 e7 e8 e9 e10 e11 e12 e13 e14 e15 e16 e17 e18 e19 e20 : Addr} (xs : Xs K mg e0 e1 e2 e3 e4 e5 e6 e7 e8 e9 e10 e11 e12 e13 e14 e15 e16 e17 e18 e19 e20)  : Cal P w K mg base 1 "_law_kinds" s_kinds g_kinds ["_law_error"] := by
  refine Cal.of (k := 0) 2 S sc_kinds rfl fun f cdv A outer s H E hg hr => ?_
  have nd : N_kinds.Nodup := sc_kinds.nd
  exact (ds_cons (stSet 1 nd (de_sh (xLst (aV (isO [("Unlike", false), ("BadText", false), ("BadRow", false), ("Own", false), ("NoName", false), ("NoBook", false), ("NoTie", false), ("NoPlace", false), ("NoDeed", false), ("MayNot", false), ("Barred", false), ("Lost", false), ("Gap", false), ("Apart", true), ("Stopped", false), ("Shared", false), ("Tied", false), ("Taken", false), ("Last", false), ("TooMany", false), ("Full", false)] xs.cl_Apart xs.nn_Apart xs.s_Apart_Apart (al_cons ⟨_, xs.cl_Unlike, xs.s_Unlike_Apart⟩ (al_cons ⟨_, xs.cl_BadText, xs.s_BadText_Apart⟩ (al_cons ⟨_, xs.cl_BadRow, xs.s_BadRow_Apart⟩ (al_cons ⟨_, xs.cl_Own, xs.s_Own_Apart⟩ (al_cons ⟨_, xs.cl_NoName, xs.s_NoName_Apart⟩ (al_cons ⟨_, xs.cl_NoBook, xs.s_NoBook_Apart⟩ (al_cons ⟨_, xs.cl_NoTie, xs.s_NoTie_Apart⟩ (al_cons ⟨_, xs.cl_NoPlace, xs.s_NoPlace_Apart⟩ (al_cons ⟨_, xs.cl_NoDeed, xs.s_NoDeed_Apart⟩ (al_cons ⟨_, xs.cl_MayNot, xs.s_MayNot_Apart⟩ (al_cons ⟨_, xs.cl_Barred, xs.s_Barred_Apart⟩ (al_cons ⟨_, xs.cl_Lost, xs.s_Lost_Apart⟩ (al_cons ⟨_, xs.cl_Gap, xs.s_Gap_Apart⟩ (al_cons ⟨_, xs.cl_Apart, xs.s_Apart_Apart⟩ (al_cons ⟨_, xs.cl_Stopped, xs.s_Stopped_Apart⟩ (al_cons ⟨_, xs.cl_Shared, xs.s_Shared_Apart⟩ (al_cons ⟨_, xs.cl_Tied, xs.s_Tied_Apart⟩ (al_cons ⟨_, xs.cl_Taken, xs.s_Taken_Apart⟩ (al_cons ⟨_, xs.cl_Last, xs.s_Last_Apart⟩ (al_cons ⟨_, xs.cl_TooMany, xs.s_TooMany_Apart⟩ (al_cons ⟨_, xs.cl_Full, xs.s_Full_Apart⟩ al_nil))))))))))))))))))))) zs.isinstance_ (nB 0)) (aV (isO [("Unlike", false), ("BadText", false), ("BadRow", true), ("Own", false), ("NoName", false), ("NoBook", false), ("NoTie", false), ("NoPlace", false), ("NoDeed", false), ("MayNot", false), ("Barred", false), ("Lost", false), ("Gap", false), ("Apart", false), ("Stopped", false), ("Shared", false), ("Tied", false), ("Taken", false), ("Last", false), ("TooMany", false), ("Full", false)] xs.cl_BadRow xs.nn_BadRow xs.s_BadRow_BadRow (al_cons ⟨_, xs.cl_Unlike, xs.s_Unlike_BadRow⟩ (al_cons ⟨_, xs.cl_BadText, xs.s_BadText_BadRow⟩ (al_cons ⟨_, xs.cl_BadRow, xs.s_BadRow_BadRow⟩ (al_cons ⟨_, xs.cl_Own, xs.s_Own_BadRow⟩ (al_cons ⟨_, xs.cl_NoName, xs.s_NoName_BadRow⟩ (al_cons ⟨_, xs.cl_NoBook, xs.s_NoBook_BadRow⟩ (al_cons ⟨_, xs.cl_NoTie, xs.s_NoTie_BadRow⟩ (al_cons ⟨_, xs.cl_NoPlace, xs.s_NoPlace_BadRow⟩ (al_cons ⟨_, xs.cl_NoDeed, xs.s_NoDeed_BadRow⟩ (al_cons ⟨_, xs.cl_MayNot, xs.s_MayNot_BadRow⟩ (al_cons ⟨_, xs.cl_Barred, xs.s_Barred_BadRow⟩ (al_cons ⟨_, xs.cl_Lost, xs.s_Lost_BadRow⟩ (al_cons ⟨_, xs.cl_Gap, xs.s_Gap_BadRow⟩ (al_cons ⟨_, xs.cl_Apart, xs.s_Apart_BadRow⟩ (al_cons ⟨_, xs.cl_Stopped, xs.s_Stopped_BadRow⟩ (al_cons ⟨_, xs.cl_Shared, xs.s_Shared_BadRow⟩ (al_cons ⟨_, xs.cl_Tied, xs.s_Tied_BadRow⟩ (al_cons ⟨_, xs.cl_Taken, xs.s_Taken_BadRow⟩ (al_cons ⟨_, xs.cl_Last, xs.s_Last_BadRow⟩ (al_cons ⟨_, xs.cl_TooMany, xs.s_TooMany_BadRow⟩ (al_cons ⟨_, xs.cl_Full, xs.s_Full_BadRow⟩ al_nil))))))))))))))))))))) zs.isinstance_ (nB 0)) (aV (isO [("Unlike", false), ("BadText", true), ("BadRow", false), ("Own", false), ("NoName", false), ("NoBook", false), ("NoTie", false), ("NoPlace", false), ("NoDeed", false), ("MayNot", false), ("Barred", false), ("Lost", false), ("Gap", false), ("Apart", false), ("Stopped", false), ("Shared", false), ("Tied", false), ("Taken", false), ("Last", false), ("TooMany", false), ("Full", false)] xs.cl_BadText xs.nn_BadText xs.s_BadText_BadText (al_cons ⟨_, xs.cl_Unlike, xs.s_Unlike_BadText⟩ (al_cons ⟨_, xs.cl_BadText, xs.s_BadText_BadText⟩ (al_cons ⟨_, xs.cl_BadRow, xs.s_BadRow_BadText⟩ (al_cons ⟨_, xs.cl_Own, xs.s_Own_BadText⟩ (al_cons ⟨_, xs.cl_NoName, xs.s_NoName_BadText⟩ (al_cons ⟨_, xs.cl_NoBook, xs.s_NoBook_BadText⟩ (al_cons ⟨_, xs.cl_NoTie, xs.s_NoTie_BadText⟩ (al_cons ⟨_, xs.cl_NoPlace, xs.s_NoPlace_BadText⟩ (al_cons ⟨_, xs.cl_NoDeed, xs.s_NoDeed_BadText⟩ (al_cons ⟨_, xs.cl_MayNot, xs.s_MayNot_BadText⟩ (al_cons ⟨_, xs.cl_Barred, xs.s_Barred_BadText⟩ (al_cons ⟨_, xs.cl_Lost, xs.s_Lost_BadText⟩ (al_cons ⟨_, xs.cl_Gap, xs.s_Gap_BadText⟩ (al_cons ⟨_, xs.cl_Apart, xs.s_Apart_BadText⟩ (al_cons ⟨_, xs.cl_Stopped, xs.s_Stopped_BadText⟩ (al_cons ⟨_, xs.cl_Shared, xs.s_Shared_BadText⟩ (al_cons ⟨_, xs.cl_Tied, xs.s_Tied_BadText⟩ (al_cons ⟨_, xs.cl_Taken, xs.s_Taken_BadText⟩ (al_cons ⟨_, xs.cl_Last, xs.s_Last_BadText⟩ (al_cons ⟨_, xs.cl_TooMany, xs.s_TooMany_BadText⟩ (al_cons ⟨_, xs.cl_Full, xs.s_Full_BadText⟩ al_nil))))))))))))))))))))) zs.isinstance_ (nB 0)) (aV (isO [("Unlike", false), ("BadText", false), ("BadRow", false), ("Own", false), ("NoName", false), ("NoBook", false), ("NoTie", false), ("NoPlace", false), ("NoDeed", false), ("MayNot", false), ("Barred", true), ("Lost", false), ("Gap", false), ("Apart", false), ("Stopped", false), ("Shared", false), ("Tied", false), ("Taken", false), ("Last", false), ("TooMany", false), ("Full", false)] xs.cl_Barred xs.nn_Barred xs.s_Barred_Barred (al_cons ⟨_, xs.cl_Unlike, xs.s_Unlike_Barred⟩ (al_cons ⟨_, xs.cl_BadText, xs.s_BadText_Barred⟩ (al_cons ⟨_, xs.cl_BadRow, xs.s_BadRow_Barred⟩ (al_cons ⟨_, xs.cl_Own, xs.s_Own_Barred⟩ (al_cons ⟨_, xs.cl_NoName, xs.s_NoName_Barred⟩ (al_cons ⟨_, xs.cl_NoBook, xs.s_NoBook_Barred⟩ (al_cons ⟨_, xs.cl_NoTie, xs.s_NoTie_Barred⟩ (al_cons ⟨_, xs.cl_NoPlace, xs.s_NoPlace_Barred⟩ (al_cons ⟨_, xs.cl_NoDeed, xs.s_NoDeed_Barred⟩ (al_cons ⟨_, xs.cl_MayNot, xs.s_MayNot_Barred⟩ (al_cons ⟨_, xs.cl_Barred, xs.s_Barred_Barred⟩ (al_cons ⟨_, xs.cl_Lost, xs.s_Lost_Barred⟩ (al_cons ⟨_, xs.cl_Gap, xs.s_Gap_Barred⟩ (al_cons ⟨_, xs.cl_Apart, xs.s_Apart_Barred⟩ (al_cons ⟨_, xs.cl_Stopped, xs.s_Stopped_Barred⟩ (al_cons ⟨_, xs.cl_Shared, xs.s_Shared_Barred⟩ (al_cons ⟨_, xs.cl_Tied, xs.s_Tied_Barred⟩ (al_cons ⟨_, xs.cl_Taken, xs.s_Taken_Barred⟩ (al_cons ⟨_, xs.cl_Last, xs.s_Last_Barred⟩ (al_cons ⟨_, xs.cl_TooMany, xs.s_TooMany_Barred⟩ (al_cons ⟨_, xs.cl_Full, xs.s_Full_Barred⟩ al_nil))))))))))))))))))))) zs.isinstance_ (nB 0)) da_nil)))))))
    (ds_cons (stSet 1 nd (de_sh (xAdd (nI 1) (de_inn (xLst (aV (isO [("Unlike", false), ("BadText", false), ("BadRow", false), ("Own", false), ("NoName", false), ("NoBook", false), ("NoTie", false), ("NoPlace", false), ("NoDeed", false), ("MayNot", false), ("Barred", false), ("Lost", false), ("Gap", false), ("Apart", false), ("Stopped", false), ("Shared", false), ("Tied", false), ("Taken", false), ("Last", false), ("TooMany", false), ("Full", true)] xs.cl_Full xs.nn_Full xs.s_Full_Full (al_cons ⟨_, xs.cl_Unlike, xs.s_Unlike_Full⟩ (al_cons ⟨_, xs.cl_BadText, xs.s_BadText_Full⟩ (al_cons ⟨_, xs.cl_BadRow, xs.s_BadRow_Full⟩ (al_cons ⟨_, xs.cl_Own, xs.s_Own_Full⟩ (al_cons ⟨_, xs.cl_NoName, xs.s_NoName_Full⟩ (al_cons ⟨_, xs.cl_NoBook, xs.s_NoBook_Full⟩ (al_cons ⟨_, xs.cl_NoTie, xs.s_NoTie_Full⟩ (al_cons ⟨_, xs.cl_NoPlace, xs.s_NoPlace_Full⟩ (al_cons ⟨_, xs.cl_NoDeed, xs.s_NoDeed_Full⟩ (al_cons ⟨_, xs.cl_MayNot, xs.s_MayNot_Full⟩ (al_cons ⟨_, xs.cl_Barred, xs.s_Barred_Full⟩ (al_cons ⟨_, xs.cl_Lost, xs.s_Lost_Full⟩ (al_cons ⟨_, xs.cl_Gap, xs.s_Gap_Full⟩ (al_cons ⟨_, xs.cl_Apart, xs.s_Apart_Full⟩ (al_cons ⟨_, xs.cl_Stopped, xs.s_Stopped_Full⟩ (al_cons ⟨_, xs.cl_Shared, xs.s_Shared_Full⟩ (al_cons ⟨_, xs.cl_Tied, xs.s_Tied_Full⟩ (al_cons ⟨_, xs.cl_Taken, xs.s_Taken_Full⟩ (al_cons ⟨_, xs.cl_Last, xs.s_Last_Full⟩ (al_cons ⟨_, xs.cl_TooMany, xs.s_TooMany_Full⟩ (al_cons ⟨_, xs.cl_Full, xs.s_Full_Full⟩ al_nil))))))))))))))))))))) zs.isinstance_ (nB 0)) (aV (isO [("Unlike", false), ("BadText", false), ("BadRow", false), ("Own", false), ("NoName", false), ("NoBook", false), ("NoTie", false), ("NoPlace", false), ("NoDeed", false), ("MayNot", false), ("Barred", false), ("Lost", false), ("Gap", true), ("Apart", false), ("Stopped", false), ("Shared", false), ("Tied", false), ("Taken", false), ("Last", false), ("TooMany", false), ("Full", false)] xs.cl_Gap xs.nn_Gap xs.s_Gap_Gap (al_cons ⟨_, xs.cl_Unlike, xs.s_Unlike_Gap⟩ (al_cons ⟨_, xs.cl_BadText, xs.s_BadText_Gap⟩ (al_cons ⟨_, xs.cl_BadRow, xs.s_BadRow_Gap⟩ (al_cons ⟨_, xs.cl_Own, xs.s_Own_Gap⟩ (al_cons ⟨_, xs.cl_NoName, xs.s_NoName_Gap⟩ (al_cons ⟨_, xs.cl_NoBook, xs.s_NoBook_Gap⟩ (al_cons ⟨_, xs.cl_NoTie, xs.s_NoTie_Gap⟩ (al_cons ⟨_, xs.cl_NoPlace, xs.s_NoPlace_Gap⟩ (al_cons ⟨_, xs.cl_NoDeed, xs.s_NoDeed_Gap⟩ (al_cons ⟨_, xs.cl_MayNot, xs.s_MayNot_Gap⟩ (al_cons ⟨_, xs.cl_Barred, xs.s_Barred_Gap⟩ (al_cons ⟨_, xs.cl_Lost, xs.s_Lost_Gap⟩ (al_cons ⟨_, xs.cl_Gap, xs.s_Gap_Gap⟩ (al_cons ⟨_, xs.cl_Apart, xs.s_Apart_Gap⟩ (al_cons ⟨_, xs.cl_Stopped, xs.s_Stopped_Gap⟩ (al_cons ⟨_, xs.cl_Shared, xs.s_Shared_Gap⟩ (al_cons ⟨_, xs.cl_Tied, xs.s_Tied_Gap⟩ (al_cons ⟨_, xs.cl_Taken, xs.s_Taken_Gap⟩ (al_cons ⟨_, xs.cl_Last, xs.s_Last_Gap⟩ (al_cons ⟨_, xs.cl_TooMany, xs.s_TooMany_Gap⟩ (al_cons ⟨_, xs.cl_Full, xs.s_Full_Gap⟩ al_nil))))))))))))))))))))) zs.isinstance_ (nB 0)) (aV (isO [("Unlike", false), ("BadText", false), ("BadRow", false), ("Own", false), ("NoName", false), ("NoBook", false), ("NoTie", false), ("NoPlace", false), ("NoDeed", false), ("MayNot", false), ("Barred", false), ("Lost", false), ("Gap", false), ("Apart", false), ("Stopped", false), ("Shared", false), ("Tied", false), ("Taken", false), ("Last", true), ("TooMany", false), ("Full", false)] xs.cl_Last xs.nn_Last xs.s_Last_Last (al_cons ⟨_, xs.cl_Unlike, xs.s_Unlike_Last⟩ (al_cons ⟨_, xs.cl_BadText, xs.s_BadText_Last⟩ (al_cons ⟨_, xs.cl_BadRow, xs.s_BadRow_Last⟩ (al_cons ⟨_, xs.cl_Own, xs.s_Own_Last⟩ (al_cons ⟨_, xs.cl_NoName, xs.s_NoName_Last⟩ (al_cons ⟨_, xs.cl_NoBook, xs.s_NoBook_Last⟩ (al_cons ⟨_, xs.cl_NoTie, xs.s_NoTie_Last⟩ (al_cons ⟨_, xs.cl_NoPlace, xs.s_NoPlace_Last⟩ (al_cons ⟨_, xs.cl_NoDeed, xs.s_NoDeed_Last⟩ (al_cons ⟨_, xs.cl_MayNot, xs.s_MayNot_Last⟩ (al_cons ⟨_, xs.cl_Barred, xs.s_Barred_Last⟩ (al_cons ⟨_, xs.cl_Lost, xs.s_Lost_Last⟩ (al_cons ⟨_, xs.cl_Gap, xs.s_Gap_Last⟩ (al_cons ⟨_, xs.cl_Apart, xs.s_Apart_Last⟩ (al_cons ⟨_, xs.cl_Stopped, xs.s_Stopped_Last⟩ (al_cons ⟨_, xs.cl_Shared, xs.s_Shared_Last⟩ (al_cons ⟨_, xs.cl_Tied, xs.s_Tied_Last⟩ (al_cons ⟨_, xs.cl_Taken, xs.s_Taken_Last⟩ (al_cons ⟨_, xs.cl_Last, xs.s_Last_Last⟩ (al_cons ⟨_, xs.cl_TooMany, xs.s_TooMany_Last⟩ (al_cons ⟨_, xs.cl_Full, xs.s_Full_Last⟩ al_nil))))))))))))))))))))) zs.isinstance_ (nB 0)) (aV (isO [("Unlike", false), ("BadText", false), ("BadRow", false), ("Own", false), ("NoName", false), ("NoBook", false), ("NoTie", false), ("NoPlace", false), ("NoDeed", false), ("MayNot", false), ("Barred", false), ("Lost", true), ("Gap", false), ("Apart", false), ("Stopped", false), ("Shared", false), ("Tied", false), ("Taken", false), ("Last", false), ("TooMany", false), ("Full", false)] xs.cl_Lost xs.nn_Lost xs.s_Lost_Lost (al_cons ⟨_, xs.cl_Unlike, xs.s_Unlike_Lost⟩ (al_cons ⟨_, xs.cl_BadText, xs.s_BadText_Lost⟩ (al_cons ⟨_, xs.cl_BadRow, xs.s_BadRow_Lost⟩ (al_cons ⟨_, xs.cl_Own, xs.s_Own_Lost⟩ (al_cons ⟨_, xs.cl_NoName, xs.s_NoName_Lost⟩ (al_cons ⟨_, xs.cl_NoBook, xs.s_NoBook_Lost⟩ (al_cons ⟨_, xs.cl_NoTie, xs.s_NoTie_Lost⟩ (al_cons ⟨_, xs.cl_NoPlace, xs.s_NoPlace_Lost⟩ (al_cons ⟨_, xs.cl_NoDeed, xs.s_NoDeed_Lost⟩ (al_cons ⟨_, xs.cl_MayNot, xs.s_MayNot_Lost⟩ (al_cons ⟨_, xs.cl_Barred, xs.s_Barred_Lost⟩ (al_cons ⟨_, xs.cl_Lost, xs.s_Lost_Lost⟩ (al_cons ⟨_, xs.cl_Gap, xs.s_Gap_Lost⟩ (al_cons ⟨_, xs.cl_Apart, xs.s_Apart_Lost⟩ (al_cons ⟨_, xs.cl_Stopped, xs.s_Stopped_Lost⟩ (al_cons ⟨_, xs.cl_Shared, xs.s_Shared_Lost⟩ (al_cons ⟨_, xs.cl_Tied, xs.s_Tied_Lost⟩ (al_cons ⟨_, xs.cl_Taken, xs.s_Taken_Lost⟩ (al_cons ⟨_, xs.cl_Last, xs.s_Last_Lost⟩ (al_cons ⟨_, xs.cl_TooMany, xs.s_TooMany_Lost⟩ (al_cons ⟨_, xs.cl_Full, xs.s_Full_Lost⟩ al_nil))))))))))))))))))))) zs.isinstance_ (nB 0)) da_nil)))))))))
    (ds_cons (stSet 1 nd (de_sh (xAdd (nI 1) (de_inn (xLst (aV (isO [("Unlike", false), ("BadText", false), ("BadRow", false), ("Own", false), ("NoName", false), ("NoBook", false), ("NoTie", false), ("NoPlace", false), ("NoDeed", false), ("MayNot", true), ("Barred", false), ("Lost", false), ("Gap", false), ("Apart", false), ("Stopped", false), ("Shared", false), ("Tied", false), ("Taken", false), ("Last", false), ("TooMany", false), ("Full", false)] xs.cl_MayNot xs.nn_MayNot xs.s_MayNot_MayNot (al_cons ⟨_, xs.cl_Unlike, xs.s_Unlike_MayNot⟩ (al_cons ⟨_, xs.cl_BadText, xs.s_BadText_MayNot⟩ (al_cons ⟨_, xs.cl_BadRow, xs.s_BadRow_MayNot⟩ (al_cons ⟨_, xs.cl_Own, xs.s_Own_MayNot⟩ (al_cons ⟨_, xs.cl_NoName, xs.s_NoName_MayNot⟩ (al_cons ⟨_, xs.cl_NoBook, xs.s_NoBook_MayNot⟩ (al_cons ⟨_, xs.cl_NoTie, xs.s_NoTie_MayNot⟩ (al_cons ⟨_, xs.cl_NoPlace, xs.s_NoPlace_MayNot⟩ (al_cons ⟨_, xs.cl_NoDeed, xs.s_NoDeed_MayNot⟩ (al_cons ⟨_, xs.cl_MayNot, xs.s_MayNot_MayNot⟩ (al_cons ⟨_, xs.cl_Barred, xs.s_Barred_MayNot⟩ (al_cons ⟨_, xs.cl_Lost, xs.s_Lost_MayNot⟩ (al_cons ⟨_, xs.cl_Gap, xs.s_Gap_MayNot⟩ (al_cons ⟨_, xs.cl_Apart, xs.s_Apart_MayNot⟩ (al_cons ⟨_, xs.cl_Stopped, xs.s_Stopped_MayNot⟩ (al_cons ⟨_, xs.cl_Shared, xs.s_Shared_MayNot⟩ (al_cons ⟨_, xs.cl_Tied, xs.s_Tied_MayNot⟩ (al_cons ⟨_, xs.cl_Taken, xs.s_Taken_MayNot⟩ (al_cons ⟨_, xs.cl_Last, xs.s_Last_MayNot⟩ (al_cons ⟨_, xs.cl_TooMany, xs.s_TooMany_MayNot⟩ (al_cons ⟨_, xs.cl_Full, xs.s_Full_MayNot⟩ al_nil))))))))))))))))))))) zs.isinstance_ (nB 0)) (aV (isO [("Unlike", false), ("BadText", false), ("BadRow", false), ("Own", false), ("NoName", false), ("NoBook", true), ("NoTie", false), ("NoPlace", false), ("NoDeed", false), ("MayNot", false), ("Barred", false), ("Lost", false), ("Gap", false), ("Apart", false), ("Stopped", false), ("Shared", false), ("Tied", false), ("Taken", false), ("Last", false), ("TooMany", false), ("Full", false)] xs.cl_NoBook xs.nn_NoBook xs.s_NoBook_NoBook (al_cons ⟨_, xs.cl_Unlike, xs.s_Unlike_NoBook⟩ (al_cons ⟨_, xs.cl_BadText, xs.s_BadText_NoBook⟩ (al_cons ⟨_, xs.cl_BadRow, xs.s_BadRow_NoBook⟩ (al_cons ⟨_, xs.cl_Own, xs.s_Own_NoBook⟩ (al_cons ⟨_, xs.cl_NoName, xs.s_NoName_NoBook⟩ (al_cons ⟨_, xs.cl_NoBook, xs.s_NoBook_NoBook⟩ (al_cons ⟨_, xs.cl_NoTie, xs.s_NoTie_NoBook⟩ (al_cons ⟨_, xs.cl_NoPlace, xs.s_NoPlace_NoBook⟩ (al_cons ⟨_, xs.cl_NoDeed, xs.s_NoDeed_NoBook⟩ (al_cons ⟨_, xs.cl_MayNot, xs.s_MayNot_NoBook⟩ (al_cons ⟨_, xs.cl_Barred, xs.s_Barred_NoBook⟩ (al_cons ⟨_, xs.cl_Lost, xs.s_Lost_NoBook⟩ (al_cons ⟨_, xs.cl_Gap, xs.s_Gap_NoBook⟩ (al_cons ⟨_, xs.cl_Apart, xs.s_Apart_NoBook⟩ (al_cons ⟨_, xs.cl_Stopped, xs.s_Stopped_NoBook⟩ (al_cons ⟨_, xs.cl_Shared, xs.s_Shared_NoBook⟩ (al_cons ⟨_, xs.cl_Tied, xs.s_Tied_NoBook⟩ (al_cons ⟨_, xs.cl_Taken, xs.s_Taken_NoBook⟩ (al_cons ⟨_, xs.cl_Last, xs.s_Last_NoBook⟩ (al_cons ⟨_, xs.cl_TooMany, xs.s_TooMany_NoBook⟩ (al_cons ⟨_, xs.cl_Full, xs.s_Full_NoBook⟩ al_nil))))))))))))))))))))) zs.isinstance_ (nB 0)) (aV (isO [("Unlike", false), ("BadText", false), ("BadRow", false), ("Own", false), ("NoName", false), ("NoBook", false), ("NoTie", false), ("NoPlace", false), ("NoDeed", true), ("MayNot", false), ("Barred", false), ("Lost", false), ("Gap", false), ("Apart", false), ("Stopped", false), ("Shared", false), ("Tied", false), ("Taken", false), ("Last", false), ("TooMany", false), ("Full", false)] xs.cl_NoDeed xs.nn_NoDeed xs.s_NoDeed_NoDeed (al_cons ⟨_, xs.cl_Unlike, xs.s_Unlike_NoDeed⟩ (al_cons ⟨_, xs.cl_BadText, xs.s_BadText_NoDeed⟩ (al_cons ⟨_, xs.cl_BadRow, xs.s_BadRow_NoDeed⟩ (al_cons ⟨_, xs.cl_Own, xs.s_Own_NoDeed⟩ (al_cons ⟨_, xs.cl_NoName, xs.s_NoName_NoDeed⟩ (al_cons ⟨_, xs.cl_NoBook, xs.s_NoBook_NoDeed⟩ (al_cons ⟨_, xs.cl_NoTie, xs.s_NoTie_NoDeed⟩ (al_cons ⟨_, xs.cl_NoPlace, xs.s_NoPlace_NoDeed⟩ (al_cons ⟨_, xs.cl_NoDeed, xs.s_NoDeed_NoDeed⟩ (al_cons ⟨_, xs.cl_MayNot, xs.s_MayNot_NoDeed⟩ (al_cons ⟨_, xs.cl_Barred, xs.s_Barred_NoDeed⟩ (al_cons ⟨_, xs.cl_Lost, xs.s_Lost_NoDeed⟩ (al_cons ⟨_, xs.cl_Gap, xs.s_Gap_NoDeed⟩ (al_cons ⟨_, xs.cl_Apart, xs.s_Apart_NoDeed⟩ (al_cons ⟨_, xs.cl_Stopped, xs.s_Stopped_NoDeed⟩ (al_cons ⟨_, xs.cl_Shared, xs.s_Shared_NoDeed⟩ (al_cons ⟨_, xs.cl_Tied, xs.s_Tied_NoDeed⟩ (al_cons ⟨_, xs.cl_Taken, xs.s_Taken_NoDeed⟩ (al_cons ⟨_, xs.cl_Last, xs.s_Last_NoDeed⟩ (al_cons ⟨_, xs.cl_TooMany, xs.s_TooMany_NoDeed⟩ (al_cons ⟨_, xs.cl_Full, xs.s_Full_NoDeed⟩ al_nil))))))))))))))))))))) zs.isinstance_ (nB 0)) da_nil))))))))
    (ds_cons (stSet 1 nd (de_sh (xAdd (nI 1) (de_inn (xLst (aV (isO [("Unlike", false), ("BadText", false), ("BadRow", false), ("Own", false), ("NoName", true), ("NoBook", false), ("NoTie", false), ("NoPlace", false), ("NoDeed", false), ("MayNot", false), ("Barred", false), ("Lost", false), ("Gap", false), ("Apart", false), ("Stopped", false), ("Shared", false), ("Tied", false), ("Taken", false), ("Last", false), ("TooMany", false), ("Full", false)] xs.cl_NoName xs.nn_NoName xs.s_NoName_NoName (al_cons ⟨_, xs.cl_Unlike, xs.s_Unlike_NoName⟩ (al_cons ⟨_, xs.cl_BadText, xs.s_BadText_NoName⟩ (al_cons ⟨_, xs.cl_BadRow, xs.s_BadRow_NoName⟩ (al_cons ⟨_, xs.cl_Own, xs.s_Own_NoName⟩ (al_cons ⟨_, xs.cl_NoName, xs.s_NoName_NoName⟩ (al_cons ⟨_, xs.cl_NoBook, xs.s_NoBook_NoName⟩ (al_cons ⟨_, xs.cl_NoTie, xs.s_NoTie_NoName⟩ (al_cons ⟨_, xs.cl_NoPlace, xs.s_NoPlace_NoName⟩ (al_cons ⟨_, xs.cl_NoDeed, xs.s_NoDeed_NoName⟩ (al_cons ⟨_, xs.cl_MayNot, xs.s_MayNot_NoName⟩ (al_cons ⟨_, xs.cl_Barred, xs.s_Barred_NoName⟩ (al_cons ⟨_, xs.cl_Lost, xs.s_Lost_NoName⟩ (al_cons ⟨_, xs.cl_Gap, xs.s_Gap_NoName⟩ (al_cons ⟨_, xs.cl_Apart, xs.s_Apart_NoName⟩ (al_cons ⟨_, xs.cl_Stopped, xs.s_Stopped_NoName⟩ (al_cons ⟨_, xs.cl_Shared, xs.s_Shared_NoName⟩ (al_cons ⟨_, xs.cl_Tied, xs.s_Tied_NoName⟩ (al_cons ⟨_, xs.cl_Taken, xs.s_Taken_NoName⟩ (al_cons ⟨_, xs.cl_Last, xs.s_Last_NoName⟩ (al_cons ⟨_, xs.cl_TooMany, xs.s_TooMany_NoName⟩ (al_cons ⟨_, xs.cl_Full, xs.s_Full_NoName⟩ al_nil))))))))))))))))))))) zs.isinstance_ (nB 0)) (aV (isO [("Unlike", false), ("BadText", false), ("BadRow", false), ("Own", false), ("NoName", false), ("NoBook", false), ("NoTie", false), ("NoPlace", true), ("NoDeed", false), ("MayNot", false), ("Barred", false), ("Lost", false), ("Gap", false), ("Apart", false), ("Stopped", false), ("Shared", false), ("Tied", false), ("Taken", false), ("Last", false), ("TooMany", false), ("Full", false)] xs.cl_NoPlace xs.nn_NoPlace xs.s_NoPlace_NoPlace (al_cons ⟨_, xs.cl_Unlike, xs.s_Unlike_NoPlace⟩ (al_cons ⟨_, xs.cl_BadText, xs.s_BadText_NoPlace⟩ (al_cons ⟨_, xs.cl_BadRow, xs.s_BadRow_NoPlace⟩ (al_cons ⟨_, xs.cl_Own, xs.s_Own_NoPlace⟩ (al_cons ⟨_, xs.cl_NoName, xs.s_NoName_NoPlace⟩ (al_cons ⟨_, xs.cl_NoBook, xs.s_NoBook_NoPlace⟩ (al_cons ⟨_, xs.cl_NoTie, xs.s_NoTie_NoPlace⟩ (al_cons ⟨_, xs.cl_NoPlace, xs.s_NoPlace_NoPlace⟩ (al_cons ⟨_, xs.cl_NoDeed, xs.s_NoDeed_NoPlace⟩ (al_cons ⟨_, xs.cl_MayNot, xs.s_MayNot_NoPlace⟩ (al_cons ⟨_, xs.cl_Barred, xs.s_Barred_NoPlace⟩ (al_cons ⟨_, xs.cl_Lost, xs.s_Lost_NoPlace⟩ (al_cons ⟨_, xs.cl_Gap, xs.s_Gap_NoPlace⟩ (al_cons ⟨_, xs.cl_Apart, xs.s_Apart_NoPlace⟩ (al_cons ⟨_, xs.cl_Stopped, xs.s_Stopped_NoPlace⟩ (al_cons ⟨_, xs.cl_Shared, xs.s_Shared_NoPlace⟩ (al_cons ⟨_, xs.cl_Tied, xs.s_Tied_NoPlace⟩ (al_cons ⟨_, xs.cl_Taken, xs.s_Taken_NoPlace⟩ (al_cons ⟨_, xs.cl_Last, xs.s_Last_NoPlace⟩ (al_cons ⟨_, xs.cl_TooMany, xs.s_TooMany_NoPlace⟩ (al_cons ⟨_, xs.cl_Full, xs.s_Full_NoPlace⟩ al_nil))))))))))))))))))))) zs.isinstance_ (nB 0)) (aV (isO [("Unlike", false), ("BadText", false), ("BadRow", false), ("Own", false), ("NoName", false), ("NoBook", false), ("NoTie", true), ("NoPlace", false), ("NoDeed", false), ("MayNot", false), ("Barred", false), ("Lost", false), ("Gap", false), ("Apart", false), ("Stopped", false), ("Shared", false), ("Tied", false), ("Taken", false), ("Last", false), ("TooMany", false), ("Full", false)] xs.cl_NoTie xs.nn_NoTie xs.s_NoTie_NoTie (al_cons ⟨_, xs.cl_Unlike, xs.s_Unlike_NoTie⟩ (al_cons ⟨_, xs.cl_BadText, xs.s_BadText_NoTie⟩ (al_cons ⟨_, xs.cl_BadRow, xs.s_BadRow_NoTie⟩ (al_cons ⟨_, xs.cl_Own, xs.s_Own_NoTie⟩ (al_cons ⟨_, xs.cl_NoName, xs.s_NoName_NoTie⟩ (al_cons ⟨_, xs.cl_NoBook, xs.s_NoBook_NoTie⟩ (al_cons ⟨_, xs.cl_NoTie, xs.s_NoTie_NoTie⟩ (al_cons ⟨_, xs.cl_NoPlace, xs.s_NoPlace_NoTie⟩ (al_cons ⟨_, xs.cl_NoDeed, xs.s_NoDeed_NoTie⟩ (al_cons ⟨_, xs.cl_MayNot, xs.s_MayNot_NoTie⟩ (al_cons ⟨_, xs.cl_Barred, xs.s_Barred_NoTie⟩ (al_cons ⟨_, xs.cl_Lost, xs.s_Lost_NoTie⟩ (al_cons ⟨_, xs.cl_Gap, xs.s_Gap_NoTie⟩ (al_cons ⟨_, xs.cl_Apart, xs.s_Apart_NoTie⟩ (al_cons ⟨_, xs.cl_Stopped, xs.s_Stopped_NoTie⟩ (al_cons ⟨_, xs.cl_Shared, xs.s_Shared_NoTie⟩ (al_cons ⟨_, xs.cl_Tied, xs.s_Tied_NoTie⟩ (al_cons ⟨_, xs.cl_Taken, xs.s_Taken_NoTie⟩ (al_cons ⟨_, xs.cl_Last, xs.s_Last_NoTie⟩ (al_cons ⟨_, xs.cl_TooMany, xs.s_TooMany_NoTie⟩ (al_cons ⟨_, xs.cl_Full, xs.s_Full_NoTie⟩ al_nil))))))))))))))))))))) zs.isinstance_ (nB 0)) da_nil))))))))
    (ds_cons (stSet 1 nd (de_sh (xAdd (nI 1) (de_inn (xLst (aV (isO [("Unlike", false), ("BadText", false), ("BadRow", false), ("Own", true), ("NoName", false), ("NoBook", false), ("NoTie", false), ("NoPlace", false), ("NoDeed", false), ("MayNot", false), ("Barred", false), ("Lost", false), ("Gap", false), ("Apart", false), ("Stopped", false), ("Shared", false), ("Tied", false), ("Taken", false), ("Last", false), ("TooMany", false), ("Full", false)] xs.cl_Own xs.nn_Own xs.s_Own_Own (al_cons ⟨_, xs.cl_Unlike, xs.s_Unlike_Own⟩ (al_cons ⟨_, xs.cl_BadText, xs.s_BadText_Own⟩ (al_cons ⟨_, xs.cl_BadRow, xs.s_BadRow_Own⟩ (al_cons ⟨_, xs.cl_Own, xs.s_Own_Own⟩ (al_cons ⟨_, xs.cl_NoName, xs.s_NoName_Own⟩ (al_cons ⟨_, xs.cl_NoBook, xs.s_NoBook_Own⟩ (al_cons ⟨_, xs.cl_NoTie, xs.s_NoTie_Own⟩ (al_cons ⟨_, xs.cl_NoPlace, xs.s_NoPlace_Own⟩ (al_cons ⟨_, xs.cl_NoDeed, xs.s_NoDeed_Own⟩ (al_cons ⟨_, xs.cl_MayNot, xs.s_MayNot_Own⟩ (al_cons ⟨_, xs.cl_Barred, xs.s_Barred_Own⟩ (al_cons ⟨_, xs.cl_Lost, xs.s_Lost_Own⟩ (al_cons ⟨_, xs.cl_Gap, xs.s_Gap_Own⟩ (al_cons ⟨_, xs.cl_Apart, xs.s_Apart_Own⟩ (al_cons ⟨_, xs.cl_Stopped, xs.s_Stopped_Own⟩ (al_cons ⟨_, xs.cl_Shared, xs.s_Shared_Own⟩ (al_cons ⟨_, xs.cl_Tied, xs.s_Tied_Own⟩ (al_cons ⟨_, xs.cl_Taken, xs.s_Taken_Own⟩ (al_cons ⟨_, xs.cl_Last, xs.s_Last_Own⟩ (al_cons ⟨_, xs.cl_TooMany, xs.s_TooMany_Own⟩ (al_cons ⟨_, xs.cl_Full, xs.s_Full_Own⟩ al_nil))))))))))))))))))))) zs.isinstance_ (nB 0)) (aV (isO [("Unlike", false), ("BadText", false), ("BadRow", false), ("Own", false), ("NoName", false), ("NoBook", false), ("NoTie", false), ("NoPlace", false), ("NoDeed", false), ("MayNot", false), ("Barred", false), ("Lost", false), ("Gap", false), ("Apart", false), ("Stopped", false), ("Shared", true), ("Tied", false), ("Taken", false), ("Last", false), ("TooMany", false), ("Full", false)] xs.cl_Shared xs.nn_Shared xs.s_Shared_Shared (al_cons ⟨_, xs.cl_Unlike, xs.s_Unlike_Shared⟩ (al_cons ⟨_, xs.cl_BadText, xs.s_BadText_Shared⟩ (al_cons ⟨_, xs.cl_BadRow, xs.s_BadRow_Shared⟩ (al_cons ⟨_, xs.cl_Own, xs.s_Own_Shared⟩ (al_cons ⟨_, xs.cl_NoName, xs.s_NoName_Shared⟩ (al_cons ⟨_, xs.cl_NoBook, xs.s_NoBook_Shared⟩ (al_cons ⟨_, xs.cl_NoTie, xs.s_NoTie_Shared⟩ (al_cons ⟨_, xs.cl_NoPlace, xs.s_NoPlace_Shared⟩ (al_cons ⟨_, xs.cl_NoDeed, xs.s_NoDeed_Shared⟩ (al_cons ⟨_, xs.cl_MayNot, xs.s_MayNot_Shared⟩ (al_cons ⟨_, xs.cl_Barred, xs.s_Barred_Shared⟩ (al_cons ⟨_, xs.cl_Lost, xs.s_Lost_Shared⟩ (al_cons ⟨_, xs.cl_Gap, xs.s_Gap_Shared⟩ (al_cons ⟨_, xs.cl_Apart, xs.s_Apart_Shared⟩ (al_cons ⟨_, xs.cl_Stopped, xs.s_Stopped_Shared⟩ (al_cons ⟨_, xs.cl_Shared, xs.s_Shared_Shared⟩ (al_cons ⟨_, xs.cl_Tied, xs.s_Tied_Shared⟩ (al_cons ⟨_, xs.cl_Taken, xs.s_Taken_Shared⟩ (al_cons ⟨_, xs.cl_Last, xs.s_Last_Shared⟩ (al_cons ⟨_, xs.cl_TooMany, xs.s_TooMany_Shared⟩ (al_cons ⟨_, xs.cl_Full, xs.s_Full_Shared⟩ al_nil))))))))))))))))))))) zs.isinstance_ (nB 0)) (aV (isO [("Unlike", false), ("BadText", false), ("BadRow", false), ("Own", false), ("NoName", false), ("NoBook", false), ("NoTie", false), ("NoPlace", false), ("NoDeed", false), ("MayNot", false), ("Barred", false), ("Lost", false), ("Gap", false), ("Apart", false), ("Stopped", true), ("Shared", false), ("Tied", false), ("Taken", false), ("Last", false), ("TooMany", false), ("Full", false)] xs.cl_Stopped xs.nn_Stopped xs.s_Stopped_Stopped (al_cons ⟨_, xs.cl_Unlike, xs.s_Unlike_Stopped⟩ (al_cons ⟨_, xs.cl_BadText, xs.s_BadText_Stopped⟩ (al_cons ⟨_, xs.cl_BadRow, xs.s_BadRow_Stopped⟩ (al_cons ⟨_, xs.cl_Own, xs.s_Own_Stopped⟩ (al_cons ⟨_, xs.cl_NoName, xs.s_NoName_Stopped⟩ (al_cons ⟨_, xs.cl_NoBook, xs.s_NoBook_Stopped⟩ (al_cons ⟨_, xs.cl_NoTie, xs.s_NoTie_Stopped⟩ (al_cons ⟨_, xs.cl_NoPlace, xs.s_NoPlace_Stopped⟩ (al_cons ⟨_, xs.cl_NoDeed, xs.s_NoDeed_Stopped⟩ (al_cons ⟨_, xs.cl_MayNot, xs.s_MayNot_Stopped⟩ (al_cons ⟨_, xs.cl_Barred, xs.s_Barred_Stopped⟩ (al_cons ⟨_, xs.cl_Lost, xs.s_Lost_Stopped⟩ (al_cons ⟨_, xs.cl_Gap, xs.s_Gap_Stopped⟩ (al_cons ⟨_, xs.cl_Apart, xs.s_Apart_Stopped⟩ (al_cons ⟨_, xs.cl_Stopped, xs.s_Stopped_Stopped⟩ (al_cons ⟨_, xs.cl_Shared, xs.s_Shared_Stopped⟩ (al_cons ⟨_, xs.cl_Tied, xs.s_Tied_Stopped⟩ (al_cons ⟨_, xs.cl_Taken, xs.s_Taken_Stopped⟩ (al_cons ⟨_, xs.cl_Last, xs.s_Last_Stopped⟩ (al_cons ⟨_, xs.cl_TooMany, xs.s_TooMany_Stopped⟩ (al_cons ⟨_, xs.cl_Full, xs.s_Full_Stopped⟩ al_nil))))))))))))))))))))) zs.isinstance_ (nB 0)) da_nil))))))))
    (ds_cons (stSet 1 nd (de_sh (xAdd (nI 1) (de_inn (xLst (aV (isO [("Unlike", false), ("BadText", false), ("BadRow", false), ("Own", false), ("NoName", false), ("NoBook", false), ("NoTie", false), ("NoPlace", false), ("NoDeed", false), ("MayNot", false), ("Barred", false), ("Lost", false), ("Gap", false), ("Apart", false), ("Stopped", false), ("Shared", false), ("Tied", false), ("Taken", true), ("Last", false), ("TooMany", false), ("Full", false)] xs.cl_Taken xs.nn_Taken xs.s_Taken_Taken (al_cons ⟨_, xs.cl_Unlike, xs.s_Unlike_Taken⟩ (al_cons ⟨_, xs.cl_BadText, xs.s_BadText_Taken⟩ (al_cons ⟨_, xs.cl_BadRow, xs.s_BadRow_Taken⟩ (al_cons ⟨_, xs.cl_Own, xs.s_Own_Taken⟩ (al_cons ⟨_, xs.cl_NoName, xs.s_NoName_Taken⟩ (al_cons ⟨_, xs.cl_NoBook, xs.s_NoBook_Taken⟩ (al_cons ⟨_, xs.cl_NoTie, xs.s_NoTie_Taken⟩ (al_cons ⟨_, xs.cl_NoPlace, xs.s_NoPlace_Taken⟩ (al_cons ⟨_, xs.cl_NoDeed, xs.s_NoDeed_Taken⟩ (al_cons ⟨_, xs.cl_MayNot, xs.s_MayNot_Taken⟩ (al_cons ⟨_, xs.cl_Barred, xs.s_Barred_Taken⟩ (al_cons ⟨_, xs.cl_Lost, xs.s_Lost_Taken⟩ (al_cons ⟨_, xs.cl_Gap, xs.s_Gap_Taken⟩ (al_cons ⟨_, xs.cl_Apart, xs.s_Apart_Taken⟩ (al_cons ⟨_, xs.cl_Stopped, xs.s_Stopped_Taken⟩ (al_cons ⟨_, xs.cl_Shared, xs.s_Shared_Taken⟩ (al_cons ⟨_, xs.cl_Tied, xs.s_Tied_Taken⟩ (al_cons ⟨_, xs.cl_Taken, xs.s_Taken_Taken⟩ (al_cons ⟨_, xs.cl_Last, xs.s_Last_Taken⟩ (al_cons ⟨_, xs.cl_TooMany, xs.s_TooMany_Taken⟩ (al_cons ⟨_, xs.cl_Full, xs.s_Full_Taken⟩ al_nil))))))))))))))))))))) zs.isinstance_ (nB 0)) (aV (isO [("Unlike", false), ("BadText", false), ("BadRow", false), ("Own", false), ("NoName", false), ("NoBook", false), ("NoTie", false), ("NoPlace", false), ("NoDeed", false), ("MayNot", false), ("Barred", false), ("Lost", false), ("Gap", false), ("Apart", false), ("Stopped", false), ("Shared", false), ("Tied", true), ("Taken", false), ("Last", false), ("TooMany", false), ("Full", false)] xs.cl_Tied xs.nn_Tied xs.s_Tied_Tied (al_cons ⟨_, xs.cl_Unlike, xs.s_Unlike_Tied⟩ (al_cons ⟨_, xs.cl_BadText, xs.s_BadText_Tied⟩ (al_cons ⟨_, xs.cl_BadRow, xs.s_BadRow_Tied⟩ (al_cons ⟨_, xs.cl_Own, xs.s_Own_Tied⟩ (al_cons ⟨_, xs.cl_NoName, xs.s_NoName_Tied⟩ (al_cons ⟨_, xs.cl_NoBook, xs.s_NoBook_Tied⟩ (al_cons ⟨_, xs.cl_NoTie, xs.s_NoTie_Tied⟩ (al_cons ⟨_, xs.cl_NoPlace, xs.s_NoPlace_Tied⟩ (al_cons ⟨_, xs.cl_NoDeed, xs.s_NoDeed_Tied⟩ (al_cons ⟨_, xs.cl_MayNot, xs.s_MayNot_Tied⟩ (al_cons ⟨_, xs.cl_Barred, xs.s_Barred_Tied⟩ (al_cons ⟨_, xs.cl_Lost, xs.s_Lost_Tied⟩ (al_cons ⟨_, xs.cl_Gap, xs.s_Gap_Tied⟩ (al_cons ⟨_, xs.cl_Apart, xs.s_Apart_Tied⟩ (al_cons ⟨_, xs.cl_Stopped, xs.s_Stopped_Tied⟩ (al_cons ⟨_, xs.cl_Shared, xs.s_Shared_Tied⟩ (al_cons ⟨_, xs.cl_Tied, xs.s_Tied_Tied⟩ (al_cons ⟨_, xs.cl_Taken, xs.s_Taken_Tied⟩ (al_cons ⟨_, xs.cl_Last, xs.s_Last_Tied⟩ (al_cons ⟨_, xs.cl_TooMany, xs.s_TooMany_Tied⟩ (al_cons ⟨_, xs.cl_Full, xs.s_Full_Tied⟩ al_nil))))))))))))))))))))) zs.isinstance_ (nB 0)) (aV (isO [("Unlike", false), ("BadText", false), ("BadRow", false), ("Own", false), ("NoName", false), ("NoBook", false), ("NoTie", false), ("NoPlace", false), ("NoDeed", false), ("MayNot", false), ("Barred", false), ("Lost", false), ("Gap", false), ("Apart", false), ("Stopped", false), ("Shared", false), ("Tied", false), ("Taken", false), ("Last", false), ("TooMany", true), ("Full", false)] xs.cl_TooMany xs.nn_TooMany xs.s_TooMany_TooMany (al_cons ⟨_, xs.cl_Unlike, xs.s_Unlike_TooMany⟩ (al_cons ⟨_, xs.cl_BadText, xs.s_BadText_TooMany⟩ (al_cons ⟨_, xs.cl_BadRow, xs.s_BadRow_TooMany⟩ (al_cons ⟨_, xs.cl_Own, xs.s_Own_TooMany⟩ (al_cons ⟨_, xs.cl_NoName, xs.s_NoName_TooMany⟩ (al_cons ⟨_, xs.cl_NoBook, xs.s_NoBook_TooMany⟩ (al_cons ⟨_, xs.cl_NoTie, xs.s_NoTie_TooMany⟩ (al_cons ⟨_, xs.cl_NoPlace, xs.s_NoPlace_TooMany⟩ (al_cons ⟨_, xs.cl_NoDeed, xs.s_NoDeed_TooMany⟩ (al_cons ⟨_, xs.cl_MayNot, xs.s_MayNot_TooMany⟩ (al_cons ⟨_, xs.cl_Barred, xs.s_Barred_TooMany⟩ (al_cons ⟨_, xs.cl_Lost, xs.s_Lost_TooMany⟩ (al_cons ⟨_, xs.cl_Gap, xs.s_Gap_TooMany⟩ (al_cons ⟨_, xs.cl_Apart, xs.s_Apart_TooMany⟩ (al_cons ⟨_, xs.cl_Stopped, xs.s_Stopped_TooMany⟩ (al_cons ⟨_, xs.cl_Shared, xs.s_Shared_TooMany⟩ (al_cons ⟨_, xs.cl_Tied, xs.s_Tied_TooMany⟩ (al_cons ⟨_, xs.cl_Taken, xs.s_Taken_TooMany⟩ (al_cons ⟨_, xs.cl_Last, xs.s_Last_TooMany⟩ (al_cons ⟨_, xs.cl_TooMany, xs.s_TooMany_TooMany⟩ (al_cons ⟨_, xs.cl_Full, xs.s_Full_TooMany⟩ al_nil))))))))))))))))))))) zs.isinstance_ (nB 0)) da_nil))))))))
    (ds_one (ds_ret (bLen zs.len_ (aM (de_look (xLc [("_law_fine", 2)] (.one 2) rfl nd (di_seq (de_sh (xAdd (nI 1) (de_inn (xLst (aV (isO [("Unlike", true), ("BadText", false), ("BadRow", false), ("Own", false), ("NoName", false), ("NoBook", false), ("NoTie", false), ("NoPlace", false), ("NoDeed", false), ("MayNot", false), ("Barred", false), ("Lost", false), ("Gap", false), ("Apart", false), ("Stopped", false), ("Shared", false), ("Tied", false), ("Taken", false), ("Last", false), ("TooMany", false), ("Full", false)] xs.cl_Unlike xs.nn_Unlike xs.s_Unlike_Unlike (al_cons ⟨_, xs.cl_Unlike, xs.s_Unlike_Unlike⟩ (al_cons ⟨_, xs.cl_BadText, xs.s_BadText_Unlike⟩ (al_cons ⟨_, xs.cl_BadRow, xs.s_BadRow_Unlike⟩ (al_cons ⟨_, xs.cl_Own, xs.s_Own_Unlike⟩ (al_cons ⟨_, xs.cl_NoName, xs.s_NoName_Unlike⟩ (al_cons ⟨_, xs.cl_NoBook, xs.s_NoBook_Unlike⟩ (al_cons ⟨_, xs.cl_NoTie, xs.s_NoTie_Unlike⟩ (al_cons ⟨_, xs.cl_NoPlace, xs.s_NoPlace_Unlike⟩ (al_cons ⟨_, xs.cl_NoDeed, xs.s_NoDeed_Unlike⟩ (al_cons ⟨_, xs.cl_MayNot, xs.s_MayNot_Unlike⟩ (al_cons ⟨_, xs.cl_Barred, xs.s_Barred_Unlike⟩ (al_cons ⟨_, xs.cl_Lost, xs.s_Lost_Unlike⟩ (al_cons ⟨_, xs.cl_Gap, xs.s_Gap_Unlike⟩ (al_cons ⟨_, xs.cl_Apart, xs.s_Apart_Unlike⟩ (al_cons ⟨_, xs.cl_Stopped, xs.s_Stopped_Unlike⟩ (al_cons ⟨_, xs.cl_Shared, xs.s_Shared_Unlike⟩ (al_cons ⟨_, xs.cl_Tied, xs.s_Tied_Unlike⟩ (al_cons ⟨_, xs.cl_Taken, xs.s_Taken_Unlike⟩ (al_cons ⟨_, xs.cl_Last, xs.s_Last_Unlike⟩ (al_cons ⟨_, xs.cl_TooMany, xs.s_TooMany_Unlike⟩ (al_cons ⟨_, xs.cl_Full, xs.s_Full_Unlike⟩ al_nil))))))))))))))))))))) zs.isinstance_ (nB 0)) da_nil)))))) (blkOk_by (N := N_kinds) (sc := defScope s_kinds) (own := [("_law_fine", 2)]) (by decide +kernel)) (fun _ _ _ _ _ => (g1 2 nd)) (fun _ _ _ _ _ => dts_one (tVal (nV 2))) (fun _ _ _ _ _ => (nV 2)))) da_nilM))))))))))
theorem ok_bases (zs : Zs mg) (S : Std K mg "_law_bases" s_bases) {e0 e1 e2 e3 e4 e5 e6 e7 e8 e9 e10 e11 e12 e13 e14 e15 e16 e17 e18 e19 e20 : Addr} (xs : Xs K mg e0 e1 e2 e3 e4 e5 e6 e7 e8 e9 e10 e11 e12 e13 e14 e15 e16 e17 e18 e19 e20)  : Cal P w K mg base 1 "_law_bases" s_bases g_bases ["_law_error"] := by
  refine Cal.of (k := 0) 1 S sc_bases rfl fun f cdv A outer s H E hg hr => ?_
  have nd : N_bases.Nodup := sc_bases.nd
  exact (ds_cons (stSet 1 nd (de_sh (xAdd (de_inn (xMul (de_inn (xLst (aV (de_sv (de_str (by decide +kernel))) da_nil))) (de_look (bInt zs.int_ (aM (de_look (isB [("Unlike", true), ("BadText", true), ("BadRow", true), ("Own", true), ("NoName", true), ("NoBook", false), ("NoTie", false), ("NoPlace", false), ("NoDeed", false), ("MayNot", false), ("Barred", false), ("Lost", false), ("Gap", false), ("Apart", false), ("Stopped", false), ("Shared", false), ("Tied", false), ("Taken", false), ("Last", false), ("TooMany", false), ("Full", false)] zs.ValueError_ PyProof.Rows.Boot.«ValueError» xs.nt_ValueError (al_cons ⟨_, xs.cl_Unlike, xs.t_Unlike_ValueError⟩ (al_cons ⟨_, xs.cl_BadText, xs.t_BadText_ValueError⟩ (al_cons ⟨_, xs.cl_BadRow, xs.t_BadRow_ValueError⟩ (al_cons ⟨_, xs.cl_Own, xs.t_Own_ValueError⟩ (al_cons ⟨_, xs.cl_NoName, xs.t_NoName_ValueError⟩ (al_cons ⟨_, xs.cl_NoBook, xs.t_NoBook_ValueError⟩ (al_cons ⟨_, xs.cl_NoTie, xs.t_NoTie_ValueError⟩ (al_cons ⟨_, xs.cl_NoPlace, xs.t_NoPlace_ValueError⟩ (al_cons ⟨_, xs.cl_NoDeed, xs.t_NoDeed_ValueError⟩ (al_cons ⟨_, xs.cl_MayNot, xs.t_MayNot_ValueError⟩ (al_cons ⟨_, xs.cl_Barred, xs.t_Barred_ValueError⟩ (al_cons ⟨_, xs.cl_Lost, xs.t_Lost_ValueError⟩ (al_cons ⟨_, xs.cl_Gap, xs.t_Gap_ValueError⟩ (al_cons ⟨_, xs.cl_Apart, xs.t_Apart_ValueError⟩ (al_cons ⟨_, xs.cl_Stopped, xs.t_Stopped_ValueError⟩ (al_cons ⟨_, xs.cl_Shared, xs.t_Shared_ValueError⟩ (al_cons ⟨_, xs.cl_Tied, xs.t_Tied_ValueError⟩ (al_cons ⟨_, xs.cl_Taken, xs.t_Taken_ValueError⟩ (al_cons ⟨_, xs.cl_Last, xs.t_Last_ValueError⟩ (al_cons ⟨_, xs.cl_TooMany, xs.t_TooMany_ValueError⟩ (al_cons ⟨_, xs.cl_Full, xs.t_Full_ValueError⟩ al_nil))))))))))))))))))))) zs.isinstance_ (nB 0))) da_nilM))))) (de_inn (xMul (de_inn (xLst (aV (de_sv (de_str (by decide +kernel))) da_nil))) (de_look (bInt zs.int_ (aM (de_look (isB [("Unlike", false), ("BadText", false), ("BadRow", false), ("Own", false), ("NoName", false), ("NoBook", true), ("NoTie", true), ("NoPlace", true), ("NoDeed", true), ("MayNot", false), ("Barred", false), ("Lost", false), ("Gap", false), ("Apart", false), ("Stopped", false), ("Shared", false), ("Tied", false), ("Taken", false), ("Last", false), ("TooMany", false), ("Full", false)] zs.LookupError_ PyProof.Rows.Boot.«LookupError» xs.nt_LookupError (al_cons ⟨_, xs.cl_Unlike, xs.t_Unlike_LookupError⟩ (al_cons ⟨_, xs.cl_BadText, xs.t_BadText_LookupError⟩ (al_cons ⟨_, xs.cl_BadRow, xs.t_BadRow_LookupError⟩ (al_cons ⟨_, xs.cl_Own, xs.t_Own_LookupError⟩ (al_cons ⟨_, xs.cl_NoName, xs.t_NoName_LookupError⟩ (al_cons ⟨_, xs.cl_NoBook, xs.t_NoBook_LookupError⟩ (al_cons ⟨_, xs.cl_NoTie, xs.t_NoTie_LookupError⟩ (al_cons ⟨_, xs.cl_NoPlace, xs.t_NoPlace_LookupError⟩ (al_cons ⟨_, xs.cl_NoDeed, xs.t_NoDeed_LookupError⟩ (al_cons ⟨_, xs.cl_MayNot, xs.t_MayNot_LookupError⟩ (al_cons ⟨_, xs.cl_Barred, xs.t_Barred_LookupError⟩ (al_cons ⟨_, xs.cl_Lost, xs.t_Lost_LookupError⟩ (al_cons ⟨_, xs.cl_Gap, xs.t_Gap_LookupError⟩ (al_cons ⟨_, xs.cl_Apart, xs.t_Apart_LookupError⟩ (al_cons ⟨_, xs.cl_Stopped, xs.t_Stopped_LookupError⟩ (al_cons ⟨_, xs.cl_Shared, xs.t_Shared_LookupError⟩ (al_cons ⟨_, xs.cl_Tied, xs.t_Tied_LookupError⟩ (al_cons ⟨_, xs.cl_Taken, xs.t_Taken_LookupError⟩ (al_cons ⟨_, xs.cl_Last, xs.t_Last_LookupError⟩ (al_cons ⟨_, xs.cl_TooMany, xs.t_TooMany_LookupError⟩ (al_cons ⟨_, xs.cl_Full, xs.t_Full_LookupError⟩ al_nil))))))))))))))))))))) zs.isinstance_ (nB 0))) da_nilM))))))))
    (ds_cons (stSet 1 nd (de_sh (xAdd (nI 1) (de_inn (xMul (de_inn (xLst (aV (de_sv (de_str (by decide +kernel))) da_nil))) (de_look (bInt zs.int_ (aM (de_look (isB [("Unlike", false), ("BadText", false), ("BadRow", false), ("Own", false), ("NoName", false), ("NoBook", false), ("NoTie", false), ("NoPlace", false), ("NoDeed", false), ("MayNot", true), ("Barred", true), ("Lost", true), ("Gap", true), ("Apart", true), ("Stopped", true), ("Shared", true), ("Tied", true), ("Taken", true), ("Last", true), ("TooMany", false), ("Full", false)] zs.RuntimeError_ PyProof.Rows.Boot.«RuntimeError» xs.nt_RuntimeError (al_cons ⟨_, xs.cl_Unlike, xs.t_Unlike_RuntimeError⟩ (al_cons ⟨_, xs.cl_BadText, xs.t_BadText_RuntimeError⟩ (al_cons ⟨_, xs.cl_BadRow, xs.t_BadRow_RuntimeError⟩ (al_cons ⟨_, xs.cl_Own, xs.t_Own_RuntimeError⟩ (al_cons ⟨_, xs.cl_NoName, xs.t_NoName_RuntimeError⟩ (al_cons ⟨_, xs.cl_NoBook, xs.t_NoBook_RuntimeError⟩ (al_cons ⟨_, xs.cl_NoTie, xs.t_NoTie_RuntimeError⟩ (al_cons ⟨_, xs.cl_NoPlace, xs.t_NoPlace_RuntimeError⟩ (al_cons ⟨_, xs.cl_NoDeed, xs.t_NoDeed_RuntimeError⟩ (al_cons ⟨_, xs.cl_MayNot, xs.t_MayNot_RuntimeError⟩ (al_cons ⟨_, xs.cl_Barred, xs.t_Barred_RuntimeError⟩ (al_cons ⟨_, xs.cl_Lost, xs.t_Lost_RuntimeError⟩ (al_cons ⟨_, xs.cl_Gap, xs.t_Gap_RuntimeError⟩ (al_cons ⟨_, xs.cl_Apart, xs.t_Apart_RuntimeError⟩ (al_cons ⟨_, xs.cl_Stopped, xs.t_Stopped_RuntimeError⟩ (al_cons ⟨_, xs.cl_Shared, xs.t_Shared_RuntimeError⟩ (al_cons ⟨_, xs.cl_Tied, xs.t_Tied_RuntimeError⟩ (al_cons ⟨_, xs.cl_Taken, xs.t_Taken_RuntimeError⟩ (al_cons ⟨_, xs.cl_Last, xs.t_Last_RuntimeError⟩ (al_cons ⟨_, xs.cl_TooMany, xs.t_TooMany_RuntimeError⟩ (al_cons ⟨_, xs.cl_Full, xs.t_Full_RuntimeError⟩ al_nil))))))))))))))))))))) zs.isinstance_ (nB 0))) da_nilM))))))))
    (ds_cons (stSet 1 nd (de_sh (xAdd (nI 1) (de_inn (xMul (de_inn (xLst (aV (de_sv (de_str (by decide +kernel))) da_nil))) (de_look (bInt zs.int_ (aM (de_look (isB [("Unlike", false), ("BadText", false), ("BadRow", false), ("Own", false), ("NoName", false), ("NoBook", false), ("NoTie", false), ("NoPlace", false), ("NoDeed", false), ("MayNot", false), ("Barred", false), ("Lost", false), ("Gap", false), ("Apart", false), ("Stopped", false), ("Shared", false), ("Tied", false), ("Taken", false), ("Last", false), ("TooMany", true), ("Full", true)] zs.OverflowError_ PyProof.Rows.Boot.«OverflowError» xs.nt_OverflowError (al_cons ⟨_, xs.cl_Unlike, xs.t_Unlike_OverflowError⟩ (al_cons ⟨_, xs.cl_BadText, xs.t_BadText_OverflowError⟩ (al_cons ⟨_, xs.cl_BadRow, xs.t_BadRow_OverflowError⟩ (al_cons ⟨_, xs.cl_Own, xs.t_Own_OverflowError⟩ (al_cons ⟨_, xs.cl_NoName, xs.t_NoName_OverflowError⟩ (al_cons ⟨_, xs.cl_NoBook, xs.t_NoBook_OverflowError⟩ (al_cons ⟨_, xs.cl_NoTie, xs.t_NoTie_OverflowError⟩ (al_cons ⟨_, xs.cl_NoPlace, xs.t_NoPlace_OverflowError⟩ (al_cons ⟨_, xs.cl_NoDeed, xs.t_NoDeed_OverflowError⟩ (al_cons ⟨_, xs.cl_MayNot, xs.t_MayNot_OverflowError⟩ (al_cons ⟨_, xs.cl_Barred, xs.t_Barred_OverflowError⟩ (al_cons ⟨_, xs.cl_Lost, xs.t_Lost_OverflowError⟩ (al_cons ⟨_, xs.cl_Gap, xs.t_Gap_OverflowError⟩ (al_cons ⟨_, xs.cl_Apart, xs.t_Apart_OverflowError⟩ (al_cons ⟨_, xs.cl_Stopped, xs.t_Stopped_OverflowError⟩ (al_cons ⟨_, xs.cl_Shared, xs.t_Shared_OverflowError⟩ (al_cons ⟨_, xs.cl_Tied, xs.t_Tied_OverflowError⟩ (al_cons ⟨_, xs.cl_Taken, xs.t_Taken_OverflowError⟩ (al_cons ⟨_, xs.cl_Last, xs.t_Last_OverflowError⟩ (al_cons ⟨_, xs.cl_TooMany, xs.t_TooMany_OverflowError⟩ (al_cons ⟨_, xs.cl_Full, xs.t_Full_OverflowError⟩ al_nil))))))))))))))))))))) zs.isinstance_ (nB 0))) da_nilM))))))))
    (ds_one (ds_ret (xAdd (nI 1) (de_inn (xMul (de_inn (xLst (aV (de_sv (de_str (by decide +kernel))) da_nil))) (de_look (bInt zs.int_ (aM (de_look (isX3 [("Unlike", false), ("BadText", false), ("BadRow", false), ("Own", false), ("NoName", false), ("NoBook", false), ("NoTie", false), ("NoPlace", false), ("NoDeed", false), ("MayNot", false), ("Barred", false), ("Lost", false), ("Gap", false), ("Apart", false), ("Stopped", false), ("Shared", false), ("Tied", false), ("Taken", false), ("Last", false), ("TooMany", false), ("Full", false)] [("Unlike", false), ("BadText", false), ("BadRow", false), ("Own", false), ("NoName", false), ("NoBook", false), ("NoTie", false), ("NoPlace", false), ("NoDeed", false), ("MayNot", false), ("Barred", false), ("Lost", false), ("Gap", false), ("Apart", false), ("Stopped", false), ("Shared", false), ("Tied", false), ("Taken", false), ("Last", false), ("TooMany", false), ("Full", false)] [("Unlike", false), ("BadText", false), ("BadRow", false), ("Own", false), ("NoName", false), ("NoBook", false), ("NoTie", false), ("NoPlace", false), ("NoDeed", false), ("MayNot", false), ("Barred", false), ("Lost", false), ("Gap", false), ("Apart", false), ("Stopped", false), ("Shared", false), ("Tied", false), ("Taken", false), ("Last", false), ("TooMany", false), ("Full", false)] (qB zs.IndexError_ PyProof.Rows.Boot.«IndexError» xs.nt_IndexError (al_cons ⟨_, xs.cl_Unlike, xs.t_Unlike_IndexError⟩ (al_cons ⟨_, xs.cl_BadText, xs.t_BadText_IndexError⟩ (al_cons ⟨_, xs.cl_BadRow, xs.t_BadRow_IndexError⟩ (al_cons ⟨_, xs.cl_Own, xs.t_Own_IndexError⟩ (al_cons ⟨_, xs.cl_NoName, xs.t_NoName_IndexError⟩ (al_cons ⟨_, xs.cl_NoBook, xs.t_NoBook_IndexError⟩ (al_cons ⟨_, xs.cl_NoTie, xs.t_NoTie_IndexError⟩ (al_cons ⟨_, xs.cl_NoPlace, xs.t_NoPlace_IndexError⟩ (al_cons ⟨_, xs.cl_NoDeed, xs.t_NoDeed_IndexError⟩ (al_cons ⟨_, xs.cl_MayNot, xs.t_MayNot_IndexError⟩ (al_cons ⟨_, xs.cl_Barred, xs.t_Barred_IndexError⟩ (al_cons ⟨_, xs.cl_Lost, xs.t_Lost_IndexError⟩ (al_cons ⟨_, xs.cl_Gap, xs.t_Gap_IndexError⟩ (al_cons ⟨_, xs.cl_Apart, xs.t_Apart_IndexError⟩ (al_cons ⟨_, xs.cl_Stopped, xs.t_Stopped_IndexError⟩ (al_cons ⟨_, xs.cl_Shared, xs.t_Shared_IndexError⟩ (al_cons ⟨_, xs.cl_Tied, xs.t_Tied_IndexError⟩ (al_cons ⟨_, xs.cl_Taken, xs.t_Taken_IndexError⟩ (al_cons ⟨_, xs.cl_Last, xs.t_Last_IndexError⟩ (al_cons ⟨_, xs.cl_TooMany, xs.t_TooMany_IndexError⟩ (al_cons ⟨_, xs.cl_Full, xs.t_Full_IndexError⟩ al_nil)))))))))))))))))))))) (qB zs.KeyError_ PyProof.Rows.Boot.«KeyError» xs.nt_KeyError (al_cons ⟨_, xs.cl_Unlike, xs.t_Unlike_KeyError⟩ (al_cons ⟨_, xs.cl_BadText, xs.t_BadText_KeyError⟩ (al_cons ⟨_, xs.cl_BadRow, xs.t_BadRow_KeyError⟩ (al_cons ⟨_, xs.cl_Own, xs.t_Own_KeyError⟩ (al_cons ⟨_, xs.cl_NoName, xs.t_NoName_KeyError⟩ (al_cons ⟨_, xs.cl_NoBook, xs.t_NoBook_KeyError⟩ (al_cons ⟨_, xs.cl_NoTie, xs.t_NoTie_KeyError⟩ (al_cons ⟨_, xs.cl_NoPlace, xs.t_NoPlace_KeyError⟩ (al_cons ⟨_, xs.cl_NoDeed, xs.t_NoDeed_KeyError⟩ (al_cons ⟨_, xs.cl_MayNot, xs.t_MayNot_KeyError⟩ (al_cons ⟨_, xs.cl_Barred, xs.t_Barred_KeyError⟩ (al_cons ⟨_, xs.cl_Lost, xs.t_Lost_KeyError⟩ (al_cons ⟨_, xs.cl_Gap, xs.t_Gap_KeyError⟩ (al_cons ⟨_, xs.cl_Apart, xs.t_Apart_KeyError⟩ (al_cons ⟨_, xs.cl_Stopped, xs.t_Stopped_KeyError⟩ (al_cons ⟨_, xs.cl_Shared, xs.t_Shared_KeyError⟩ (al_cons ⟨_, xs.cl_Tied, xs.t_Tied_KeyError⟩ (al_cons ⟨_, xs.cl_Taken, xs.t_Taken_KeyError⟩ (al_cons ⟨_, xs.cl_Last, xs.t_Last_KeyError⟩ (al_cons ⟨_, xs.cl_TooMany, xs.t_TooMany_KeyError⟩ (al_cons ⟨_, xs.cl_Full, xs.t_Full_KeyError⟩ al_nil)))))))))))))))))))))) (qB zs.NotImplementedError_ PyProof.Rows.Boot.«NotImplementedError» xs.nt_NotImplementedError (al_cons ⟨_, xs.cl_Unlike, xs.t_Unlike_NotImplementedError⟩ (al_cons ⟨_, xs.cl_BadText, xs.t_BadText_NotImplementedError⟩ (al_cons ⟨_, xs.cl_BadRow, xs.t_BadRow_NotImplementedError⟩ (al_cons ⟨_, xs.cl_Own, xs.t_Own_NotImplementedError⟩ (al_cons ⟨_, xs.cl_NoName, xs.t_NoName_NotImplementedError⟩ (al_cons ⟨_, xs.cl_NoBook, xs.t_NoBook_NotImplementedError⟩ (al_cons ⟨_, xs.cl_NoTie, xs.t_NoTie_NotImplementedError⟩ (al_cons ⟨_, xs.cl_NoPlace, xs.t_NoPlace_NotImplementedError⟩ (al_cons ⟨_, xs.cl_NoDeed, xs.t_NoDeed_NotImplementedError⟩ (al_cons ⟨_, xs.cl_MayNot, xs.t_MayNot_NotImplementedError⟩ (al_cons ⟨_, xs.cl_Barred, xs.t_Barred_NotImplementedError⟩ (al_cons ⟨_, xs.cl_Lost, xs.t_Lost_NotImplementedError⟩ (al_cons ⟨_, xs.cl_Gap, xs.t_Gap_NotImplementedError⟩ (al_cons ⟨_, xs.cl_Apart, xs.t_Apart_NotImplementedError⟩ (al_cons ⟨_, xs.cl_Stopped, xs.t_Stopped_NotImplementedError⟩ (al_cons ⟨_, xs.cl_Shared, xs.t_Shared_NotImplementedError⟩ (al_cons ⟨_, xs.cl_Tied, xs.t_Tied_NotImplementedError⟩ (al_cons ⟨_, xs.cl_Taken, xs.t_Taken_NotImplementedError⟩ (al_cons ⟨_, xs.cl_Last, xs.t_Last_NotImplementedError⟩ (al_cons ⟨_, xs.cl_TooMany, xs.t_TooMany_NotImplementedError⟩ (al_cons ⟨_, xs.cl_Full, xs.t_Full_NotImplementedError⟩ al_nil)))))))))))))))))))))) zs.isinstance_ (nB 0))) da_nilM)))))))))))
theorem go_law (zs : Zs mg) {f : Addr} {od an : Option Addr} {osl : Array (Option Value)} {oc kV doc pm cdv ct : Value} (lk : K.lookup f = some ⟨oc, od, .func (PySem.W.fnOf "law" "law" (defArgs s_law) (defBody s_law) (defScope s_law) .none kV doc pm an cdv ct), osl⟩) (hcd : PySem.W.codeIn K cdv "law" = true) {e0 e1 e2 e3 e4 e5 e6 e7 e8 e9 e10 e11 e12 e13 e14 e15 e16 e17 e18 e19 e20 : Addr} (xs : Xs K mg e0 e1 e2 e3 e4 e5 e6 e7 e8 e9 e10 e11 e12 e13 e14 e15 e16 e17 e18 e19 e20) (c_box : Cal P w K mg base 1 "_law_box" s_box g_box ["_law_script", "_law_k"]) (c_pick : Cal P w K mg base 2 "_law_pick" s_pick g_pick ["_law_box_here", "_law_some"]) (c_same : Cal P w K mg base 6 "_law_same" s_same (g_same 6) ["_law_found", "_law_due"]) (c_all : Cal P w K mg base 3 "_law_all" s_all g_all ["_law_mine", "_law_its"]) (c_fields : Cal P w K mg base 7 "_law_fields" s_fields g_fields ["_law_mine", "_law_its", "_law_error"]) (c_kinds : Cal P w K mg base 1 "_law_kinds" s_kinds g_kinds ["_law_error"]) (c_bases : Cal P w K mg base 1 "_law_bases" s_bases g_bases ["_law_error"]) : FnG P w K mg base 8 f (PySem.W.fnOf "law" "law" (defArgs s_law) (defBody s_law) (defScope s_law) .none kV doc pm an cdv ct) ["_law_script"] (spF K g_law 1) := by
  refine fn_g (k := 7) 7 lk hcd sc_law rfl fun A outer s H E hg hr => ?_
  have nd : N_law.Nodup := sc_law.nd
  exact (ds_cons (stSet 1 nd (de_sh (callF c_box hg (hr.mono (by omega)) (aS (nS 0) (aS de_int da_nilS)) (fun _ _ _ _ _ _ us hl => match us, hl with | [_, _], _ => rfl))))
    (ds_cons (stSet 2 nd (de_sh (xLst (aV (de_sv (de_str (by decide +kernel))) (aV (de_sv de_int) (aV (de_neg (de_s1 de_int)) (aV (de_sv de_non) (aV (xLst (aV (de_sv (de_str (by decide +kernel))) (aV (de_sv (de_str (by decide +kernel))) da_nil))) (aV (xTup (aV (de_sv (de_str (by decide +kernel))) (aV (de_sv (de_str (by decide +kernel))) da_nil))) (aV (de_sv (de_str (by decide +kernel))) (aV (xPow (de_s1 de_int) (de_s1 de_int)) da_nil)))))))))))
    (ds_cons (stPar 3 false 4 false rfl nd (aV (de_sv (de_sh (callF c_pick hg (hr.mono (by omega)) (aS (nS 1) (aS (nS 2) da_nilS)) (fun _ _ _ _ _ _ us hl => match us, hl with | [_, _], _ => rfl)))) (aV (de_sv (de_sh (callF c_pick hg (hr.mono (by omega)) (aS (nS 1) (aS (nS 2) da_nilS)) (fun _ _ _ _ _ _ us hl => match us, hl with | [_, _], _ => rfl)))) da_nil)))
    (ds_cons (stFor PassesOwn.never rfl (di_seq (de_sh (callF c_all hg (hr.mono (by omega)) (aS (nS 3) (aS (nS 4) da_nilS)) (fun _ _ _ _ _ _ us hl => match us, hl with | [_, _], _ => rfl)))) (g3 5 6 7 rfl nd)
    (ds_cons (ds_if (PW.pt (tOr (tNe hr (de_look (callF c_kinds hg (hr.mono (by omega)) (aS (nS 5) da_nilS) (fun _ _ _ _ _ _ us hl => match us, hl with | [_], _ => rfl))) (de_s1 de_int)) (tOr (tNe hr (de_look (callF c_kinds hg (hr.mono (by omega)) (aS (nS 6) da_nilS) (fun _ _ _ _ _ _ us hl => match us, hl with | [_], _ => rfl))) (de_s1 de_int)) (tOr (tNe hr (de_look (callF c_bases hg (hr.mono (by omega)) (aS (nS 5) da_nilS) (fun _ _ _ _ _ _ us hl => match us, hl with | [_], _ => rfl))) (de_look (xLst (aV (nV 7) da_nil)))) (dw_or1 (tNe hr (de_look (callF c_bases hg (hr.mono (by omega)) (aS (nS 6) da_nilS) (fun _ _ _ _ _ _ us hl => match us, hl with | [_], _ => rfl))) (de_look (xLst (aV (nV 7) da_nil)))))))))
    (ds_one (ds_ret (de_sv de_bl)))
    ds_nil)
    (ds_one (ds_if (PW.pt (tOr (dt_not (tVal (callF c_fields hg (hr.mono (by omega)) (aS (nS 3) (aS (nS 4) (aS (nS 5) da_nilS))) (fun _ _ _ _ _ _ us hl => match us, hl with | [_, _, _], _ => rfl)))) (dw_or1 (dt_not (tVal (callF c_fields hg (hr.mono (by omega)) (aS (nS 3) (aS (nS 4) (aS (nS 6) da_nilS))) (fun _ _ _ _ _ _ us hl => match us, hl with | [_, _, _], _ => rfl)))))))
    (ds_one (ds_ret (de_sv de_bl)))
    ds_nil))))
    (ds_one (ds_ret (callF c_same hg (hr.mono (by omega)) (aS (de_sh (xLst (aV (de_sv (de_gint zs.MOST_RINGS_)) (aV (de_sv (de_gint zs.MOST_KNOT_)) (aV (de_sv (de_gint zs.MOST_LED_)) (aV (de_sv (de_gint zs.MOST_GOINGS_)) da_nil)))))) (aS (de_sh (xLst (aV (de_sv de_int) (aV (de_sv de_int) (aV (de_sv de_int) (aV (de_sv de_int) da_nil)))))) da_nilS)) (fun _ _ _ _ _ _ us hl => match us, hl with | [_, _], _ => rfl))))))))
end
theorem all_mk {l : PySem.W.OpenLaw} {w : World} {K : PySem.W.Frag} {h : Heap} {mg : Str → Option Value} {fa : Addr} (X : K.In h) (G : h.Ns mainGlobals mg) (hfa : mg "law" = some (.ref fa))
  {f0 : Addr} {od0 an0 : Option Addr} {sl0 : Array (Option Value)} {oc0 kV0 dc0 pm0 cd0 ct0 : Value} (a0 : PySem.W.nsIn K mainGlobals "_law_box" = some (some (.ref f0)))
    (l0 : K.lookup f0 = some ⟨oc0, od0, .func (PySem.W.fnOf "_law_box" "_law_box" (defArgs s_box) (defBody s_box) (defScope s_box) .none kV0 dc0 pm0 an0 cd0 ct0), sl0⟩) (c0 : PySem.W.codeIn K cd0 "_law_box" = true) (k0 : PySem.W.keepIn K (.ref f0) = true)
  {f1 : Addr} {od1 an1 : Option Addr} {sl1 : Array (Option Value)} {oc1 kV1 dc1 pm1 cd1 ct1 : Value} (a1 : PySem.W.nsIn K mainGlobals "_law_take" = some (some (.ref f1)))
    (l1 : K.lookup f1 = some ⟨oc1, od1, .func (PySem.W.fnOf "_law_take" "_law_take" (defArgs s_take) (defBody s_take) (defScope s_take) .none kV1 dc1 pm1 an1 cd1 ct1), sl1⟩) (c1 : PySem.W.codeIn K cd1 "_law_take" = true) (k1 : PySem.W.keepIn K (.ref f1) = true)
  {f2 : Addr} {od2 an2 : Option Addr} {sl2 : Array (Option Value)} {oc2 kV2 dc2 pm2 cd2 ct2 : Value} (a2 : PySem.W.nsIn K mainGlobals "_law_pick" = some (some (.ref f2)))
    (l2 : K.lookup f2 = some ⟨oc2, od2, .func (PySem.W.fnOf "_law_pick" "_law_pick" (defArgs s_pick) (defBody s_pick) (defScope s_pick) .none kV2 dc2 pm2 an2 cd2 ct2), sl2⟩) (c2 : PySem.W.codeIn K cd2 "_law_pick" = true) (k2 : PySem.W.keepIn K (.ref f2) = true)
  {f3 : Addr} {od3 an3 : Option Addr} {sl3 : Array (Option Value)} {oc3 kV3 dc3 pm3 cd3 ct3 : Value} (a3 : PySem.W.nsIn K mainGlobals "_law_same" = some (some (.ref f3)))
    (l3 : K.lookup f3 = some ⟨oc3, od3, .func (PySem.W.fnOf "_law_same" "_law_same" (defArgs s_same) (defBody s_same) (defScope s_same) .none kV3 dc3 pm3 an3 cd3 ct3), sl3⟩) (c3 : PySem.W.codeIn K cd3 "_law_same" = true) (k3 : PySem.W.keepIn K (.ref f3) = true)
  {f4 : Addr} {od4 an4 : Option Addr} {sl4 : Array (Option Value)} {oc4 kV4 dc4 pm4 cd4 ct4 : Value} (a4 : PySem.W.nsIn K mainGlobals "_law_all" = some (some (.ref f4)))
    (l4 : K.lookup f4 = some ⟨oc4, od4, .func (PySem.W.fnOf "_law_all" "_law_all" (defArgs s_all) (defBody s_all) (defScope s_all) .none kV4 dc4 pm4 an4 cd4 ct4), sl4⟩) (c4 : PySem.W.codeIn K cd4 "_law_all" = true) (k4 : PySem.W.keepIn K (.ref f4) = true)
  {f5 : Addr} {od5 an5 : Option Addr} {sl5 : Array (Option Value)} {oc5 kV5 dc5 pm5 cd5 ct5 : Value} (a5 : PySem.W.nsIn K mainGlobals "_law_fields" = some (some (.ref f5)))
    (l5 : K.lookup f5 = some ⟨oc5, od5, .func (PySem.W.fnOf "_law_fields" "_law_fields" (defArgs s_fields) (defBody s_fields) (defScope s_fields) .none kV5 dc5 pm5 an5 cd5 ct5), sl5⟩) (c5 : PySem.W.codeIn K cd5 "_law_fields" = true) (k5 : PySem.W.keepIn K (.ref f5) = true)
  {f6 : Addr} {od6 an6 : Option Addr} {sl6 : Array (Option Value)} {oc6 kV6 dc6 pm6 cd6 ct6 : Value} (a6 : PySem.W.nsIn K mainGlobals "_law_kinds" = some (some (.ref f6)))
    (l6 : K.lookup f6 = some ⟨oc6, od6, .func (PySem.W.fnOf "_law_kinds" "_law_kinds" (defArgs s_kinds) (defBody s_kinds) (defScope s_kinds) .none kV6 dc6 pm6 an6 cd6 ct6), sl6⟩) (c6 : PySem.W.codeIn K cd6 "_law_kinds" = true) (k6 : PySem.W.keepIn K (.ref f6) = true)
  {f7 : Addr} {od7 an7 : Option Addr} {sl7 : Array (Option Value)} {oc7 kV7 dc7 pm7 cd7 ct7 : Value} (a7 : PySem.W.nsIn K mainGlobals "_law_bases" = some (some (.ref f7)))
    (l7 : K.lookup f7 = some ⟨oc7, od7, .func (PySem.W.fnOf "_law_bases" "_law_bases" (defArgs s_bases) (defBody s_bases) (defScope s_bases) .none kV7 dc7 pm7 an7 cd7 ct7), sl7⟩) (c7 : PySem.W.codeIn K cd7 "_law_bases" = true) (k7 : PySem.W.keepIn K (.ref f7) = true)
  {f8 : Addr} {od8 an8 : Option Addr} {sl8 : Array (Option Value)} {oc8 kV8 dc8 pm8 cd8 ct8 : Value} (a8 : PySem.W.nsIn K mainGlobals "law" = some (some (.ref f8)))
    (l8 : K.lookup f8 = some ⟨oc8, od8, .func (PySem.W.fnOf "law" "law" (defArgs s_law) (defBody s_law) (defScope s_law) .none kV8 dc8 pm8 an8 cd8 ct8), sl8⟩) (c8 : PySem.W.codeIn K cd8 "law" = true) (k8 : PySem.W.keepIn K (.ref f8) = true)
  {e0 N0 : Addr} {nm0 q0 : Str} {bs0 sub0 : List Value} {sn0 : List Str} {ab0 : Bool} {col0 : Option Bool} {dd0 : Option Addr} {ka0 kb0 kc0 kd0 ke0 : Option Value} (n0_ : PySem.W.nsIn K mainGlobals "Unlike" = some (some (.ref e0))) (cx0 : K.lookup e0 = some (excClassObj nm0 q0 e0 N0 bs0 [.type "ValueError", .type "Exception", .type "BaseException", .type "object"] true sn0 sub0 ab0 col0 dd0 ka0 kb0 kc0 kd0 ke0 "ValueError.__new__")) (ty0 : PySem.W.typeIn K (.ref e0) = some (.type "type")) (ex0 : PySem.W.subIn K (.ref e0) (.type "BaseException") = some true) (ga0 : PySem.W.findIn K (.ref e0) "__getattribute__" = some (some (.builtin "BaseException.__getattribute__"))) (gg0 : PySem.W.findIn K (.ref e0) "__getattr__" = some none) (cl0 : PySem.W.findIn K (.ref e0) "__class__" = some (some (.builtin "object.__class__"))) (hd0 : PySem.W.hasDictIn K e0 = true) (mo0 : PySem.W.mroIn K e0 (.type "object") = some true) (kp0 : PySem.W.keepIn K (.ref e0) = true) (ei0 : PySem.W.excIn K e0 [.type "ValueError", .type "Exception", .type "BaseException", .type "object"] "ValueError.__new__" = true)
  {e1 N1 : Addr} {nm1 q1 : Str} {bs1 sub1 : List Value} {sn1 : List Str} {ab1 : Bool} {col1 : Option Bool} {dd1 : Option Addr} {ka1 kb1 kc1 kd1 ke1 : Option Value} {fi1 : Addr} {xd1 xp1 xc1 xt1 xo1 : Value} {xa1 xq1 : Option Addr} {xl1 : Array (Option Value)} (n1_ : PySem.W.nsIn K mainGlobals "BadText" = some (some (.ref e1))) (cx1 : K.lookup e1 = some (excClassObj nm1 q1 e1 N1 bs1 [.type "ValueError", .type "Exception", .type "BaseException", .type "object"] true sn1 sub1 ab1 col1 dd1 ka1 kb1 kc1 kd1 ke1 "ValueError.__new__")) (ty1 : PySem.W.typeIn K (.ref e1) = some (.type "type")) (ex1 : PySem.W.subIn K (.ref e1) (.type "BaseException") = some true) (ga1 : PySem.W.findIn K (.ref e1) "__getattribute__" = some (some (.builtin "BaseException.__getattribute__"))) (gg1 : PySem.W.findIn K (.ref e1) "__getattr__" = some none) (cl1 : PySem.W.findIn K (.ref e1) "__class__" = some (some (.builtin "object.__class__"))) (hd1 : PySem.W.hasDictIn K e1 = true) (mo1 : PySem.W.mroIn K e1 (.type "object") = some true) (kp1 : PySem.W.keepIn K (.ref e1) = true) (sa1 : PySem.W.findIn K (.ref e1) "__setattr__" = some (some (.builtin "object.__setattr__"))) (ic1 : PySem.W.findIn K (.ref e1) "__init__" = some (some (.ref fi1))) (ti1 : PySem.W.typeIn K (.ref fi1) = some (.type "function")) (li1 : K.lookup fi1 = some ⟨xo1, xq1, .func (PySem.W.fnOf "__init__" "BadText.__init__" (defArgs si_BadText) (defBody si_BadText) (defScope si_BadText) .none .none xd1 xp1 xa1 xc1 xt1), xl1⟩) (ci1 : PySem.W.codeIn K xc1 "BadText.__init__" = true) (vv1 : PySem.W.findCls K (.type "ValueError") (.type "type") "__init__" = some (.val (.builtin "ValueError.__init__"))) (tk1_text : PySem.W.takerIn K e1 "text" = some none)
  {e2 N2 : Addr} {nm2 q2 : Str} {bs2 sub2 : List Value} {sn2 : List Str} {ab2 : Bool} {col2 : Option Bool} {dd2 : Option Addr} {ka2 kb2 kc2 kd2 ke2 : Option Value} {fi2 : Addr} {xd2 xp2 xc2 xt2 xo2 : Value} {xa2 xq2 : Option Addr} {xl2 : Array (Option Value)} (n2_ : PySem.W.nsIn K mainGlobals "BadRow" = some (some (.ref e2))) (cx2 : K.lookup e2 = some (excClassObj nm2 q2 e2 N2 bs2 [.type "ValueError", .type "Exception", .type "BaseException", .type "object"] true sn2 sub2 ab2 col2 dd2 ka2 kb2 kc2 kd2 ke2 "ValueError.__new__")) (ty2 : PySem.W.typeIn K (.ref e2) = some (.type "type")) (ex2 : PySem.W.subIn K (.ref e2) (.type "BaseException") = some true) (ga2 : PySem.W.findIn K (.ref e2) "__getattribute__" = some (some (.builtin "BaseException.__getattribute__"))) (gg2 : PySem.W.findIn K (.ref e2) "__getattr__" = some none) (cl2 : PySem.W.findIn K (.ref e2) "__class__" = some (some (.builtin "object.__class__"))) (hd2 : PySem.W.hasDictIn K e2 = true) (mo2 : PySem.W.mroIn K e2 (.type "object") = some true) (kp2 : PySem.W.keepIn K (.ref e2) = true) (sa2 : PySem.W.findIn K (.ref e2) "__setattr__" = some (some (.builtin "object.__setattr__"))) (ic2 : PySem.W.findIn K (.ref e2) "__init__" = some (some (.ref fi2))) (ti2 : PySem.W.typeIn K (.ref fi2) = some (.type "function")) (li2 : K.lookup fi2 = some ⟨xo2, xq2, .func (PySem.W.fnOf "__init__" "BadRow.__init__" (defArgs si_BadRow) (defBody si_BadRow) (defScope si_BadRow) .none .none xd2 xp2 xa2 xc2 xt2), xl2⟩) (ci2 : PySem.W.codeIn K xc2 "BadRow.__init__" = true) (vv2 : PySem.W.findCls K (.type "ValueError") (.type "type") "__init__" = some (.val (.builtin "ValueError.__init__"))) (tk2_number : PySem.W.takerIn K e2 "number" = some none)
  {e3 N3 : Addr} {nm3 q3 : Str} {bs3 sub3 : List Value} {sn3 : List Str} {ab3 : Bool} {col3 : Option Bool} {dd3 : Option Addr} {ka3 kb3 kc3 kd3 ke3 : Option Value} {fi3 : Addr} {xd3 xp3 xc3 xt3 xo3 : Value} {xa3 xq3 : Option Addr} {xl3 : Array (Option Value)} (n3_ : PySem.W.nsIn K mainGlobals "Own" = some (some (.ref e3))) (cx3 : K.lookup e3 = some (excClassObj nm3 q3 e3 N3 bs3 [.type "ValueError", .type "Exception", .type "BaseException", .type "object"] true sn3 sub3 ab3 col3 dd3 ka3 kb3 kc3 kd3 ke3 "ValueError.__new__")) (ty3 : PySem.W.typeIn K (.ref e3) = some (.type "type")) (ex3 : PySem.W.subIn K (.ref e3) (.type "BaseException") = some true) (ga3 : PySem.W.findIn K (.ref e3) "__getattribute__" = some (some (.builtin "BaseException.__getattribute__"))) (gg3 : PySem.W.findIn K (.ref e3) "__getattr__" = some none) (cl3 : PySem.W.findIn K (.ref e3) "__class__" = some (some (.builtin "object.__class__"))) (hd3 : PySem.W.hasDictIn K e3 = true) (mo3 : PySem.W.mroIn K e3 (.type "object") = some true) (kp3 : PySem.W.keepIn K (.ref e3) = true) (sa3 : PySem.W.findIn K (.ref e3) "__setattr__" = some (some (.builtin "object.__setattr__"))) (ic3 : PySem.W.findIn K (.ref e3) "__init__" = some (some (.ref fi3))) (ti3 : PySem.W.typeIn K (.ref fi3) = some (.type "function")) (li3 : K.lookup fi3 = some ⟨xo3, xq3, .func (PySem.W.fnOf "__init__" "Own.__init__" (defArgs si_Own) (defBody si_Own) (defScope si_Own) .none .none xd3 xp3 xa3 xc3 xt3), xl3⟩) (ci3 : PySem.W.codeIn K xc3 "Own.__init__" = true) (vv3 : PySem.W.findCls K (.type "ValueError") (.type "type") "__init__" = some (.val (.builtin "ValueError.__init__"))) (tk3_book : PySem.W.takerIn K e3 "book" = some none)
  {e4 N4 : Addr} {nm4 q4 : Str} {bs4 sub4 : List Value} {sn4 : List Str} {ab4 : Bool} {col4 : Option Bool} {dd4 : Option Addr} {ka4 kb4 kc4 kd4 ke4 : Option Value} {fi4 : Addr} {xd4 xp4 xc4 xt4 xo4 : Value} {xa4 xq4 : Option Addr} {xl4 : Array (Option Value)} (n4_ : PySem.W.nsIn K mainGlobals "NoName" = some (some (.ref e4))) (cx4 : K.lookup e4 = some (excClassObj nm4 q4 e4 N4 bs4 [.type "ValueError", .type "Exception", .type "BaseException", .type "object"] true sn4 sub4 ab4 col4 dd4 ka4 kb4 kc4 kd4 ke4 "ValueError.__new__")) (ty4 : PySem.W.typeIn K (.ref e4) = some (.type "type")) (ex4 : PySem.W.subIn K (.ref e4) (.type "BaseException") = some true) (ga4 : PySem.W.findIn K (.ref e4) "__getattribute__" = some (some (.builtin "BaseException.__getattribute__"))) (gg4 : PySem.W.findIn K (.ref e4) "__getattr__" = some none) (cl4 : PySem.W.findIn K (.ref e4) "__class__" = some (some (.builtin "object.__class__"))) (hd4 : PySem.W.hasDictIn K e4 = true) (mo4 : PySem.W.mroIn K e4 (.type "object") = some true) (kp4 : PySem.W.keepIn K (.ref e4) = true) (sa4 : PySem.W.findIn K (.ref e4) "__setattr__" = some (some (.builtin "object.__setattr__"))) (ic4 : PySem.W.findIn K (.ref e4) "__init__" = some (some (.ref fi4))) (ti4 : PySem.W.typeIn K (.ref fi4) = some (.type "function")) (li4 : K.lookup fi4 = some ⟨xo4, xq4, .func (PySem.W.fnOf "__init__" "NoName.__init__" (defArgs si_NoName) (defBody si_NoName) (defScope si_NoName) .none .none xd4 xp4 xa4 xc4 xt4), xl4⟩) (ci4 : PySem.W.codeIn K xc4 "NoName.__init__" = true) (vv4 : PySem.W.findCls K (.type "ValueError") (.type "type") "__init__" = some (.val (.builtin "ValueError.__init__"))) (tk4_book : PySem.W.takerIn K e4 "book" = some none)
  {e5 N5 : Addr} {nm5 q5 : Str} {bs5 sub5 : List Value} {sn5 : List Str} {ab5 : Bool} {col5 : Option Bool} {dd5 : Option Addr} {ka5 kb5 kc5 kd5 ke5 : Option Value} {fi5 : Addr} {xd5 xp5 xc5 xt5 xo5 : Value} {xa5 xq5 : Option Addr} {xl5 : Array (Option Value)} (n5_ : PySem.W.nsIn K mainGlobals "NoBook" = some (some (.ref e5))) (cx5 : K.lookup e5 = some (excClassObj nm5 q5 e5 N5 bs5 [.type "LookupError", .type "Exception", .type "BaseException", .type "object"] true sn5 sub5 ab5 col5 dd5 ka5 kb5 kc5 kd5 ke5 "LookupError.__new__")) (ty5 : PySem.W.typeIn K (.ref e5) = some (.type "type")) (ex5 : PySem.W.subIn K (.ref e5) (.type "BaseException") = some true) (ga5 : PySem.W.findIn K (.ref e5) "__getattribute__" = some (some (.builtin "BaseException.__getattribute__"))) (gg5 : PySem.W.findIn K (.ref e5) "__getattr__" = some none) (cl5 : PySem.W.findIn K (.ref e5) "__class__" = some (some (.builtin "object.__class__"))) (hd5 : PySem.W.hasDictIn K e5 = true) (mo5 : PySem.W.mroIn K e5 (.type "object") = some true) (kp5 : PySem.W.keepIn K (.ref e5) = true) (sa5 : PySem.W.findIn K (.ref e5) "__setattr__" = some (some (.builtin "object.__setattr__"))) (ic5 : PySem.W.findIn K (.ref e5) "__init__" = some (some (.ref fi5))) (ti5 : PySem.W.typeIn K (.ref fi5) = some (.type "function")) (li5 : K.lookup fi5 = some ⟨xo5, xq5, .func (PySem.W.fnOf "__init__" "NoBook.__init__" (defArgs si_NoBook) (defBody si_NoBook) (defScope si_NoBook) .none .none xd5 xp5 xa5 xc5 xt5), xl5⟩) (ci5 : PySem.W.codeIn K xc5 "NoBook.__init__" = true) (vv5 : PySem.W.findCls K (.type "LookupError") (.type "type") "__init__" = some (.val (.builtin "LookupError.__init__"))) (tk5_book : PySem.W.takerIn K e5 "book" = some none)
  {e6 N6 : Addr} {nm6 q6 : Str} {bs6 sub6 : List Value} {sn6 : List Str} {ab6 : Bool} {col6 : Option Bool} {dd6 : Option Addr} {ka6 kb6 kc6 kd6 ke6 : Option Value} {fi6 : Addr} {xd6 xp6 xc6 xt6 xo6 : Value} {xa6 xq6 : Option Addr} {xl6 : Array (Option Value)} (n6_ : PySem.W.nsIn K mainGlobals "NoTie" = some (some (.ref e6))) (cx6 : K.lookup e6 = some (excClassObj nm6 q6 e6 N6 bs6 [.type "LookupError", .type "Exception", .type "BaseException", .type "object"] true sn6 sub6 ab6 col6 dd6 ka6 kb6 kc6 kd6 ke6 "LookupError.__new__")) (ty6 : PySem.W.typeIn K (.ref e6) = some (.type "type")) (ex6 : PySem.W.subIn K (.ref e6) (.type "BaseException") = some true) (ga6 : PySem.W.findIn K (.ref e6) "__getattribute__" = some (some (.builtin "BaseException.__getattribute__"))) (gg6 : PySem.W.findIn K (.ref e6) "__getattr__" = some none) (cl6 : PySem.W.findIn K (.ref e6) "__class__" = some (some (.builtin "object.__class__"))) (hd6 : PySem.W.hasDictIn K e6 = true) (mo6 : PySem.W.mroIn K e6 (.type "object") = some true) (kp6 : PySem.W.keepIn K (.ref e6) = true) (sa6 : PySem.W.findIn K (.ref e6) "__setattr__" = some (some (.builtin "object.__setattr__"))) (ic6 : PySem.W.findIn K (.ref e6) "__init__" = some (some (.ref fi6))) (ti6 : PySem.W.typeIn K (.ref fi6) = some (.type "function")) (li6 : K.lookup fi6 = some ⟨xo6, xq6, .func (PySem.W.fnOf "__init__" "NoTie.__init__" (defArgs si_NoTie) (defBody si_NoTie) (defScope si_NoTie) .none .none xd6 xp6 xa6 xc6 xt6), xl6⟩) (ci6 : PySem.W.codeIn K xc6 "NoTie.__init__" = true) (vv6 : PySem.W.findCls K (.type "LookupError") (.type "type") "__init__" = some (.val (.builtin "LookupError.__init__"))) (tk6_pair : PySem.W.takerIn K e6 "pair" = some none)
  {e7 N7 : Addr} {nm7 q7 : Str} {bs7 sub7 : List Value} {sn7 : List Str} {ab7 : Bool} {col7 : Option Bool} {dd7 : Option Addr} {ka7 kb7 kc7 kd7 ke7 : Option Value} {fi7 : Addr} {xd7 xp7 xc7 xt7 xo7 : Value} {xa7 xq7 : Option Addr} {xl7 : Array (Option Value)} (n7_ : PySem.W.nsIn K mainGlobals "NoPlace" = some (some (.ref e7))) (cx7 : K.lookup e7 = some (excClassObj nm7 q7 e7 N7 bs7 [.type "LookupError", .type "Exception", .type "BaseException", .type "object"] true sn7 sub7 ab7 col7 dd7 ka7 kb7 kc7 kd7 ke7 "LookupError.__new__")) (ty7 : PySem.W.typeIn K (.ref e7) = some (.type "type")) (ex7 : PySem.W.subIn K (.ref e7) (.type "BaseException") = some true) (ga7 : PySem.W.findIn K (.ref e7) "__getattribute__" = some (some (.builtin "BaseException.__getattribute__"))) (gg7 : PySem.W.findIn K (.ref e7) "__getattr__" = some none) (cl7 : PySem.W.findIn K (.ref e7) "__class__" = some (some (.builtin "object.__class__"))) (hd7 : PySem.W.hasDictIn K e7 = true) (mo7 : PySem.W.mroIn K e7 (.type "object") = some true) (kp7 : PySem.W.keepIn K (.ref e7) = true) (sa7 : PySem.W.findIn K (.ref e7) "__setattr__" = some (some (.builtin "object.__setattr__"))) (ic7 : PySem.W.findIn K (.ref e7) "__init__" = some (some (.ref fi7))) (ti7 : PySem.W.typeIn K (.ref fi7) = some (.type "function")) (li7 : K.lookup fi7 = some ⟨xo7, xq7, .func (PySem.W.fnOf "__init__" "NoPlace.__init__" (defArgs si_NoPlace) (defBody si_NoPlace) (defScope si_NoPlace) .none .none xd7 xp7 xa7 xc7 xt7), xl7⟩) (ci7 : PySem.W.codeIn K xc7 "NoPlace.__init__" = true) (vv7 : PySem.W.findCls K (.type "LookupError") (.type "type") "__init__" = some (.val (.builtin "LookupError.__init__"))) (tk7_at : PySem.W.takerIn K e7 "at" = some none)
  {e8 N8 : Addr} {nm8 q8 : Str} {bs8 sub8 : List Value} {sn8 : List Str} {ab8 : Bool} {col8 : Option Bool} {dd8 : Option Addr} {ka8 kb8 kc8 kd8 ke8 : Option Value} {fi8 : Addr} {xd8 xp8 xc8 xt8 xo8 : Value} {xa8 xq8 : Option Addr} {xl8 : Array (Option Value)} (n8_ : PySem.W.nsIn K mainGlobals "NoDeed" = some (some (.ref e8))) (cx8 : K.lookup e8 = some (excClassObj nm8 q8 e8 N8 bs8 [.type "LookupError", .type "Exception", .type "BaseException", .type "object"] true sn8 sub8 ab8 col8 dd8 ka8 kb8 kc8 kd8 ke8 "LookupError.__new__")) (ty8 : PySem.W.typeIn K (.ref e8) = some (.type "type")) (ex8 : PySem.W.subIn K (.ref e8) (.type "BaseException") = some true) (ga8 : PySem.W.findIn K (.ref e8) "__getattribute__" = some (some (.builtin "BaseException.__getattribute__"))) (gg8 : PySem.W.findIn K (.ref e8) "__getattr__" = some none) (cl8 : PySem.W.findIn K (.ref e8) "__class__" = some (some (.builtin "object.__class__"))) (hd8 : PySem.W.hasDictIn K e8 = true) (mo8 : PySem.W.mroIn K e8 (.type "object") = some true) (kp8 : PySem.W.keepIn K (.ref e8) = true) (sa8 : PySem.W.findIn K (.ref e8) "__setattr__" = some (some (.builtin "object.__setattr__"))) (ic8 : PySem.W.findIn K (.ref e8) "__init__" = some (some (.ref fi8))) (ti8 : PySem.W.typeIn K (.ref fi8) = some (.type "function")) (li8 : K.lookup fi8 = some ⟨xo8, xq8, .func (PySem.W.fnOf "__init__" "NoDeed.__init__" (defArgs si_NoDeed) (defBody si_NoDeed) (defScope si_NoDeed) .none .none xd8 xp8 xa8 xc8 xt8), xl8⟩) (ci8 : PySem.W.codeIn K xc8 "NoDeed.__init__" = true) (vv8 : PySem.W.findCls K (.type "LookupError") (.type "type") "__init__" = some (.val (.builtin "LookupError.__init__"))) (tk8_many : PySem.W.takerIn K e8 "many" = some none)
  {e9 N9 : Addr} {nm9 q9 : Str} {bs9 sub9 : List Value} {sn9 : List Str} {ab9 : Bool} {col9 : Option Bool} {dd9 : Option Addr} {ka9 kb9 kc9 kd9 ke9 : Option Value} {fi9 : Addr} {xd9 xp9 xc9 xt9 xo9 : Value} {xa9 xq9 : Option Addr} {xl9 : Array (Option Value)} (n9_ : PySem.W.nsIn K mainGlobals "MayNot" = some (some (.ref e9))) (cx9 : K.lookup e9 = some (excClassObj nm9 q9 e9 N9 bs9 [.type "RuntimeError", .type "Exception", .type "BaseException", .type "object"] true sn9 sub9 ab9 col9 dd9 ka9 kb9 kc9 kd9 ke9 "RuntimeError.__new__")) (ty9 : PySem.W.typeIn K (.ref e9) = some (.type "type")) (ex9 : PySem.W.subIn K (.ref e9) (.type "BaseException") = some true) (ga9 : PySem.W.findIn K (.ref e9) "__getattribute__" = some (some (.builtin "BaseException.__getattribute__"))) (gg9 : PySem.W.findIn K (.ref e9) "__getattr__" = some none) (cl9 : PySem.W.findIn K (.ref e9) "__class__" = some (some (.builtin "object.__class__"))) (hd9 : PySem.W.hasDictIn K e9 = true) (mo9 : PySem.W.mroIn K e9 (.type "object") = some true) (kp9 : PySem.W.keepIn K (.ref e9) = true) (sa9 : PySem.W.findIn K (.ref e9) "__setattr__" = some (some (.builtin "object.__setattr__"))) (ic9 : PySem.W.findIn K (.ref e9) "__init__" = some (some (.ref fi9))) (ti9 : PySem.W.typeIn K (.ref fi9) = some (.type "function")) (li9 : K.lookup fi9 = some ⟨xo9, xq9, .func (PySem.W.fnOf "__init__" "MayNot.__init__" (defArgs si_MayNot) (defBody si_MayNot) (defScope si_MayNot) .none .none xd9 xp9 xa9 xc9 xt9), xl9⟩) (ci9 : PySem.W.codeIn K xc9 "MayNot.__init__" = true) (vv9 : PySem.W.findCls K (.type "RuntimeError") (.type "type") "__init__" = some (.val (.builtin "RuntimeError.__init__"))) (tk9_book : PySem.W.takerIn K e9 "book" = some none)
  {e10 N10 : Addr} {nm10 q10 : Str} {bs10 sub10 : List Value} {sn10 : List Str} {ab10 : Bool} {col10 : Option Bool} {dd10 : Option Addr} {ka10 kb10 kc10 kd10 ke10 : Option Value} {fi10 : Addr} {xd10 xp10 xc10 xt10 xo10 : Value} {xa10 xq10 : Option Addr} {xl10 : Array (Option Value)} (n10_ : PySem.W.nsIn K mainGlobals "Barred" = some (some (.ref e10))) (cx10 : K.lookup e10 = some (excClassObj nm10 q10 e10 N10 bs10 [.type "RuntimeError", .type "Exception", .type "BaseException", .type "object"] true sn10 sub10 ab10 col10 dd10 ka10 kb10 kc10 kd10 ke10 "RuntimeError.__new__")) (ty10 : PySem.W.typeIn K (.ref e10) = some (.type "type")) (ex10 : PySem.W.subIn K (.ref e10) (.type "BaseException") = some true) (ga10 : PySem.W.findIn K (.ref e10) "__getattribute__" = some (some (.builtin "BaseException.__getattribute__"))) (gg10 : PySem.W.findIn K (.ref e10) "__getattr__" = some none) (cl10 : PySem.W.findIn K (.ref e10) "__class__" = some (some (.builtin "object.__class__"))) (hd10 : PySem.W.hasDictIn K e10 = true) (mo10 : PySem.W.mroIn K e10 (.type "object") = some true) (kp10 : PySem.W.keepIn K (.ref e10) = true) (sa10 : PySem.W.findIn K (.ref e10) "__setattr__" = some (some (.builtin "object.__setattr__"))) (ic10 : PySem.W.findIn K (.ref e10) "__init__" = some (some (.ref fi10))) (ti10 : PySem.W.typeIn K (.ref fi10) = some (.type "function")) (li10 : K.lookup fi10 = some ⟨xo10, xq10, .func (PySem.W.fnOf "__init__" "Barred.__init__" (defArgs si_Barred) (defBody si_Barred) (defScope si_Barred) .none .none xd10 xp10 xa10 xc10 xt10), xl10⟩) (ci10 : PySem.W.codeIn K xc10 "Barred.__init__" = true) (vv10 : PySem.W.findCls K (.type "RuntimeError") (.type "type") "__init__" = some (.val (.builtin "RuntimeError.__init__"))) (tk10_ring : PySem.W.takerIn K e10 "ring" = some none)
  {e11 N11 : Addr} {nm11 q11 : Str} {bs11 sub11 : List Value} {sn11 : List Str} {ab11 : Bool} {col11 : Option Bool} {dd11 : Option Addr} {ka11 kb11 kc11 kd11 ke11 : Option Value} {fi11 : Addr} {xd11 xp11 xc11 xt11 xo11 : Value} {xa11 xq11 : Option Addr} {xl11 : Array (Option Value)} (n11_ : PySem.W.nsIn K mainGlobals "Lost" = some (some (.ref e11))) (cx11 : K.lookup e11 = some (excClassObj nm11 q11 e11 N11 bs11 [.type "RuntimeError", .type "Exception", .type "BaseException", .type "object"] true sn11 sub11 ab11 col11 dd11 ka11 kb11 kc11 kd11 ke11 "RuntimeError.__new__")) (ty11 : PySem.W.typeIn K (.ref e11) = some (.type "type")) (ex11 : PySem.W.subIn K (.ref e11) (.type "BaseException") = some true) (ga11 : PySem.W.findIn K (.ref e11) "__getattribute__" = some (some (.builtin "BaseException.__getattribute__"))) (gg11 : PySem.W.findIn K (.ref e11) "__getattr__" = some none) (cl11 : PySem.W.findIn K (.ref e11) "__class__" = some (some (.builtin "object.__class__"))) (hd11 : PySem.W.hasDictIn K e11 = true) (mo11 : PySem.W.mroIn K e11 (.type "object") = some true) (kp11 : PySem.W.keepIn K (.ref e11) = true) (sa11 : PySem.W.findIn K (.ref e11) "__setattr__" = some (some (.builtin "object.__setattr__"))) (ic11 : PySem.W.findIn K (.ref e11) "__init__" = some (some (.ref fi11))) (ti11 : PySem.W.typeIn K (.ref fi11) = some (.type "function")) (li11 : K.lookup fi11 = some ⟨xo11, xq11, .func (PySem.W.fnOf "__init__" "Lost.__init__" (defArgs si_Lost) (defBody si_Lost) (defScope si_Lost) .none .none xd11 xp11 xa11 xc11 xt11), xl11⟩) (ci11 : PySem.W.codeIn K xc11 "Lost.__init__" = true) (vv11 : PySem.W.findCls K (.type "RuntimeError") (.type "type") "__init__" = some (.val (.builtin "RuntimeError.__init__"))) (tk11_place : PySem.W.takerIn K e11 "place" = some none)
  {e12 N12 : Addr} {nm12 q12 : Str} {bs12 sub12 : List Value} {sn12 : List Str} {ab12 : Bool} {col12 : Option Bool} {dd12 : Option Addr} {ka12 kb12 kc12 kd12 ke12 : Option Value} {fi12 : Addr} {xd12 xp12 xc12 xt12 xo12 : Value} {xa12 xq12 : Option Addr} {xl12 : Array (Option Value)} (n12_ : PySem.W.nsIn K mainGlobals "Gap" = some (some (.ref e12))) (cx12 : K.lookup e12 = some (excClassObj nm12 q12 e12 N12 bs12 [.type "RuntimeError", .type "Exception", .type "BaseException", .type "object"] true sn12 sub12 ab12 col12 dd12 ka12 kb12 kc12 kd12 ke12 "RuntimeError.__new__")) (ty12 : PySem.W.typeIn K (.ref e12) = some (.type "type")) (ex12 : PySem.W.subIn K (.ref e12) (.type "BaseException") = some true) (ga12 : PySem.W.findIn K (.ref e12) "__getattribute__" = some (some (.builtin "BaseException.__getattribute__"))) (gg12 : PySem.W.findIn K (.ref e12) "__getattr__" = some none) (cl12 : PySem.W.findIn K (.ref e12) "__class__" = some (some (.builtin "object.__class__"))) (hd12 : PySem.W.hasDictIn K e12 = true) (mo12 : PySem.W.mroIn K e12 (.type "object") = some true) (kp12 : PySem.W.keepIn K (.ref e12) = true) (sa12 : PySem.W.findIn K (.ref e12) "__setattr__" = some (some (.builtin "object.__setattr__"))) (ic12 : PySem.W.findIn K (.ref e12) "__init__" = some (some (.ref fi12))) (ti12 : PySem.W.typeIn K (.ref fi12) = some (.type "function")) (li12 : K.lookup fi12 = some ⟨xo12, xq12, .func (PySem.W.fnOf "__init__" "Gap.__init__" (defArgs si_Gap) (defBody si_Gap) (defScope si_Gap) .none .none xd12 xp12 xa12 xc12 xt12), xl12⟩) (ci12 : PySem.W.codeIn K xc12 "Gap.__init__" = true) (vv12 : PySem.W.findCls K (.type "RuntimeError") (.type "type") "__init__" = some (.val (.builtin "RuntimeError.__init__"))) (tk12_place : PySem.W.takerIn K e12 "place" = some none) (tk12_ring : PySem.W.takerIn K e12 "ring" = some none)
  {e13 N13 : Addr} {nm13 q13 : Str} {bs13 sub13 : List Value} {sn13 : List Str} {ab13 : Bool} {col13 : Option Bool} {dd13 : Option Addr} {ka13 kb13 kc13 kd13 ke13 : Option Value} {fi13 : Addr} {xd13 xp13 xc13 xt13 xo13 : Value} {xa13 xq13 : Option Addr} {xl13 : Array (Option Value)} (n13_ : PySem.W.nsIn K mainGlobals "Apart" = some (some (.ref e13))) (cx13 : K.lookup e13 = some (excClassObj nm13 q13 e13 N13 bs13 [.type "RuntimeError", .type "Exception", .type "BaseException", .type "object"] true sn13 sub13 ab13 col13 dd13 ka13 kb13 kc13 kd13 ke13 "RuntimeError.__new__")) (ty13 : PySem.W.typeIn K (.ref e13) = some (.type "type")) (ex13 : PySem.W.subIn K (.ref e13) (.type "BaseException") = some true) (ga13 : PySem.W.findIn K (.ref e13) "__getattribute__" = some (some (.builtin "BaseException.__getattribute__"))) (gg13 : PySem.W.findIn K (.ref e13) "__getattr__" = some none) (cl13 : PySem.W.findIn K (.ref e13) "__class__" = some (some (.builtin "object.__class__"))) (hd13 : PySem.W.hasDictIn K e13 = true) (mo13 : PySem.W.mroIn K e13 (.type "object") = some true) (kp13 : PySem.W.keepIn K (.ref e13) = true) (sa13 : PySem.W.findIn K (.ref e13) "__setattr__" = some (some (.builtin "object.__setattr__"))) (ic13 : PySem.W.findIn K (.ref e13) "__init__" = some (some (.ref fi13))) (ti13 : PySem.W.typeIn K (.ref fi13) = some (.type "function")) (li13 : K.lookup fi13 = some ⟨xo13, xq13, .func (PySem.W.fnOf "__init__" "Apart.__init__" (defArgs si_Apart) (defBody si_Apart) (defScope si_Apart) .none .none xd13 xp13 xa13 xc13 xt13), xl13⟩) (ci13 : PySem.W.codeIn K xc13 "Apart.__init__" = true) (vv13 : PySem.W.findCls K (.type "RuntimeError") (.type "type") "__init__" = some (.val (.builtin "RuntimeError.__init__"))) (tk13_one : PySem.W.takerIn K e13 "one" = some none) (tk13_other : PySem.W.takerIn K e13 "other" = some none)
  {e14 N14 : Addr} {nm14 q14 : Str} {bs14 sub14 : List Value} {sn14 : List Str} {ab14 : Bool} {col14 : Option Bool} {dd14 : Option Addr} {ka14 kb14 kc14 kd14 ke14 : Option Value} {fi14 : Addr} {xd14 xp14 xc14 xt14 xo14 : Value} {xa14 xq14 : Option Addr} {xl14 : Array (Option Value)} (n14_ : PySem.W.nsIn K mainGlobals "Stopped" = some (some (.ref e14))) (cx14 : K.lookup e14 = some (excClassObj nm14 q14 e14 N14 bs14 [.type "RuntimeError", .type "Exception", .type "BaseException", .type "object"] true sn14 sub14 ab14 col14 dd14 ka14 kb14 kc14 kd14 ke14 "RuntimeError.__new__")) (ty14 : PySem.W.typeIn K (.ref e14) = some (.type "type")) (ex14 : PySem.W.subIn K (.ref e14) (.type "BaseException") = some true) (ga14 : PySem.W.findIn K (.ref e14) "__getattribute__" = some (some (.builtin "BaseException.__getattribute__"))) (gg14 : PySem.W.findIn K (.ref e14) "__getattr__" = some none) (cl14 : PySem.W.findIn K (.ref e14) "__class__" = some (some (.builtin "object.__class__"))) (hd14 : PySem.W.hasDictIn K e14 = true) (mo14 : PySem.W.mroIn K e14 (.type "object") = some true) (kp14 : PySem.W.keepIn K (.ref e14) = true) (sa14 : PySem.W.findIn K (.ref e14) "__setattr__" = some (some (.builtin "object.__setattr__"))) (ic14 : PySem.W.findIn K (.ref e14) "__init__" = some (some (.ref fi14))) (ti14 : PySem.W.typeIn K (.ref fi14) = some (.type "function")) (li14 : K.lookup fi14 = some ⟨xo14, xq14, .func (PySem.W.fnOf "__init__" "Stopped.__init__" (defArgs si_Stopped) (defBody si_Stopped) (defScope si_Stopped) .none .none xd14 xp14 xa14 xc14 xt14), xl14⟩) (ci14 : PySem.W.codeIn K xc14 "Stopped.__init__" = true) (vv14 : PySem.W.findCls K (.type "RuntimeError") (.type "type") "__init__" = some (.val (.builtin "RuntimeError.__init__"))) (tk14_number : PySem.W.takerIn K e14 "number" = some none)
  {e15 N15 : Addr} {nm15 q15 : Str} {bs15 sub15 : List Value} {sn15 : List Str} {ab15 : Bool} {col15 : Option Bool} {dd15 : Option Addr} {ka15 kb15 kc15 kd15 ke15 : Option Value} {fi15 : Addr} {xd15 xp15 xc15 xt15 xo15 : Value} {xa15 xq15 : Option Addr} {xl15 : Array (Option Value)} (n15_ : PySem.W.nsIn K mainGlobals "Shared" = some (some (.ref e15))) (cx15 : K.lookup e15 = some (excClassObj nm15 q15 e15 N15 bs15 [.type "RuntimeError", .type "Exception", .type "BaseException", .type "object"] true sn15 sub15 ab15 col15 dd15 ka15 kb15 kc15 kd15 ke15 "RuntimeError.__new__")) (ty15 : PySem.W.typeIn K (.ref e15) = some (.type "type")) (ex15 : PySem.W.subIn K (.ref e15) (.type "BaseException") = some true) (ga15 : PySem.W.findIn K (.ref e15) "__getattribute__" = some (some (.builtin "BaseException.__getattribute__"))) (gg15 : PySem.W.findIn K (.ref e15) "__getattr__" = some none) (cl15 : PySem.W.findIn K (.ref e15) "__class__" = some (some (.builtin "object.__class__"))) (hd15 : PySem.W.hasDictIn K e15 = true) (mo15 : PySem.W.mroIn K e15 (.type "object") = some true) (kp15 : PySem.W.keepIn K (.ref e15) = true) (sa15 : PySem.W.findIn K (.ref e15) "__setattr__" = some (some (.builtin "object.__setattr__"))) (ic15 : PySem.W.findIn K (.ref e15) "__init__" = some (some (.ref fi15))) (ti15 : PySem.W.typeIn K (.ref fi15) = some (.type "function")) (li15 : K.lookup fi15 = some ⟨xo15, xq15, .func (PySem.W.fnOf "__init__" "Shared.__init__" (defArgs si_Shared) (defBody si_Shared) (defScope si_Shared) .none .none xd15 xp15 xa15 xc15 xt15), xl15⟩) (ci15 : PySem.W.codeIn K xc15 "Shared.__init__" = true) (vv15 : PySem.W.findCls K (.type "RuntimeError") (.type "type") "__init__" = some (.val (.builtin "RuntimeError.__init__"))) (tk15_book : PySem.W.takerIn K e15 "book" = some none)
  {e16 N16 : Addr} {nm16 q16 : Str} {bs16 sub16 : List Value} {sn16 : List Str} {ab16 : Bool} {col16 : Option Bool} {dd16 : Option Addr} {ka16 kb16 kc16 kd16 ke16 : Option Value} {fi16 : Addr} {xd16 xp16 xc16 xt16 xo16 : Value} {xa16 xq16 : Option Addr} {xl16 : Array (Option Value)} (n16_ : PySem.W.nsIn K mainGlobals "Tied" = some (some (.ref e16))) (cx16 : K.lookup e16 = some (excClassObj nm16 q16 e16 N16 bs16 [.type "RuntimeError", .type "Exception", .type "BaseException", .type "object"] true sn16 sub16 ab16 col16 dd16 ka16 kb16 kc16 kd16 ke16 "RuntimeError.__new__")) (ty16 : PySem.W.typeIn K (.ref e16) = some (.type "type")) (ex16 : PySem.W.subIn K (.ref e16) (.type "BaseException") = some true) (ga16 : PySem.W.findIn K (.ref e16) "__getattribute__" = some (some (.builtin "BaseException.__getattribute__"))) (gg16 : PySem.W.findIn K (.ref e16) "__getattr__" = some none) (cl16 : PySem.W.findIn K (.ref e16) "__class__" = some (some (.builtin "object.__class__"))) (hd16 : PySem.W.hasDictIn K e16 = true) (mo16 : PySem.W.mroIn K e16 (.type "object") = some true) (kp16 : PySem.W.keepIn K (.ref e16) = true) (sa16 : PySem.W.findIn K (.ref e16) "__setattr__" = some (some (.builtin "object.__setattr__"))) (ic16 : PySem.W.findIn K (.ref e16) "__init__" = some (some (.ref fi16))) (ti16 : PySem.W.typeIn K (.ref fi16) = some (.type "function")) (li16 : K.lookup fi16 = some ⟨xo16, xq16, .func (PySem.W.fnOf "__init__" "Tied.__init__" (defArgs si_Tied) (defBody si_Tied) (defScope si_Tied) .none .none xd16 xp16 xa16 xc16 xt16), xl16⟩) (ci16 : PySem.W.codeIn K xc16 "Tied.__init__" = true) (vv16 : PySem.W.findCls K (.type "RuntimeError") (.type "type") "__init__" = some (.val (.builtin "RuntimeError.__init__"))) (tk16_pair : PySem.W.takerIn K e16 "pair" = some none)
  {e17 N17 : Addr} {nm17 q17 : Str} {bs17 sub17 : List Value} {sn17 : List Str} {ab17 : Bool} {col17 : Option Bool} {dd17 : Option Addr} {ka17 kb17 kc17 kd17 ke17 : Option Value} {fi17 : Addr} {xd17 xp17 xc17 xt17 xo17 : Value} {xa17 xq17 : Option Addr} {xl17 : Array (Option Value)} (n17_ : PySem.W.nsIn K mainGlobals "Taken" = some (some (.ref e17))) (cx17 : K.lookup e17 = some (excClassObj nm17 q17 e17 N17 bs17 [.type "RuntimeError", .type "Exception", .type "BaseException", .type "object"] true sn17 sub17 ab17 col17 dd17 ka17 kb17 kc17 kd17 ke17 "RuntimeError.__new__")) (ty17 : PySem.W.typeIn K (.ref e17) = some (.type "type")) (ex17 : PySem.W.subIn K (.ref e17) (.type "BaseException") = some true) (ga17 : PySem.W.findIn K (.ref e17) "__getattribute__" = some (some (.builtin "BaseException.__getattribute__"))) (gg17 : PySem.W.findIn K (.ref e17) "__getattr__" = some none) (cl17 : PySem.W.findIn K (.ref e17) "__class__" = some (some (.builtin "object.__class__"))) (hd17 : PySem.W.hasDictIn K e17 = true) (mo17 : PySem.W.mroIn K e17 (.type "object") = some true) (kp17 : PySem.W.keepIn K (.ref e17) = true) (sa17 : PySem.W.findIn K (.ref e17) "__setattr__" = some (some (.builtin "object.__setattr__"))) (ic17 : PySem.W.findIn K (.ref e17) "__init__" = some (some (.ref fi17))) (ti17 : PySem.W.typeIn K (.ref fi17) = some (.type "function")) (li17 : K.lookup fi17 = some ⟨xo17, xq17, .func (PySem.W.fnOf "__init__" "Taken.__init__" (defArgs si_Taken) (defBody si_Taken) (defScope si_Taken) .none .none xd17 xp17 xa17 xc17 xt17), xl17⟩) (ci17 : PySem.W.codeIn K xc17 "Taken.__init__" = true) (vv17 : PySem.W.findCls K (.type "RuntimeError") (.type "type") "__init__" = some (.val (.builtin "RuntimeError.__init__"))) (tk17_book : PySem.W.takerIn K e17 "book" = some none)
  {e18 N18 : Addr} {nm18 q18 : Str} {bs18 sub18 : List Value} {sn18 : List Str} {ab18 : Bool} {col18 : Option Bool} {dd18 : Option Addr} {ka18 kb18 kc18 kd18 ke18 : Option Value} (n18_ : PySem.W.nsIn K mainGlobals "Last" = some (some (.ref e18))) (cx18 : K.lookup e18 = some (excClassObj nm18 q18 e18 N18 bs18 [.type "RuntimeError", .type "Exception", .type "BaseException", .type "object"] true sn18 sub18 ab18 col18 dd18 ka18 kb18 kc18 kd18 ke18 "RuntimeError.__new__")) (ty18 : PySem.W.typeIn K (.ref e18) = some (.type "type")) (ex18 : PySem.W.subIn K (.ref e18) (.type "BaseException") = some true) (ga18 : PySem.W.findIn K (.ref e18) "__getattribute__" = some (some (.builtin "BaseException.__getattribute__"))) (gg18 : PySem.W.findIn K (.ref e18) "__getattr__" = some none) (cl18 : PySem.W.findIn K (.ref e18) "__class__" = some (some (.builtin "object.__class__"))) (hd18 : PySem.W.hasDictIn K e18 = true) (mo18 : PySem.W.mroIn K e18 (.type "object") = some true) (kp18 : PySem.W.keepIn K (.ref e18) = true) (ei18 : PySem.W.excIn K e18 [.type "RuntimeError", .type "Exception", .type "BaseException", .type "object"] "RuntimeError.__new__" = true)
  {e19 N19 : Addr} {nm19 q19 : Str} {bs19 sub19 : List Value} {sn19 : List Str} {ab19 : Bool} {col19 : Option Bool} {dd19 : Option Addr} {ka19 kb19 kc19 kd19 ke19 : Option Value} {fi19 : Addr} {xd19 xp19 xc19 xt19 xo19 : Value} {xa19 xq19 : Option Addr} {xl19 : Array (Option Value)} (n19_ : PySem.W.nsIn K mainGlobals "TooMany" = some (some (.ref e19))) (cx19 : K.lookup e19 = some (excClassObj nm19 q19 e19 N19 bs19 [.type "OverflowError", .type "ArithmeticError", .type "Exception", .type "BaseException", .type "object"] true sn19 sub19 ab19 col19 dd19 ka19 kb19 kc19 kd19 ke19 "OverflowError.__new__")) (ty19 : PySem.W.typeIn K (.ref e19) = some (.type "type")) (ex19 : PySem.W.subIn K (.ref e19) (.type "BaseException") = some true) (ga19 : PySem.W.findIn K (.ref e19) "__getattribute__" = some (some (.builtin "BaseException.__getattribute__"))) (gg19 : PySem.W.findIn K (.ref e19) "__getattr__" = some none) (cl19 : PySem.W.findIn K (.ref e19) "__class__" = some (some (.builtin "object.__class__"))) (hd19 : PySem.W.hasDictIn K e19 = true) (mo19 : PySem.W.mroIn K e19 (.type "object") = some true) (kp19 : PySem.W.keepIn K (.ref e19) = true) (sa19 : PySem.W.findIn K (.ref e19) "__setattr__" = some (some (.builtin "object.__setattr__"))) (ic19 : PySem.W.findIn K (.ref e19) "__init__" = some (some (.ref fi19))) (ti19 : PySem.W.typeIn K (.ref fi19) = some (.type "function")) (li19 : K.lookup fi19 = some ⟨xo19, xq19, .func (PySem.W.fnOf "__init__" "TooMany.__init__" (defArgs si_TooMany) (defBody si_TooMany) (defScope si_TooMany) .none .none xd19 xp19 xa19 xc19 xt19), xl19⟩) (ci19 : PySem.W.codeIn K xc19 "TooMany.__init__" = true) (vv19 : PySem.W.findCls K (.type "OverflowError") (.type "type") "__init__" = some (.val (.builtin "OverflowError.__init__"))) (tk19_many : PySem.W.takerIn K e19 "many" = some none)
  {e20 N20 : Addr} {nm20 q20 : Str} {bs20 sub20 : List Value} {sn20 : List Str} {ab20 : Bool} {col20 : Option Bool} {dd20 : Option Addr} {ka20 kb20 kc20 kd20 ke20 : Option Value} {fi20 : Addr} {xd20 xp20 xc20 xt20 xo20 : Value} {xa20 xq20 : Option Addr} {xl20 : Array (Option Value)} (n20_ : PySem.W.nsIn K mainGlobals "Full" = some (some (.ref e20))) (cx20 : K.lookup e20 = some (excClassObj nm20 q20 e20 N20 bs20 [.type "OverflowError", .type "ArithmeticError", .type "Exception", .type "BaseException", .type "object"] true sn20 sub20 ab20 col20 dd20 ka20 kb20 kc20 kd20 ke20 "OverflowError.__new__")) (ty20 : PySem.W.typeIn K (.ref e20) = some (.type "type")) (ex20 : PySem.W.subIn K (.ref e20) (.type "BaseException") = some true) (ga20 : PySem.W.findIn K (.ref e20) "__getattribute__" = some (some (.builtin "BaseException.__getattribute__"))) (gg20 : PySem.W.findIn K (.ref e20) "__getattr__" = some none) (cl20 : PySem.W.findIn K (.ref e20) "__class__" = some (some (.builtin "object.__class__"))) (hd20 : PySem.W.hasDictIn K e20 = true) (mo20 : PySem.W.mroIn K e20 (.type "object") = some true) (kp20 : PySem.W.keepIn K (.ref e20) = true) (sa20 : PySem.W.findIn K (.ref e20) "__setattr__" = some (some (.builtin "object.__setattr__"))) (ic20 : PySem.W.findIn K (.ref e20) "__init__" = some (some (.ref fi20))) (ti20 : PySem.W.typeIn K (.ref fi20) = some (.type "function")) (li20 : K.lookup fi20 = some ⟨xo20, xq20, .func (PySem.W.fnOf "__init__" "Full.__init__" (defArgs si_Full) (defBody si_Full) (defScope si_Full) .none .none xd20 xp20 xa20 xc20 xt20), xl20⟩) (ci20 : PySem.W.codeIn K xc20 "Full.__init__" = true) (vv20 : PySem.W.findCls K (.type "OverflowError") (.type "type") "__init__" = some (.val (.builtin "OverflowError.__init__"))) (tk20_many : PySem.W.takerIn K e20 "many" = some none)
  (sp_ : PySem.W.specialIn K (.builtin "object.__class__") "__get__" = some (some (.builtin "getset_descriptor.__get__"))) (tk_ : PySem.W.takesIn K (.builtin "object.__class__") = some true) (w_nn_Unlike : PySem.W.subIn K (.type "NoneType") (.ref e0) = some false) (w_s_Unlike_Unlike : PySem.W.subIn K (.ref e0) (.ref e0) = some true) (w_s_Unlike_BadText : PySem.W.subIn K (.ref e0) (.ref e1) = some false) (w_s_Unlike_BadRow : PySem.W.subIn K (.ref e0) (.ref e2) = some false) (w_s_Unlike_Own : PySem.W.subIn K (.ref e0) (.ref e3) = some false) (w_s_Unlike_NoName : PySem.W.subIn K (.ref e0) (.ref e4) = some false) (w_s_Unlike_NoBook : PySem.W.subIn K (.ref e0) (.ref e5) = some false) (w_s_Unlike_NoTie : PySem.W.subIn K (.ref e0) (.ref e6) = some false) (w_s_Unlike_NoPlace : PySem.W.subIn K (.ref e0) (.ref e7) = some false) (w_s_Unlike_NoDeed : PySem.W.subIn K (.ref e0) (.ref e8) = some false) (w_s_Unlike_MayNot : PySem.W.subIn K (.ref e0) (.ref e9) = some false) (w_s_Unlike_Barred : PySem.W.subIn K (.ref e0) (.ref e10) = some false) (w_s_Unlike_Lost : PySem.W.subIn K (.ref e0) (.ref e11) = some false) (w_s_Unlike_Gap : PySem.W.subIn K (.ref e0) (.ref e12) = some false) (w_s_Unlike_Apart : PySem.W.subIn K (.ref e0) (.ref e13) = some false) (w_s_Unlike_Stopped : PySem.W.subIn K (.ref e0) (.ref e14) = some false) (w_s_Unlike_Shared : PySem.W.subIn K (.ref e0) (.ref e15) = some false) (w_s_Unlike_Tied : PySem.W.subIn K (.ref e0) (.ref e16) = some false) (w_s_Unlike_Taken : PySem.W.subIn K (.ref e0) (.ref e17) = some false) (w_s_Unlike_Last : PySem.W.subIn K (.ref e0) (.ref e18) = some false) (w_s_Unlike_TooMany : PySem.W.subIn K (.ref e0) (.ref e19) = some false) (w_s_Unlike_Full : PySem.W.subIn K (.ref e0) (.ref e20) = some false) (w_t_Unlike_IndexError : PySem.W.subIn K (.ref e0) (.type "IndexError") = some false) (w_t_Unlike_KeyError : PySem.W.subIn K (.ref e0) (.type "KeyError") = some false) (w_t_Unlike_LookupError : PySem.W.subIn K (.ref e0) (.type "LookupError") = some false) (w_t_Unlike_NotImplementedError : PySem.W.subIn K (.ref e0) (.type "NotImplementedError") = some false) (w_t_Unlike_OverflowError : PySem.W.subIn K (.ref e0) (.type "OverflowError") = some false) (w_t_Unlike_RuntimeError : PySem.W.subIn K (.ref e0) (.type "RuntimeError") = some false) (w_t_Unlike_ValueError : PySem.W.subIn K (.ref e0) (.type "ValueError") = some true) (w_nn_BadText : PySem.W.subIn K (.type "NoneType") (.ref e1) = some false) (w_s_BadText_Unlike : PySem.W.subIn K (.ref e1) (.ref e0) = some false) (w_s_BadText_BadText : PySem.W.subIn K (.ref e1) (.ref e1) = some true) (w_s_BadText_BadRow : PySem.W.subIn K (.ref e1) (.ref e2) = some false) (w_s_BadText_Own : PySem.W.subIn K (.ref e1) (.ref e3) = some false) (w_s_BadText_NoName : PySem.W.subIn K (.ref e1) (.ref e4) = some false) (w_s_BadText_NoBook : PySem.W.subIn K (.ref e1) (.ref e5) = some false) (w_s_BadText_NoTie : PySem.W.subIn K (.ref e1) (.ref e6) = some false) (w_s_BadText_NoPlace : PySem.W.subIn K (.ref e1) (.ref e7) = some false) (w_s_BadText_NoDeed : PySem.W.subIn K (.ref e1) (.ref e8) = some false) (w_s_BadText_MayNot : PySem.W.subIn K (.ref e1) (.ref e9) = some false) (w_s_BadText_Barred : PySem.W.subIn K (.ref e1) (.ref e10) = some false) (w_s_BadText_Lost : PySem.W.subIn K (.ref e1) (.ref e11) = some false) (w_s_BadText_Gap : PySem.W.subIn K (.ref e1) (.ref e12) = some false) (w_s_BadText_Apart : PySem.W.subIn K (.ref e1) (.ref e13) = some false) (w_s_BadText_Stopped : PySem.W.subIn K (.ref e1) (.ref e14) = some false) (w_s_BadText_Shared : PySem.W.subIn K (.ref e1) (.ref e15) = some false) (w_s_BadText_Tied : PySem.W.subIn K (.ref e1) (.ref e16) = some false) (w_s_BadText_Taken : PySem.W.subIn K (.ref e1) (.ref e17) = some false) (w_s_BadText_Last : PySem.W.subIn K (.ref e1) (.ref e18) = some false) (w_s_BadText_TooMany : PySem.W.subIn K (.ref e1) (.ref e19) = some false) (w_s_BadText_Full : PySem.W.subIn K (.ref e1) (.ref e20) = some false) (w_t_BadText_IndexError : PySem.W.subIn K (.ref e1) (.type "IndexError") = some false) (w_t_BadText_KeyError : PySem.W.subIn K (.ref e1) (.type "KeyError") = some false) (w_t_BadText_LookupError : PySem.W.subIn K (.ref e1) (.type "LookupError") = some false) (w_t_BadText_NotImplementedError : PySem.W.subIn K (.ref e1) (.type "NotImplementedError") = some false) (w_t_BadText_OverflowError : PySem.W.subIn K (.ref e1) (.type "OverflowError") = some false) (w_t_BadText_RuntimeError : PySem.W.subIn K (.ref e1) (.type "RuntimeError") = some false) (w_t_BadText_ValueError : PySem.W.subIn K (.ref e1) (.type "ValueError") = some true) (w_f_BadText_text : PySem.W.findIn K (.ref e1) "text" = some none) (w_nn_BadRow : PySem.W.subIn K (.type "NoneType") (.ref e2) = some false) (w_s_BadRow_Unlike : PySem.W.subIn K (.ref e2) (.ref e0) = some false) (w_s_BadRow_BadText : PySem.W.subIn K (.ref e2) (.ref e1) = some false) (w_s_BadRow_BadRow : PySem.W.subIn K (.ref e2) (.ref e2) = some true) (w_s_BadRow_Own : PySem.W.subIn K (.ref e2) (.ref e3) = some false) (w_s_BadRow_NoName : PySem.W.subIn K (.ref e2) (.ref e4) = some false) (w_s_BadRow_NoBook : PySem.W.subIn K (.ref e2) (.ref e5) = some false) (w_s_BadRow_NoTie : PySem.W.subIn K (.ref e2) (.ref e6) = some false) (w_s_BadRow_NoPlace : PySem.W.subIn K (.ref e2) (.ref e7) = some false) (w_s_BadRow_NoDeed : PySem.W.subIn K (.ref e2) (.ref e8) = some false) (w_s_BadRow_MayNot : PySem.W.subIn K (.ref e2) (.ref e9) = some false) (w_s_BadRow_Barred : PySem.W.subIn K (.ref e2) (.ref e10) = some false) (w_s_BadRow_Lost : PySem.W.subIn K (.ref e2) (.ref e11) = some false) (w_s_BadRow_Gap : PySem.W.subIn K (.ref e2) (.ref e12) = some false) (w_s_BadRow_Apart : PySem.W.subIn K (.ref e2) (.ref e13) = some false) (w_s_BadRow_Stopped : PySem.W.subIn K (.ref e2) (.ref e14) = some false) (w_s_BadRow_Shared : PySem.W.subIn K (.ref e2) (.ref e15) = some false) (w_s_BadRow_Tied : PySem.W.subIn K (.ref e2) (.ref e16) = some false) (w_s_BadRow_Taken : PySem.W.subIn K (.ref e2) (.ref e17) = some false) (w_s_BadRow_Last : PySem.W.subIn K (.ref e2) (.ref e18) = some false) (w_s_BadRow_TooMany : PySem.W.subIn K (.ref e2) (.ref e19) = some false) (w_s_BadRow_Full : PySem.W.subIn K (.ref e2) (.ref e20) = some false) (w_t_BadRow_IndexError : PySem.W.subIn K (.ref e2) (.type "IndexError") = some false) (w_t_BadRow_KeyError : PySem.W.subIn K (.ref e2) (.type "KeyError") = some false) (w_t_BadRow_LookupError : PySem.W.subIn K (.ref e2) (.type "LookupError") = some false) (w_t_BadRow_NotImplementedError : PySem.W.subIn K (.ref e2) (.type "NotImplementedError") = some false) (w_t_BadRow_OverflowError : PySem.W.subIn K (.ref e2) (.type "OverflowError") = some false) (w_t_BadRow_RuntimeError : PySem.W.subIn K (.ref e2) (.type "RuntimeError") = some false) (w_t_BadRow_ValueError : PySem.W.subIn K (.ref e2) (.type "ValueError") = some true) (w_f_BadRow_number : PySem.W.findIn K (.ref e2) "number" = some none) (w_nn_Own : PySem.W.subIn K (.type "NoneType") (.ref e3) = some false) (w_s_Own_Unlike : PySem.W.subIn K (.ref e3) (.ref e0) = some false) (w_s_Own_BadText : PySem.W.subIn K (.ref e3) (.ref e1) = some false) (w_s_Own_BadRow : PySem.W.subIn K (.ref e3) (.ref e2) = some false) (w_s_Own_Own : PySem.W.subIn K (.ref e3) (.ref e3) = some true) (w_s_Own_NoName : PySem.W.subIn K (.ref e3) (.ref e4) = some false) (w_s_Own_NoBook : PySem.W.subIn K (.ref e3) (.ref e5) = some false) (w_s_Own_NoTie : PySem.W.subIn K (.ref e3) (.ref e6) = some false) (w_s_Own_NoPlace : PySem.W.subIn K (.ref e3) (.ref e7) = some false) (w_s_Own_NoDeed : PySem.W.subIn K (.ref e3) (.ref e8) = some false) (w_s_Own_MayNot : PySem.W.subIn K (.ref e3) (.ref e9) = some false) (w_s_Own_Barred : PySem.W.subIn K (.ref e3) (.ref e10) = some false) (w_s_Own_Lost : PySem.W.subIn K (.ref e3) (.ref e11) = some false) (w_s_Own_Gap : PySem.W.subIn K (.ref e3) (.ref e12) = some false) (w_s_Own_Apart : PySem.W.subIn K (.ref e3) (.ref e13) = some false) (w_s_Own_Stopped : PySem.W.subIn K (.ref e3) (.ref e14) = some false) (w_s_Own_Shared : PySem.W.subIn K (.ref e3) (.ref e15) = some false) (w_s_Own_Tied : PySem.W.subIn K (.ref e3) (.ref e16) = some false) (w_s_Own_Taken : PySem.W.subIn K (.ref e3) (.ref e17) = some false) (w_s_Own_Last : PySem.W.subIn K (.ref e3) (.ref e18) = some false) (w_s_Own_TooMany : PySem.W.subIn K (.ref e3) (.ref e19) = some false) (w_s_Own_Full : PySem.W.subIn K (.ref e3) (.ref e20) = some false) (w_t_Own_IndexError : PySem.W.subIn K (.ref e3) (.type "IndexError") = some false) (w_t_Own_KeyError : PySem.W.subIn K (.ref e3) (.type "KeyError") = some false) (w_t_Own_LookupError : PySem.W.subIn K (.ref e3) (.type "LookupError") = some false) (w_t_Own_NotImplementedError : PySem.W.subIn K (.ref e3) (.type "NotImplementedError") = some false) (w_t_Own_OverflowError : PySem.W.subIn K (.ref e3) (.type "OverflowError") = some false) (w_t_Own_RuntimeError : PySem.W.subIn K (.ref e3) (.type "RuntimeError") = some false) (w_t_Own_ValueError : PySem.W.subIn K (.ref e3) (.type "ValueError") = some true) (w_f_Own_book : PySem.W.findIn K (.ref e3) "book" = some none) (w_nn_NoName : PySem.W.subIn K (.type "NoneType") (.ref e4) = some false) (w_s_NoName_Unlike : PySem.W.subIn K (.ref e4) (.ref e0) = some false) (w_s_NoName_BadText : PySem.W.subIn K (.ref e4) (.ref e1) = some false) (w_s_NoName_BadRow : PySem.W.subIn K (.ref e4) (.ref e2) = some false) (w_s_NoName_Own : PySem.W.subIn K (.ref e4) (.ref e3) = some false) (w_s_NoName_NoName : PySem.W.subIn K (.ref e4) (.ref e4) = some true) (w_s_NoName_NoBook : PySem.W.subIn K (.ref e4) (.ref e5) = some false) (w_s_NoName_NoTie : PySem.W.subIn K (.ref e4) (.ref e6) = some false) (w_s_NoName_NoPlace : PySem.W.subIn K (.ref e4) (.ref e7) = some false) (w_s_NoName_NoDeed : PySem.W.subIn K (.ref e4) (.ref e8) = some false) (w_s_NoName_MayNot : PySem.W.subIn K (.ref e4) (.ref e9) = some false) (w_s_NoName_Barred : PySem.W.subIn K (.ref e4) (.ref e10) = some false) (w_s_NoName_Lost : PySem.W.subIn K (.ref e4) (.ref e11) = some false) (w_s_NoName_Gap : PySem.W.subIn K (.ref e4) (.ref e12) = some false) (w_s_NoName_Apart : PySem.W.subIn K (.ref e4) (.ref e13) = some false) (w_s_NoName_Stopped : PySem.W.subIn K (.ref e4) (.ref e14) = some false) (w_s_NoName_Shared : PySem.W.subIn K (.ref e4) (.ref e15) = some false) (w_s_NoName_Tied : PySem.W.subIn K (.ref e4) (.ref e16) = some false) (w_s_NoName_Taken : PySem.W.subIn K (.ref e4) (.ref e17) = some false) (w_s_NoName_Last : PySem.W.subIn K (.ref e4) (.ref e18) = some false) (w_s_NoName_TooMany : PySem.W.subIn K (.ref e4) (.ref e19) = some false) (w_s_NoName_Full : PySem.W.subIn K (.ref e4) (.ref e20) = some false) (w_t_NoName_IndexError : PySem.W.subIn K (.ref e4) (.type "IndexError") = some false) (w_t_NoName_KeyError : PySem.W.subIn K (.ref e4) (.type "KeyError") = some false) (w_t_NoName_LookupError : PySem.W.subIn K (.ref e4) (.type "LookupError") = some false) (w_t_NoName_NotImplementedError : PySem.W.subIn K (.ref e4) (.type "NotImplementedError") = some false) (w_t_NoName_OverflowError : PySem.W.subIn K (.ref e4) (.type "OverflowError") = some false) (w_t_NoName_RuntimeError : PySem.W.subIn K (.ref e4) (.type "RuntimeError") = some false) (w_t_NoName_ValueError : PySem.W.subIn K (.ref e4) (.type "ValueError") = some true) (w_f_NoName_book : PySem.W.findIn K (.ref e4) "book" = some none) (w_nn_NoBook : PySem.W.subIn K (.type "NoneType") (.ref e5) = some false) (w_s_NoBook_Unlike : PySem.W.subIn K (.ref e5) (.ref e0) = some false) (w_s_NoBook_BadText : PySem.W.subIn K (.ref e5) (.ref e1) = some false) (w_s_NoBook_BadRow : PySem.W.subIn K (.ref e5) (.ref e2) = some false) (w_s_NoBook_Own : PySem.W.subIn K (.ref e5) (.ref e3) = some false) (w_s_NoBook_NoName : PySem.W.subIn K (.ref e5) (.ref e4) = some false) (w_s_NoBook_NoBook : PySem.W.subIn K (.ref e5) (.ref e5) = some true) (w_s_NoBook_NoTie : PySem.W.subIn K (.ref e5) (.ref e6) = some false) (w_s_NoBook_NoPlace : PySem.W.subIn K (.ref e5) (.ref e7) = some false) (w_s_NoBook_NoDeed : PySem.W.subIn K (.ref e5) (.ref e8) = some false) (w_s_NoBook_MayNot : PySem.W.subIn K (.ref e5) (.ref e9) = some false) (w_s_NoBook_Barred : PySem.W.subIn K (.ref e5) (.ref e10) = some false) (w_s_NoBook_Lost : PySem.W.subIn K (.ref e5) (.ref e11) = some false) (w_s_NoBook_Gap : PySem.W.subIn K (.ref e5) (.ref e12) = some false) (w_s_NoBook_Apart : PySem.W.subIn K (.ref e5) (.ref e13) = some false) (w_s_NoBook_Stopped : PySem.W.subIn K (.ref e5) (.ref e14) = some false) (w_s_NoBook_Shared : PySem.W.subIn K (.ref e5) (.ref e15) = some false) (w_s_NoBook_Tied : PySem.W.subIn K (.ref e5) (.ref e16) = some false) (w_s_NoBook_Taken : PySem.W.subIn K (.ref e5) (.ref e17) = some false) (w_s_NoBook_Last : PySem.W.subIn K (.ref e5) (.ref e18) = some false) (w_s_NoBook_TooMany : PySem.W.subIn K (.ref e5) (.ref e19) = some false) (w_s_NoBook_Full : PySem.W.subIn K (.ref e5) (.ref e20) = some false) (w_t_NoBook_IndexError : PySem.W.subIn K (.ref e5) (.type "IndexError") = some false) (w_t_NoBook_KeyError : PySem.W.subIn K (.ref e5) (.type "KeyError") = some false) (w_t_NoBook_LookupError : PySem.W.subIn K (.ref e5) (.type "LookupError") = some true) (w_t_NoBook_NotImplementedError : PySem.W.subIn K (.ref e5) (.type "NotImplementedError") = some false) (w_t_NoBook_OverflowError : PySem.W.subIn K (.ref e5) (.type "OverflowError") = some false) (w_t_NoBook_RuntimeError : PySem.W.subIn K (.ref e5) (.type "RuntimeError") = some false) (w_t_NoBook_ValueError : PySem.W.subIn K (.ref e5) (.type "ValueError") = some false) (w_f_NoBook_book : PySem.W.findIn K (.ref e5) "book" = some none) (w_nn_NoTie : PySem.W.subIn K (.type "NoneType") (.ref e6) = some false) (w_s_NoTie_Unlike : PySem.W.subIn K (.ref e6) (.ref e0) = some false) (w_s_NoTie_BadText : PySem.W.subIn K (.ref e6) (.ref e1) = some false) (w_s_NoTie_BadRow : PySem.W.subIn K (.ref e6) (.ref e2) = some false) (w_s_NoTie_Own : PySem.W.subIn K (.ref e6) (.ref e3) = some false) (w_s_NoTie_NoName : PySem.W.subIn K (.ref e6) (.ref e4) = some false) (w_s_NoTie_NoBook : PySem.W.subIn K (.ref e6) (.ref e5) = some false) (w_s_NoTie_NoTie : PySem.W.subIn K (.ref e6) (.ref e6) = some true) (w_s_NoTie_NoPlace : PySem.W.subIn K (.ref e6) (.ref e7) = some false) (w_s_NoTie_NoDeed : PySem.W.subIn K (.ref e6) (.ref e8) = some false) (w_s_NoTie_MayNot : PySem.W.subIn K (.ref e6) (.ref e9) = some false) (w_s_NoTie_Barred : PySem.W.subIn K (.ref e6) (.ref e10) = some false) (w_s_NoTie_Lost : PySem.W.subIn K (.ref e6) (.ref e11) = some false) (w_s_NoTie_Gap : PySem.W.subIn K (.ref e6) (.ref e12) = some false) (w_s_NoTie_Apart : PySem.W.subIn K (.ref e6) (.ref e13) = some false) (w_s_NoTie_Stopped : PySem.W.subIn K (.ref e6) (.ref e14) = some false) (w_s_NoTie_Shared : PySem.W.subIn K (.ref e6) (.ref e15) = some false) (w_s_NoTie_Tied : PySem.W.subIn K (.ref e6) (.ref e16) = some false) (w_s_NoTie_Taken : PySem.W.subIn K (.ref e6) (.ref e17) = some false) (w_s_NoTie_Last : PySem.W.subIn K (.ref e6) (.ref e18) = some false) (w_s_NoTie_TooMany : PySem.W.subIn K (.ref e6) (.ref e19) = some false) (w_s_NoTie_Full : PySem.W.subIn K (.ref e6) (.ref e20) = some false) (w_t_NoTie_IndexError : PySem.W.subIn K (.ref e6) (.type "IndexError") = some false) (w_t_NoTie_KeyError : PySem.W.subIn K (.ref e6) (.type "KeyError") = some false) (w_t_NoTie_LookupError : PySem.W.subIn K (.ref e6) (.type "LookupError") = some true) (w_t_NoTie_NotImplementedError : PySem.W.subIn K (.ref e6) (.type "NotImplementedError") = some false) (w_t_NoTie_OverflowError : PySem.W.subIn K (.ref e6) (.type "OverflowError") = some false) (w_t_NoTie_RuntimeError : PySem.W.subIn K (.ref e6) (.type "RuntimeError") = some false) (w_t_NoTie_ValueError : PySem.W.subIn K (.ref e6) (.type "ValueError") = some false) (w_f_NoTie_pair : PySem.W.findIn K (.ref e6) "pair" = some none) (w_nn_NoPlace : PySem.W.subIn K (.type "NoneType") (.ref e7) = some false) (w_s_NoPlace_Unlike : PySem.W.subIn K (.ref e7) (.ref e0) = some false) (w_s_NoPlace_BadText : PySem.W.subIn K (.ref e7) (.ref e1) = some false) (w_s_NoPlace_BadRow : PySem.W.subIn K (.ref e7) (.ref e2) = some false) (w_s_NoPlace_Own : PySem.W.subIn K (.ref e7) (.ref e3) = some false) (w_s_NoPlace_NoName : PySem.W.subIn K (.ref e7) (.ref e4) = some false) (w_s_NoPlace_NoBook : PySem.W.subIn K (.ref e7) (.ref e5) = some false) (w_s_NoPlace_NoTie : PySem.W.subIn K (.ref e7) (.ref e6) = some false) (w_s_NoPlace_NoPlace : PySem.W.subIn K (.ref e7) (.ref e7) = some true) (w_s_NoPlace_NoDeed : PySem.W.subIn K (.ref e7) (.ref e8) = some false) (w_s_NoPlace_MayNot : PySem.W.subIn K (.ref e7) (.ref e9) = some false) (w_s_NoPlace_Barred : PySem.W.subIn K (.ref e7) (.ref e10) = some false) (w_s_NoPlace_Lost : PySem.W.subIn K (.ref e7) (.ref e11) = some false) (w_s_NoPlace_Gap : PySem.W.subIn K (.ref e7) (.ref e12) = some false) (w_s_NoPlace_Apart : PySem.W.subIn K (.ref e7) (.ref e13) = some false) (w_s_NoPlace_Stopped : PySem.W.subIn K (.ref e7) (.ref e14) = some false) (w_s_NoPlace_Shared : PySem.W.subIn K (.ref e7) (.ref e15) = some false) (w_s_NoPlace_Tied : PySem.W.subIn K (.ref e7) (.ref e16) = some false) (w_s_NoPlace_Taken : PySem.W.subIn K (.ref e7) (.ref e17) = some false) (w_s_NoPlace_Last : PySem.W.subIn K (.ref e7) (.ref e18) = some false) (w_s_NoPlace_TooMany : PySem.W.subIn K (.ref e7) (.ref e19) = some false) (w_s_NoPlace_Full : PySem.W.subIn K (.ref e7) (.ref e20) = some false) (w_t_NoPlace_IndexError : PySem.W.subIn K (.ref e7) (.type "IndexError") = some false) (w_t_NoPlace_KeyError : PySem.W.subIn K (.ref e7) (.type "KeyError") = some false) (w_t_NoPlace_LookupError : PySem.W.subIn K (.ref e7) (.type "LookupError") = some true) (w_t_NoPlace_NotImplementedError : PySem.W.subIn K (.ref e7) (.type "NotImplementedError") = some false) (w_t_NoPlace_OverflowError : PySem.W.subIn K (.ref e7) (.type "OverflowError") = some false) (w_t_NoPlace_RuntimeError : PySem.W.subIn K (.ref e7) (.type "RuntimeError") = some false) (w_t_NoPlace_ValueError : PySem.W.subIn K (.ref e7) (.type "ValueError") = some false) (w_f_NoPlace_at : PySem.W.findIn K (.ref e7) "at" = some none) (w_nn_NoDeed : PySem.W.subIn K (.type "NoneType") (.ref e8) = some false) (w_s_NoDeed_Unlike : PySem.W.subIn K (.ref e8) (.ref e0) = some false) (w_s_NoDeed_BadText : PySem.W.subIn K (.ref e8) (.ref e1) = some false) (w_s_NoDeed_BadRow : PySem.W.subIn K (.ref e8) (.ref e2) = some false) (w_s_NoDeed_Own : PySem.W.subIn K (.ref e8) (.ref e3) = some false) (w_s_NoDeed_NoName : PySem.W.subIn K (.ref e8) (.ref e4) = some false) (w_s_NoDeed_NoBook : PySem.W.subIn K (.ref e8) (.ref e5) = some false) (w_s_NoDeed_NoTie : PySem.W.subIn K (.ref e8) (.ref e6) = some false) (w_s_NoDeed_NoPlace : PySem.W.subIn K (.ref e8) (.ref e7) = some false) (w_s_NoDeed_NoDeed : PySem.W.subIn K (.ref e8) (.ref e8) = some true) (w_s_NoDeed_MayNot : PySem.W.subIn K (.ref e8) (.ref e9) = some false) (w_s_NoDeed_Barred : PySem.W.subIn K (.ref e8) (.ref e10) = some false) (w_s_NoDeed_Lost : PySem.W.subIn K (.ref e8) (.ref e11) = some false) (w_s_NoDeed_Gap : PySem.W.subIn K (.ref e8) (.ref e12) = some false) (w_s_NoDeed_Apart : PySem.W.subIn K (.ref e8) (.ref e13) = some false) (w_s_NoDeed_Stopped : PySem.W.subIn K (.ref e8) (.ref e14) = some false) (w_s_NoDeed_Shared : PySem.W.subIn K (.ref e8) (.ref e15) = some false) (w_s_NoDeed_Tied : PySem.W.subIn K (.ref e8) (.ref e16) = some false) (w_s_NoDeed_Taken : PySem.W.subIn K (.ref e8) (.ref e17) = some false) (w_s_NoDeed_Last : PySem.W.subIn K (.ref e8) (.ref e18) = some false) (w_s_NoDeed_TooMany : PySem.W.subIn K (.ref e8) (.ref e19) = some false) (w_s_NoDeed_Full : PySem.W.subIn K (.ref e8) (.ref e20) = some false) (w_t_NoDeed_IndexError : PySem.W.subIn K (.ref e8) (.type "IndexError") = some false) (w_t_NoDeed_KeyError : PySem.W.subIn K (.ref e8) (.type "KeyError") = some false) (w_t_NoDeed_LookupError : PySem.W.subIn K (.ref e8) (.type "LookupError") = some true) (w_t_NoDeed_NotImplementedError : PySem.W.subIn K (.ref e8) (.type "NotImplementedError") = some false) (w_t_NoDeed_OverflowError : PySem.W.subIn K (.ref e8) (.type "OverflowError") = some false) (w_t_NoDeed_RuntimeError : PySem.W.subIn K (.ref e8) (.type "RuntimeError") = some false) (w_t_NoDeed_ValueError : PySem.W.subIn K (.ref e8) (.type "ValueError") = some false) (w_f_NoDeed_many : PySem.W.findIn K (.ref e8) "many" = some none) (w_nn_MayNot : PySem.W.subIn K (.type "NoneType") (.ref e9) = some false) (w_s_MayNot_Unlike : PySem.W.subIn K (.ref e9) (.ref e0) = some false) (w_s_MayNot_BadText : PySem.W.subIn K (.ref e9) (.ref e1) = some false) (w_s_MayNot_BadRow : PySem.W.subIn K (.ref e9) (.ref e2) = some false) (w_s_MayNot_Own : PySem.W.subIn K (.ref e9) (.ref e3) = some false) (w_s_MayNot_NoName : PySem.W.subIn K (.ref e9) (.ref e4) = some false) (w_s_MayNot_NoBook : PySem.W.subIn K (.ref e9) (.ref e5) = some false) (w_s_MayNot_NoTie : PySem.W.subIn K (.ref e9) (.ref e6) = some false) (w_s_MayNot_NoPlace : PySem.W.subIn K (.ref e9) (.ref e7) = some false) (w_s_MayNot_NoDeed : PySem.W.subIn K (.ref e9) (.ref e8) = some false) (w_s_MayNot_MayNot : PySem.W.subIn K (.ref e9) (.ref e9) = some true) (w_s_MayNot_Barred : PySem.W.subIn K (.ref e9) (.ref e10) = some false) (w_s_MayNot_Lost : PySem.W.subIn K (.ref e9) (.ref e11) = some false) (w_s_MayNot_Gap : PySem.W.subIn K (.ref e9) (.ref e12) = some false) (w_s_MayNot_Apart : PySem.W.subIn K (.ref e9) (.ref e13) = some false) (w_s_MayNot_Stopped : PySem.W.subIn K (.ref e9) (.ref e14) = some false) (w_s_MayNot_Shared : PySem.W.subIn K (.ref e9) (.ref e15) = some false) (w_s_MayNot_Tied : PySem.W.subIn K (.ref e9) (.ref e16) = some false) (w_s_MayNot_Taken : PySem.W.subIn K (.ref e9) (.ref e17) = some false) (w_s_MayNot_Last : PySem.W.subIn K (.ref e9) (.ref e18) = some false) (w_s_MayNot_TooMany : PySem.W.subIn K (.ref e9) (.ref e19) = some false) (w_s_MayNot_Full : PySem.W.subIn K (.ref e9) (.ref e20) = some false) (w_t_MayNot_IndexError : PySem.W.subIn K (.ref e9) (.type "IndexError") = some false) (w_t_MayNot_KeyError : PySem.W.subIn K (.ref e9) (.type "KeyError") = some false) (w_t_MayNot_LookupError : PySem.W.subIn K (.ref e9) (.type "LookupError") = some false) (w_t_MayNot_NotImplementedError : PySem.W.subIn K (.ref e9) (.type "NotImplementedError") = some false) (w_t_MayNot_OverflowError : PySem.W.subIn K (.ref e9) (.type "OverflowError") = some false) (w_t_MayNot_RuntimeError : PySem.W.subIn K (.ref e9) (.type "RuntimeError") = some true) (w_t_MayNot_ValueError : PySem.W.subIn K (.ref e9) (.type "ValueError") = some false) (w_f_MayNot_book : PySem.W.findIn K (.ref e9) "book" = some none) (w_nn_Barred : PySem.W.subIn K (.type "NoneType") (.ref e10) = some false) (w_s_Barred_Unlike : PySem.W.subIn K (.ref e10) (.ref e0) = some false) (w_s_Barred_BadText : PySem.W.subIn K (.ref e10) (.ref e1) = some false) (w_s_Barred_BadRow : PySem.W.subIn K (.ref e10) (.ref e2) = some false) (w_s_Barred_Own : PySem.W.subIn K (.ref e10) (.ref e3) = some false) (w_s_Barred_NoName : PySem.W.subIn K (.ref e10) (.ref e4) = some false) (w_s_Barred_NoBook : PySem.W.subIn K (.ref e10) (.ref e5) = some false) (w_s_Barred_NoTie : PySem.W.subIn K (.ref e10) (.ref e6) = some false) (w_s_Barred_NoPlace : PySem.W.subIn K (.ref e10) (.ref e7) = some false) (w_s_Barred_NoDeed : PySem.W.subIn K (.ref e10) (.ref e8) = some false) (w_s_Barred_MayNot : PySem.W.subIn K (.ref e10) (.ref e9) = some false) (w_s_Barred_Barred : PySem.W.subIn K (.ref e10) (.ref e10) = some true) (w_s_Barred_Lost : PySem.W.subIn K (.ref e10) (.ref e11) = some false) (w_s_Barred_Gap : PySem.W.subIn K (.ref e10) (.ref e12) = some false) (w_s_Barred_Apart : PySem.W.subIn K (.ref e10) (.ref e13) = some false) (w_s_Barred_Stopped : PySem.W.subIn K (.ref e10) (.ref e14) = some false) (w_s_Barred_Shared : PySem.W.subIn K (.ref e10) (.ref e15) = some false) (w_s_Barred_Tied : PySem.W.subIn K (.ref e10) (.ref e16) = some false) (w_s_Barred_Taken : PySem.W.subIn K (.ref e10) (.ref e17) = some false) (w_s_Barred_Last : PySem.W.subIn K (.ref e10) (.ref e18) = some false) (w_s_Barred_TooMany : PySem.W.subIn K (.ref e10) (.ref e19) = some false) (w_s_Barred_Full : PySem.W.subIn K (.ref e10) (.ref e20) = some false) (w_t_Barred_IndexError : PySem.W.subIn K (.ref e10) (.type "IndexError") = some false) (w_t_Barred_KeyError : PySem.W.subIn K (.ref e10) (.type "KeyError") = some false) (w_t_Barred_LookupError : PySem.W.subIn K (.ref e10) (.type "LookupError") = some false) (w_t_Barred_NotImplementedError : PySem.W.subIn K (.ref e10) (.type "NotImplementedError") = some false) (w_t_Barred_OverflowError : PySem.W.subIn K (.ref e10) (.type "OverflowError") = some false) (w_t_Barred_RuntimeError : PySem.W.subIn K (.ref e10) (.type "RuntimeError") = some true) (w_t_Barred_ValueError : PySem.W.subIn K (.ref e10) (.type "ValueError") = some false) (w_f_Barred_ring : PySem.W.findIn K (.ref e10) "ring" = some none) (w_nn_Lost : PySem.W.subIn K (.type "NoneType") (.ref e11) = some false) (w_s_Lost_Unlike : PySem.W.subIn K (.ref e11) (.ref e0) = some false) (w_s_Lost_BadText : PySem.W.subIn K (.ref e11) (.ref e1) = some false) (w_s_Lost_BadRow : PySem.W.subIn K (.ref e11) (.ref e2) = some false) (w_s_Lost_Own : PySem.W.subIn K (.ref e11) (.ref e3) = some false) (w_s_Lost_NoName : PySem.W.subIn K (.ref e11) (.ref e4) = some false) (w_s_Lost_NoBook : PySem.W.subIn K (.ref e11) (.ref e5) = some false) (w_s_Lost_NoTie : PySem.W.subIn K (.ref e11) (.ref e6) = some false) (w_s_Lost_NoPlace : PySem.W.subIn K (.ref e11) (.ref e7) = some false) (w_s_Lost_NoDeed : PySem.W.subIn K (.ref e11) (.ref e8) = some false) (w_s_Lost_MayNot : PySem.W.subIn K (.ref e11) (.ref e9) = some false) (w_s_Lost_Barred : PySem.W.subIn K (.ref e11) (.ref e10) = some false) (w_s_Lost_Lost : PySem.W.subIn K (.ref e11) (.ref e11) = some true) (w_s_Lost_Gap : PySem.W.subIn K (.ref e11) (.ref e12) = some false) (w_s_Lost_Apart : PySem.W.subIn K (.ref e11) (.ref e13) = some false) (w_s_Lost_Stopped : PySem.W.subIn K (.ref e11) (.ref e14) = some false) (w_s_Lost_Shared : PySem.W.subIn K (.ref e11) (.ref e15) = some false) (w_s_Lost_Tied : PySem.W.subIn K (.ref e11) (.ref e16) = some false) (w_s_Lost_Taken : PySem.W.subIn K (.ref e11) (.ref e17) = some false) (w_s_Lost_Last : PySem.W.subIn K (.ref e11) (.ref e18) = some false) (w_s_Lost_TooMany : PySem.W.subIn K (.ref e11) (.ref e19) = some false) (w_s_Lost_Full : PySem.W.subIn K (.ref e11) (.ref e20) = some false) (w_t_Lost_IndexError : PySem.W.subIn K (.ref e11) (.type "IndexError") = some false) (w_t_Lost_KeyError : PySem.W.subIn K (.ref e11) (.type "KeyError") = some false) (w_t_Lost_LookupError : PySem.W.subIn K (.ref e11) (.type "LookupError") = some false) (w_t_Lost_NotImplementedError : PySem.W.subIn K (.ref e11) (.type "NotImplementedError") = some false) (w_t_Lost_OverflowError : PySem.W.subIn K (.ref e11) (.type "OverflowError") = some false) (w_t_Lost_RuntimeError : PySem.W.subIn K (.ref e11) (.type "RuntimeError") = some true) (w_t_Lost_ValueError : PySem.W.subIn K (.ref e11) (.type "ValueError") = some false) (w_f_Lost_place : PySem.W.findIn K (.ref e11) "place" = some none) (w_nn_Gap : PySem.W.subIn K (.type "NoneType") (.ref e12) = some false) (w_s_Gap_Unlike : PySem.W.subIn K (.ref e12) (.ref e0) = some false) (w_s_Gap_BadText : PySem.W.subIn K (.ref e12) (.ref e1) = some false) (w_s_Gap_BadRow : PySem.W.subIn K (.ref e12) (.ref e2) = some false) (w_s_Gap_Own : PySem.W.subIn K (.ref e12) (.ref e3) = some false) (w_s_Gap_NoName : PySem.W.subIn K (.ref e12) (.ref e4) = some false) (w_s_Gap_NoBook : PySem.W.subIn K (.ref e12) (.ref e5) = some false) (w_s_Gap_NoTie : PySem.W.subIn K (.ref e12) (.ref e6) = some false) (w_s_Gap_NoPlace : PySem.W.subIn K (.ref e12) (.ref e7) = some false) (w_s_Gap_NoDeed : PySem.W.subIn K (.ref e12) (.ref e8) = some false) (w_s_Gap_MayNot : PySem.W.subIn K (.ref e12) (.ref e9) = some false) (w_s_Gap_Barred : PySem.W.subIn K (.ref e12) (.ref e10) = some false) (w_s_Gap_Lost : PySem.W.subIn K (.ref e12) (.ref e11) = some false) (w_s_Gap_Gap : PySem.W.subIn K (.ref e12) (.ref e12) = some true) (w_s_Gap_Apart : PySem.W.subIn K (.ref e12) (.ref e13) = some false) (w_s_Gap_Stopped : PySem.W.subIn K (.ref e12) (.ref e14) = some false) (w_s_Gap_Shared : PySem.W.subIn K (.ref e12) (.ref e15) = some false) (w_s_Gap_Tied : PySem.W.subIn K (.ref e12) (.ref e16) = some false) (w_s_Gap_Taken : PySem.W.subIn K (.ref e12) (.ref e17) = some false) (w_s_Gap_Last : PySem.W.subIn K (.ref e12) (.ref e18) = some false) (w_s_Gap_TooMany : PySem.W.subIn K (.ref e12) (.ref e19) = some false) (w_s_Gap_Full : PySem.W.subIn K (.ref e12) (.ref e20) = some false) (w_t_Gap_IndexError : PySem.W.subIn K (.ref e12) (.type "IndexError") = some false) (w_t_Gap_KeyError : PySem.W.subIn K (.ref e12) (.type "KeyError") = some false) (w_t_Gap_LookupError : PySem.W.subIn K (.ref e12) (.type "LookupError") = some false) (w_t_Gap_NotImplementedError : PySem.W.subIn K (.ref e12) (.type "NotImplementedError") = some false) (w_t_Gap_OverflowError : PySem.W.subIn K (.ref e12) (.type "OverflowError") = some false) (w_t_Gap_RuntimeError : PySem.W.subIn K (.ref e12) (.type "RuntimeError") = some true) (w_t_Gap_ValueError : PySem.W.subIn K (.ref e12) (.type "ValueError") = some false) (w_f_Gap_place : PySem.W.findIn K (.ref e12) "place" = some none) (w_f_Gap_ring : PySem.W.findIn K (.ref e12) "ring" = some none) (w_nn_Apart : PySem.W.subIn K (.type "NoneType") (.ref e13) = some false) (w_s_Apart_Unlike : PySem.W.subIn K (.ref e13) (.ref e0) = some false) (w_s_Apart_BadText : PySem.W.subIn K (.ref e13) (.ref e1) = some false) (w_s_Apart_BadRow : PySem.W.subIn K (.ref e13) (.ref e2) = some false) (w_s_Apart_Own : PySem.W.subIn K (.ref e13) (.ref e3) = some false) (w_s_Apart_NoName : PySem.W.subIn K (.ref e13) (.ref e4) = some false) (w_s_Apart_NoBook : PySem.W.subIn K (.ref e13) (.ref e5) = some false) (w_s_Apart_NoTie : PySem.W.subIn K (.ref e13) (.ref e6) = some false) (w_s_Apart_NoPlace : PySem.W.subIn K (.ref e13) (.ref e7) = some false) (w_s_Apart_NoDeed : PySem.W.subIn K (.ref e13) (.ref e8) = some false) (w_s_Apart_MayNot : PySem.W.subIn K (.ref e13) (.ref e9) = some false) (w_s_Apart_Barred : PySem.W.subIn K (.ref e13) (.ref e10) = some false) (w_s_Apart_Lost : PySem.W.subIn K (.ref e13) (.ref e11) = some false) (w_s_Apart_Gap : PySem.W.subIn K (.ref e13) (.ref e12) = some false) (w_s_Apart_Apart : PySem.W.subIn K (.ref e13) (.ref e13) = some true) (w_s_Apart_Stopped : PySem.W.subIn K (.ref e13) (.ref e14) = some false) (w_s_Apart_Shared : PySem.W.subIn K (.ref e13) (.ref e15) = some false) (w_s_Apart_Tied : PySem.W.subIn K (.ref e13) (.ref e16) = some false) (w_s_Apart_Taken : PySem.W.subIn K (.ref e13) (.ref e17) = some false) (w_s_Apart_Last : PySem.W.subIn K (.ref e13) (.ref e18) = some false) (w_s_Apart_TooMany : PySem.W.subIn K (.ref e13) (.ref e19) = some false) (w_s_Apart_Full : PySem.W.subIn K (.ref e13) (.ref e20) = some false) (w_t_Apart_IndexError : PySem.W.subIn K (.ref e13) (.type "IndexError") = some false) (w_t_Apart_KeyError : PySem.W.subIn K (.ref e13) (.type "KeyError") = some false) (w_t_Apart_LookupError : PySem.W.subIn K (.ref e13) (.type "LookupError") = some false) (w_t_Apart_NotImplementedError : PySem.W.subIn K (.ref e13) (.type "NotImplementedError") = some false) (w_t_Apart_OverflowError : PySem.W.subIn K (.ref e13) (.type "OverflowError") = some false) (w_t_Apart_RuntimeError : PySem.W.subIn K (.ref e13) (.type "RuntimeError") = some true) (w_t_Apart_ValueError : PySem.W.subIn K (.ref e13) (.type "ValueError") = some false) (w_f_Apart_one : PySem.W.findIn K (.ref e13) "one" = some none) (w_f_Apart_other : PySem.W.findIn K (.ref e13) "other" = some none) (w_nn_Stopped : PySem.W.subIn K (.type "NoneType") (.ref e14) = some false) (w_s_Stopped_Unlike : PySem.W.subIn K (.ref e14) (.ref e0) = some false) (w_s_Stopped_BadText : PySem.W.subIn K (.ref e14) (.ref e1) = some false) (w_s_Stopped_BadRow : PySem.W.subIn K (.ref e14) (.ref e2) = some false) (w_s_Stopped_Own : PySem.W.subIn K (.ref e14) (.ref e3) = some false) (w_s_Stopped_NoName : PySem.W.subIn K (.ref e14) (.ref e4) = some false) (w_s_Stopped_NoBook : PySem.W.subIn K (.ref e14) (.ref e5) = some false) (w_s_Stopped_NoTie : PySem.W.subIn K (.ref e14) (.ref e6) = some false) (w_s_Stopped_NoPlace : PySem.W.subIn K (.ref e14) (.ref e7) = some false) (w_s_Stopped_NoDeed : PySem.W.subIn K (.ref e14) (.ref e8) = some false) (w_s_Stopped_MayNot : PySem.W.subIn K (.ref e14) (.ref e9) = some false) (w_s_Stopped_Barred : PySem.W.subIn K (.ref e14) (.ref e10) = some false) (w_s_Stopped_Lost : PySem.W.subIn K (.ref e14) (.ref e11) = some false) (w_s_Stopped_Gap : PySem.W.subIn K (.ref e14) (.ref e12) = some false) (w_s_Stopped_Apart : PySem.W.subIn K (.ref e14) (.ref e13) = some false) (w_s_Stopped_Stopped : PySem.W.subIn K (.ref e14) (.ref e14) = some true) (w_s_Stopped_Shared : PySem.W.subIn K (.ref e14) (.ref e15) = some false) (w_s_Stopped_Tied : PySem.W.subIn K (.ref e14) (.ref e16) = some false) (w_s_Stopped_Taken : PySem.W.subIn K (.ref e14) (.ref e17) = some false) (w_s_Stopped_Last : PySem.W.subIn K (.ref e14) (.ref e18) = some false) (w_s_Stopped_TooMany : PySem.W.subIn K (.ref e14) (.ref e19) = some false) (w_s_Stopped_Full : PySem.W.subIn K (.ref e14) (.ref e20) = some false) (w_t_Stopped_IndexError : PySem.W.subIn K (.ref e14) (.type "IndexError") = some false) (w_t_Stopped_KeyError : PySem.W.subIn K (.ref e14) (.type "KeyError") = some false) (w_t_Stopped_LookupError : PySem.W.subIn K (.ref e14) (.type "LookupError") = some false) (w_t_Stopped_NotImplementedError : PySem.W.subIn K (.ref e14) (.type "NotImplementedError") = some false) (w_t_Stopped_OverflowError : PySem.W.subIn K (.ref e14) (.type "OverflowError") = some false) (w_t_Stopped_RuntimeError : PySem.W.subIn K (.ref e14) (.type "RuntimeError") = some true) (w_t_Stopped_ValueError : PySem.W.subIn K (.ref e14) (.type "ValueError") = some false) (w_f_Stopped_number : PySem.W.findIn K (.ref e14) "number" = some none) (w_nn_Shared : PySem.W.subIn K (.type "NoneType") (.ref e15) = some false) (w_s_Shared_Unlike : PySem.W.subIn K (.ref e15) (.ref e0) = some false) (w_s_Shared_BadText : PySem.W.subIn K (.ref e15) (.ref e1) = some false) (w_s_Shared_BadRow : PySem.W.subIn K (.ref e15) (.ref e2) = some false) (w_s_Shared_Own : PySem.W.subIn K (.ref e15) (.ref e3) = some false) (w_s_Shared_NoName : PySem.W.subIn K (.ref e15) (.ref e4) = some false) (w_s_Shared_NoBook : PySem.W.subIn K (.ref e15) (.ref e5) = some false) (w_s_Shared_NoTie : PySem.W.subIn K (.ref e15) (.ref e6) = some false) (w_s_Shared_NoPlace : PySem.W.subIn K (.ref e15) (.ref e7) = some false) (w_s_Shared_NoDeed : PySem.W.subIn K (.ref e15) (.ref e8) = some false) (w_s_Shared_MayNot : PySem.W.subIn K (.ref e15) (.ref e9) = some false) (w_s_Shared_Barred : PySem.W.subIn K (.ref e15) (.ref e10) = some false) (w_s_Shared_Lost : PySem.W.subIn K (.ref e15) (.ref e11) = some false) (w_s_Shared_Gap : PySem.W.subIn K (.ref e15) (.ref e12) = some false) (w_s_Shared_Apart : PySem.W.subIn K (.ref e15) (.ref e13) = some false) (w_s_Shared_Stopped : PySem.W.subIn K (.ref e15) (.ref e14) = some false) (w_s_Shared_Shared : PySem.W.subIn K (.ref e15) (.ref e15) = some true) (w_s_Shared_Tied : PySem.W.subIn K (.ref e15) (.ref e16) = some false) (w_s_Shared_Taken : PySem.W.subIn K (.ref e15) (.ref e17) = some false) (w_s_Shared_Last : PySem.W.subIn K (.ref e15) (.ref e18) = some false) (w_s_Shared_TooMany : PySem.W.subIn K (.ref e15) (.ref e19) = some false) (w_s_Shared_Full : PySem.W.subIn K (.ref e15) (.ref e20) = some false) (w_t_Shared_IndexError : PySem.W.subIn K (.ref e15) (.type "IndexError") = some false) (w_t_Shared_KeyError : PySem.W.subIn K (.ref e15) (.type "KeyError") = some false) (w_t_Shared_LookupError : PySem.W.subIn K (.ref e15) (.type "LookupError") = some false) (w_t_Shared_NotImplementedError : PySem.W.subIn K (.ref e15) (.type "NotImplementedError") = some false) (w_t_Shared_OverflowError : PySem.W.subIn K (.ref e15) (.type "OverflowError") = some false) (w_t_Shared_RuntimeError : PySem.W.subIn K (.ref e15) (.type "RuntimeError") = some true) (w_t_Shared_ValueError : PySem.W.subIn K (.ref e15) (.type "ValueError") = some false) (w_f_Shared_book : PySem.W.findIn K (.ref e15) "book" = some none) (w_nn_Tied : PySem.W.subIn K (.type "NoneType") (.ref e16) = some false) (w_s_Tied_Unlike : PySem.W.subIn K (.ref e16) (.ref e0) = some false) (w_s_Tied_BadText : PySem.W.subIn K (.ref e16) (.ref e1) = some false) (w_s_Tied_BadRow : PySem.W.subIn K (.ref e16) (.ref e2) = some false) (w_s_Tied_Own : PySem.W.subIn K (.ref e16) (.ref e3) = some false) (w_s_Tied_NoName : PySem.W.subIn K (.ref e16) (.ref e4) = some false) (w_s_Tied_NoBook : PySem.W.subIn K (.ref e16) (.ref e5) = some false) (w_s_Tied_NoTie : PySem.W.subIn K (.ref e16) (.ref e6) = some false) (w_s_Tied_NoPlace : PySem.W.subIn K (.ref e16) (.ref e7) = some false) (w_s_Tied_NoDeed : PySem.W.subIn K (.ref e16) (.ref e8) = some false) (w_s_Tied_MayNot : PySem.W.subIn K (.ref e16) (.ref e9) = some false) (w_s_Tied_Barred : PySem.W.subIn K (.ref e16) (.ref e10) = some false) (w_s_Tied_Lost : PySem.W.subIn K (.ref e16) (.ref e11) = some false) (w_s_Tied_Gap : PySem.W.subIn K (.ref e16) (.ref e12) = some false) (w_s_Tied_Apart : PySem.W.subIn K (.ref e16) (.ref e13) = some false) (w_s_Tied_Stopped : PySem.W.subIn K (.ref e16) (.ref e14) = some false) (w_s_Tied_Shared : PySem.W.subIn K (.ref e16) (.ref e15) = some false) (w_s_Tied_Tied : PySem.W.subIn K (.ref e16) (.ref e16) = some true) (w_s_Tied_Taken : PySem.W.subIn K (.ref e16) (.ref e17) = some false) (w_s_Tied_Last : PySem.W.subIn K (.ref e16) (.ref e18) = some false) (w_s_Tied_TooMany : PySem.W.subIn K (.ref e16) (.ref e19) = some false) (w_s_Tied_Full : PySem.W.subIn K (.ref e16) (.ref e20) = some false) (w_t_Tied_IndexError : PySem.W.subIn K (.ref e16) (.type "IndexError") = some false) (w_t_Tied_KeyError : PySem.W.subIn K (.ref e16) (.type "KeyError") = some false) (w_t_Tied_LookupError : PySem.W.subIn K (.ref e16) (.type "LookupError") = some false) (w_t_Tied_NotImplementedError : PySem.W.subIn K (.ref e16) (.type "NotImplementedError") = some false) (w_t_Tied_OverflowError : PySem.W.subIn K (.ref e16) (.type "OverflowError") = some false) (w_t_Tied_RuntimeError : PySem.W.subIn K (.ref e16) (.type "RuntimeError") = some true) (w_t_Tied_ValueError : PySem.W.subIn K (.ref e16) (.type "ValueError") = some false) (w_f_Tied_pair : PySem.W.findIn K (.ref e16) "pair" = some none) (w_nn_Taken : PySem.W.subIn K (.type "NoneType") (.ref e17) = some false) (w_s_Taken_Unlike : PySem.W.subIn K (.ref e17) (.ref e0) = some false) (w_s_Taken_BadText : PySem.W.subIn K (.ref e17) (.ref e1) = some false) (w_s_Taken_BadRow : PySem.W.subIn K (.ref e17) (.ref e2) = some false) (w_s_Taken_Own : PySem.W.subIn K (.ref e17) (.ref e3) = some false) (w_s_Taken_NoName : PySem.W.subIn K (.ref e17) (.ref e4) = some false) (w_s_Taken_NoBook : PySem.W.subIn K (.ref e17) (.ref e5) = some false) (w_s_Taken_NoTie : PySem.W.subIn K (.ref e17) (.ref e6) = some false) (w_s_Taken_NoPlace : PySem.W.subIn K (.ref e17) (.ref e7) = some false) (w_s_Taken_NoDeed : PySem.W.subIn K (.ref e17) (.ref e8) = some false) (w_s_Taken_MayNot : PySem.W.subIn K (.ref e17) (.ref e9) = some false) (w_s_Taken_Barred : PySem.W.subIn K (.ref e17) (.ref e10) = some false) (w_s_Taken_Lost : PySem.W.subIn K (.ref e17) (.ref e11) = some false) (w_s_Taken_Gap : PySem.W.subIn K (.ref e17) (.ref e12) = some false) (w_s_Taken_Apart : PySem.W.subIn K (.ref e17) (.ref e13) = some false) (w_s_Taken_Stopped : PySem.W.subIn K (.ref e17) (.ref e14) = some false) (w_s_Taken_Shared : PySem.W.subIn K (.ref e17) (.ref e15) = some false) (w_s_Taken_Tied : PySem.W.subIn K (.ref e17) (.ref e16) = some false) (w_s_Taken_Taken : PySem.W.subIn K (.ref e17) (.ref e17) = some true) (w_s_Taken_Last : PySem.W.subIn K (.ref e17) (.ref e18) = some false) (w_s_Taken_TooMany : PySem.W.subIn K (.ref e17) (.ref e19) = some false) (w_s_Taken_Full : PySem.W.subIn K (.ref e17) (.ref e20) = some false) (w_t_Taken_IndexError : PySem.W.subIn K (.ref e17) (.type "IndexError") = some false) (w_t_Taken_KeyError : PySem.W.subIn K (.ref e17) (.type "KeyError") = some false) (w_t_Taken_LookupError : PySem.W.subIn K (.ref e17) (.type "LookupError") = some false) (w_t_Taken_NotImplementedError : PySem.W.subIn K (.ref e17) (.type "NotImplementedError") = some false) (w_t_Taken_OverflowError : PySem.W.subIn K (.ref e17) (.type "OverflowError") = some false) (w_t_Taken_RuntimeError : PySem.W.subIn K (.ref e17) (.type "RuntimeError") = some true) (w_t_Taken_ValueError : PySem.W.subIn K (.ref e17) (.type "ValueError") = some false) (w_f_Taken_book : PySem.W.findIn K (.ref e17) "book" = some none) (w_nn_Last : PySem.W.subIn K (.type "NoneType") (.ref e18) = some false) (w_s_Last_Unlike : PySem.W.subIn K (.ref e18) (.ref e0) = some false) (w_s_Last_BadText : PySem.W.subIn K (.ref e18) (.ref e1) = some false) (w_s_Last_BadRow : PySem.W.subIn K (.ref e18) (.ref e2) = some false) (w_s_Last_Own : PySem.W.subIn K (.ref e18) (.ref e3) = some false) (w_s_Last_NoName : PySem.W.subIn K (.ref e18) (.ref e4) = some false) (w_s_Last_NoBook : PySem.W.subIn K (.ref e18) (.ref e5) = some false) (w_s_Last_NoTie : PySem.W.subIn K (.ref e18) (.ref e6) = some false) (w_s_Last_NoPlace : PySem.W.subIn K (.ref e18) (.ref e7) = some false) (w_s_Last_NoDeed : PySem.W.subIn K (.ref e18) (.ref e8) = some false) (w_s_Last_MayNot : PySem.W.subIn K (.ref e18) (.ref e9) = some false) (w_s_Last_Barred : PySem.W.subIn K (.ref e18) (.ref e10) = some false) (w_s_Last_Lost : PySem.W.subIn K (.ref e18) (.ref e11) = some false) (w_s_Last_Gap : PySem.W.subIn K (.ref e18) (.ref e12) = some false) (w_s_Last_Apart : PySem.W.subIn K (.ref e18) (.ref e13) = some false) (w_s_Last_Stopped : PySem.W.subIn K (.ref e18) (.ref e14) = some false) (w_s_Last_Shared : PySem.W.subIn K (.ref e18) (.ref e15) = some false) (w_s_Last_Tied : PySem.W.subIn K (.ref e18) (.ref e16) = some false) (w_s_Last_Taken : PySem.W.subIn K (.ref e18) (.ref e17) = some false) (w_s_Last_Last : PySem.W.subIn K (.ref e18) (.ref e18) = some true) (w_s_Last_TooMany : PySem.W.subIn K (.ref e18) (.ref e19) = some false) (w_s_Last_Full : PySem.W.subIn K (.ref e18) (.ref e20) = some false) (w_t_Last_IndexError : PySem.W.subIn K (.ref e18) (.type "IndexError") = some false) (w_t_Last_KeyError : PySem.W.subIn K (.ref e18) (.type "KeyError") = some false) (w_t_Last_LookupError : PySem.W.subIn K (.ref e18) (.type "LookupError") = some false) (w_t_Last_NotImplementedError : PySem.W.subIn K (.ref e18) (.type "NotImplementedError") = some false) (w_t_Last_OverflowError : PySem.W.subIn K (.ref e18) (.type "OverflowError") = some false) (w_t_Last_RuntimeError : PySem.W.subIn K (.ref e18) (.type "RuntimeError") = some true) (w_t_Last_ValueError : PySem.W.subIn K (.ref e18) (.type "ValueError") = some false) (w_nn_TooMany : PySem.W.subIn K (.type "NoneType") (.ref e19) = some false) (w_s_TooMany_Unlike : PySem.W.subIn K (.ref e19) (.ref e0) = some false) (w_s_TooMany_BadText : PySem.W.subIn K (.ref e19) (.ref e1) = some false) (w_s_TooMany_BadRow : PySem.W.subIn K (.ref e19) (.ref e2) = some false) (w_s_TooMany_Own : PySem.W.subIn K (.ref e19) (.ref e3) = some false) (w_s_TooMany_NoName : PySem.W.subIn K (.ref e19) (.ref e4) = some false) (w_s_TooMany_NoBook : PySem.W.subIn K (.ref e19) (.ref e5) = some false) (w_s_TooMany_NoTie : PySem.W.subIn K (.ref e19) (.ref e6) = some false) (w_s_TooMany_NoPlace : PySem.W.subIn K (.ref e19) (.ref e7) = some false) (w_s_TooMany_NoDeed : PySem.W.subIn K (.ref e19) (.ref e8) = some false) (w_s_TooMany_MayNot : PySem.W.subIn K (.ref e19) (.ref e9) = some false) (w_s_TooMany_Barred : PySem.W.subIn K (.ref e19) (.ref e10) = some false) (w_s_TooMany_Lost : PySem.W.subIn K (.ref e19) (.ref e11) = some false) (w_s_TooMany_Gap : PySem.W.subIn K (.ref e19) (.ref e12) = some false) (w_s_TooMany_Apart : PySem.W.subIn K (.ref e19) (.ref e13) = some false) (w_s_TooMany_Stopped : PySem.W.subIn K (.ref e19) (.ref e14) = some false) (w_s_TooMany_Shared : PySem.W.subIn K (.ref e19) (.ref e15) = some false) (w_s_TooMany_Tied : PySem.W.subIn K (.ref e19) (.ref e16) = some false) (w_s_TooMany_Taken : PySem.W.subIn K (.ref e19) (.ref e17) = some false) (w_s_TooMany_Last : PySem.W.subIn K (.ref e19) (.ref e18) = some false) (w_s_TooMany_TooMany : PySem.W.subIn K (.ref e19) (.ref e19) = some true) (w_s_TooMany_Full : PySem.W.subIn K (.ref e19) (.ref e20) = some false) (w_t_TooMany_IndexError : PySem.W.subIn K (.ref e19) (.type "IndexError") = some false) (w_t_TooMany_KeyError : PySem.W.subIn K (.ref e19) (.type "KeyError") = some false) (w_t_TooMany_LookupError : PySem.W.subIn K (.ref e19) (.type "LookupError") = some false) (w_t_TooMany_NotImplementedError : PySem.W.subIn K (.ref e19) (.type "NotImplementedError") = some false) (w_t_TooMany_OverflowError : PySem.W.subIn K (.ref e19) (.type "OverflowError") = some true) (w_t_TooMany_RuntimeError : PySem.W.subIn K (.ref e19) (.type "RuntimeError") = some false) (w_t_TooMany_ValueError : PySem.W.subIn K (.ref e19) (.type "ValueError") = some false) (w_f_TooMany_many : PySem.W.findIn K (.ref e19) "many" = some none) (w_nn_Full : PySem.W.subIn K (.type "NoneType") (.ref e20) = some false) (w_s_Full_Unlike : PySem.W.subIn K (.ref e20) (.ref e0) = some false) (w_s_Full_BadText : PySem.W.subIn K (.ref e20) (.ref e1) = some false) (w_s_Full_BadRow : PySem.W.subIn K (.ref e20) (.ref e2) = some false) (w_s_Full_Own : PySem.W.subIn K (.ref e20) (.ref e3) = some false) (w_s_Full_NoName : PySem.W.subIn K (.ref e20) (.ref e4) = some false) (w_s_Full_NoBook : PySem.W.subIn K (.ref e20) (.ref e5) = some false) (w_s_Full_NoTie : PySem.W.subIn K (.ref e20) (.ref e6) = some false) (w_s_Full_NoPlace : PySem.W.subIn K (.ref e20) (.ref e7) = some false) (w_s_Full_NoDeed : PySem.W.subIn K (.ref e20) (.ref e8) = some false) (w_s_Full_MayNot : PySem.W.subIn K (.ref e20) (.ref e9) = some false) (w_s_Full_Barred : PySem.W.subIn K (.ref e20) (.ref e10) = some false) (w_s_Full_Lost : PySem.W.subIn K (.ref e20) (.ref e11) = some false) (w_s_Full_Gap : PySem.W.subIn K (.ref e20) (.ref e12) = some false) (w_s_Full_Apart : PySem.W.subIn K (.ref e20) (.ref e13) = some false) (w_s_Full_Stopped : PySem.W.subIn K (.ref e20) (.ref e14) = some false) (w_s_Full_Shared : PySem.W.subIn K (.ref e20) (.ref e15) = some false) (w_s_Full_Tied : PySem.W.subIn K (.ref e20) (.ref e16) = some false) (w_s_Full_Taken : PySem.W.subIn K (.ref e20) (.ref e17) = some false) (w_s_Full_Last : PySem.W.subIn K (.ref e20) (.ref e18) = some false) (w_s_Full_TooMany : PySem.W.subIn K (.ref e20) (.ref e19) = some false) (w_s_Full_Full : PySem.W.subIn K (.ref e20) (.ref e20) = some true) (w_t_Full_IndexError : PySem.W.subIn K (.ref e20) (.type "IndexError") = some false) (w_t_Full_KeyError : PySem.W.subIn K (.ref e20) (.type "KeyError") = some false) (w_t_Full_LookupError : PySem.W.subIn K (.ref e20) (.type "LookupError") = some false) (w_t_Full_NotImplementedError : PySem.W.subIn K (.ref e20) (.type "NotImplementedError") = some false) (w_t_Full_OverflowError : PySem.W.subIn K (.ref e20) (.type "OverflowError") = some true) (w_t_Full_RuntimeError : PySem.W.subIn K (.ref e20) (.type "RuntimeError") = some false) (w_t_Full_ValueError : PySem.W.subIn K (.ref e20) (.type "ValueError") = some false) (w_f_Full_many : PySem.W.findIn K (.ref e20) "many" = some none) (w_nt_IndexError : PySem.W.subIn K (.type "NoneType") (.type "IndexError") = some false) (w_nt_KeyError : PySem.W.subIn K (.type "NoneType") (.type "KeyError") = some false) (w_nt_LookupError : PySem.W.subIn K (.type "NoneType") (.type "LookupError") = some false) (w_nt_NotImplementedError : PySem.W.subIn K (.type "NoneType") (.type "NotImplementedError") = some false) (w_nt_OverflowError : PySem.W.subIn K (.type "NoneType") (.type "OverflowError") = some false) (w_nt_RuntimeError : PySem.W.subIn K (.type "NoneType") (.type "RuntimeError") = some false) (w_nt_ValueError : PySem.W.subIn K (.type "NoneType") (.type "ValueError") = some false)
  (z0 : PySem.W.nsIn K mainGlobals "len" = some none) (z1 : PySem.W.nsIn K mainGlobals "abs" = some none) (z2 : PySem.W.nsIn K mainGlobals "int" = some none) (z3 : PySem.W.nsIn K mainGlobals "isinstance" = some none) (z4 : PySem.W.nsIn K mainGlobals "list" = some none) (z5 : PySem.W.nsIn K mainGlobals "tuple" = some none) (z6 : PySem.W.nsIn K mainGlobals "zip" = some none) (z7 : PySem.W.nsIn K mainGlobals "all" = some none) (z8 : PySem.W.nsIn K mainGlobals "bool" = some none) (z9 : PySem.W.nsIn K mainGlobals "str" = some none) (z10 : PySem.W.nsIn K mainGlobals "ValueError" = some none) (z11 : PySem.W.nsIn K mainGlobals "LookupError" = some none) (z12 : PySem.W.nsIn K mainGlobals "RuntimeError" = some none) (z13 : PySem.W.nsIn K mainGlobals "OverflowError" = some none) (z14 : PySem.W.nsIn K mainGlobals "IndexError" = some none) (z15 : PySem.W.nsIn K mainGlobals "KeyError" = some none) (z16 : PySem.W.nsIn K mainGlobals "NotImplementedError" = some none) {t0 : Tok} (y0 : PySem.W.nsIn K mainGlobals "MOST_GOINGS" = some (some (Value.int 8 t0))) {t1 : Tok} (y1 : PySem.W.nsIn K mainGlobals "MOST_LED" = some (some (Value.int 800 t1))) {t2 : Tok} (y2 : PySem.W.nsIn K mainGlobals "MOST_KNOT" = some (some (Value.int 6 t2))) {t3 : Tok} (y3 : PySem.W.nsIn K mainGlobals "MOST_RINGS" = some (some (Value.int 300 t3))) :
    ∃ fd : FuncData, (∀ (s : Shared) (v : Value), BindsTo s fd ⟨[v], []⟩ [("_law_script", v)]) ∧ ∀ base : Heap, K.In base → base.Ns mainGlobals mg → FnG l.prog w K mg base 8 fa fd ["_law_script"] (spF K g_law 1) := by
  have e := hfa.symm.trans (PySem.W.mg_of X G a8)
  cases e
  have zs : Zs mg := ⟨PySem.W.mg_none_of X G z0, PySem.W.mg_none_of X G z1, PySem.W.mg_none_of X G z2, PySem.W.mg_none_of X G z3, PySem.W.mg_none_of X G z4, PySem.W.mg_none_of X G z5, PySem.W.mg_none_of X G z6, PySem.W.mg_none_of X G z7, PySem.W.mg_none_of X G z8, PySem.W.mg_none_of X G z9, PySem.W.mg_none_of X G z10, PySem.W.mg_none_of X G z11, PySem.W.mg_none_of X G z12, PySem.W.mg_none_of X G z13, PySem.W.mg_none_of X G z14, PySem.W.mg_none_of X G z15, PySem.W.mg_none_of X G z16, gi_mk (PySem.W.mg_of X G y0), gi_mk (PySem.W.mg_of X G y1), gi_mk (PySem.W.mg_of X G y2), gi_mk (PySem.W.mg_of X G y3)⟩
  have S_box := std_mk (st := s_box) X G a0 l0 c0 k0
  have S_take := std_mk (st := s_take) X G a1 l1 c1 k1
  have S_pick := std_mk (st := s_pick) X G a2 l2 c2 k2
  have S_same := std_mk (st := s_same) X G a3 l3 c3 k3
  have S_all := std_mk (st := s_all) X G a4 l4 c4 k4
  have S_fields := std_mk (st := s_fields) X G a5 l5 c5 k5
  have S_kinds := std_mk (st := s_kinds) X G a6 l6 c6 k6
  have S_bases := std_mk (st := s_bases) X G a7 l7 c7 k7
  have xs : Xs K mg e0 e1 e2 e3 e4 e5 e6 e7 e8 e9 e10 e11 e12 e13 e14 e15 e16 e17 e18 e19 e20 := { cl_Unlike := ⟨n0_, PySem.W.mg_of X G n0_, (OwnX.data0 cx0), ty0, ex0, ga0, gg0, cl0, hd0, mo0, sp_, tk_⟩, cl_BadText := ⟨n1_, PySem.W.mg_of X G n1_, (OwnX.data0 cx1), ty1, ex1, ga1, gg1, cl1, hd1, mo1, sp_, tk_⟩, cl_BadRow := ⟨n2_, PySem.W.mg_of X G n2_, (OwnX.data0 cx2), ty2, ex2, ga2, gg2, cl2, hd2, mo2, sp_, tk_⟩, cl_Own := ⟨n3_, PySem.W.mg_of X G n3_, (OwnX.data0 cx3), ty3, ex3, ga3, gg3, cl3, hd3, mo3, sp_, tk_⟩, cl_NoName := ⟨n4_, PySem.W.mg_of X G n4_, (OwnX.data0 cx4), ty4, ex4, ga4, gg4, cl4, hd4, mo4, sp_, tk_⟩, cl_NoBook := ⟨n5_, PySem.W.mg_of X G n5_, (OwnX.data0 cx5), ty5, ex5, ga5, gg5, cl5, hd5, mo5, sp_, tk_⟩, cl_NoTie := ⟨n6_, PySem.W.mg_of X G n6_, (OwnX.data0 cx6), ty6, ex6, ga6, gg6, cl6, hd6, mo6, sp_, tk_⟩, cl_NoPlace := ⟨n7_, PySem.W.mg_of X G n7_, (OwnX.data0 cx7), ty7, ex7, ga7, gg7, cl7, hd7, mo7, sp_, tk_⟩, cl_NoDeed := ⟨n8_, PySem.W.mg_of X G n8_, (OwnX.data0 cx8), ty8, ex8, ga8, gg8, cl8, hd8, mo8, sp_, tk_⟩, cl_MayNot := ⟨n9_, PySem.W.mg_of X G n9_, (OwnX.data0 cx9), ty9, ex9, ga9, gg9, cl9, hd9, mo9, sp_, tk_⟩, cl_Barred := ⟨n10_, PySem.W.mg_of X G n10_, (OwnX.data0 cx10), ty10, ex10, ga10, gg10, cl10, hd10, mo10, sp_, tk_⟩, cl_Lost := ⟨n11_, PySem.W.mg_of X G n11_, (OwnX.data0 cx11), ty11, ex11, ga11, gg11, cl11, hd11, mo11, sp_, tk_⟩, cl_Gap := ⟨n12_, PySem.W.mg_of X G n12_, (OwnX.data0 cx12), ty12, ex12, ga12, gg12, cl12, hd12, mo12, sp_, tk_⟩, cl_Apart := ⟨n13_, PySem.W.mg_of X G n13_, (OwnX.data0 cx13), ty13, ex13, ga13, gg13, cl13, hd13, mo13, sp_, tk_⟩, cl_Stopped := ⟨n14_, PySem.W.mg_of X G n14_, (OwnX.data0 cx14), ty14, ex14, ga14, gg14, cl14, hd14, mo14, sp_, tk_⟩, cl_Shared := ⟨n15_, PySem.W.mg_of X G n15_, (OwnX.data0 cx15), ty15, ex15, ga15, gg15, cl15, hd15, mo15, sp_, tk_⟩, cl_Tied := ⟨n16_, PySem.W.mg_of X G n16_, (OwnX.data0 cx16), ty16, ex16, ga16, gg16, cl16, hd16, mo16, sp_, tk_⟩, cl_Taken := ⟨n17_, PySem.W.mg_of X G n17_, (OwnX.data0 cx17), ty17, ex17, ga17, gg17, cl17, hd17, mo17, sp_, tk_⟩, cl_Last := ⟨n18_, PySem.W.mg_of X G n18_, (OwnX.data0 cx18), ty18, ex18, ga18, gg18, cl18, hd18, mo18, sp_, tk_⟩, cl_TooMany := ⟨n19_, PySem.W.mg_of X G n19_, (OwnX.data0 cx19), ty19, ex19, ga19, gg19, cl19, hd19, mo19, sp_, tk_⟩, cl_Full := ⟨n20_, PySem.W.mg_of X G n20_, (OwnX.data0 cx20), ty20, ex20, ga20, gg20, cl20, hd20, mo20, sp_, tk_⟩, nn_Unlike := w_nn_Unlike, s_Unlike_Unlike := w_s_Unlike_Unlike, s_Unlike_BadText := w_s_Unlike_BadText, s_Unlike_BadRow := w_s_Unlike_BadRow, s_Unlike_Own := w_s_Unlike_Own, s_Unlike_NoName := w_s_Unlike_NoName, s_Unlike_NoBook := w_s_Unlike_NoBook, s_Unlike_NoTie := w_s_Unlike_NoTie, s_Unlike_NoPlace := w_s_Unlike_NoPlace, s_Unlike_NoDeed := w_s_Unlike_NoDeed, s_Unlike_MayNot := w_s_Unlike_MayNot, s_Unlike_Barred := w_s_Unlike_Barred, s_Unlike_Lost := w_s_Unlike_Lost, s_Unlike_Gap := w_s_Unlike_Gap, s_Unlike_Apart := w_s_Unlike_Apart, s_Unlike_Stopped := w_s_Unlike_Stopped, s_Unlike_Shared := w_s_Unlike_Shared, s_Unlike_Tied := w_s_Unlike_Tied, s_Unlike_Taken := w_s_Unlike_Taken, s_Unlike_Last := w_s_Unlike_Last, s_Unlike_TooMany := w_s_Unlike_TooMany, s_Unlike_Full := w_s_Unlike_Full, t_Unlike_IndexError := w_t_Unlike_IndexError, t_Unlike_KeyError := w_t_Unlike_KeyError, t_Unlike_LookupError := w_t_Unlike_LookupError, t_Unlike_NotImplementedError := w_t_Unlike_NotImplementedError, t_Unlike_OverflowError := w_t_Unlike_OverflowError, t_Unlike_RuntimeError := w_t_Unlike_RuntimeError, t_Unlike_ValueError := w_t_Unlike_ValueError, nn_BadText := w_nn_BadText, s_BadText_Unlike := w_s_BadText_Unlike, s_BadText_BadText := w_s_BadText_BadText, s_BadText_BadRow := w_s_BadText_BadRow, s_BadText_Own := w_s_BadText_Own, s_BadText_NoName := w_s_BadText_NoName, s_BadText_NoBook := w_s_BadText_NoBook, s_BadText_NoTie := w_s_BadText_NoTie, s_BadText_NoPlace := w_s_BadText_NoPlace, s_BadText_NoDeed := w_s_BadText_NoDeed, s_BadText_MayNot := w_s_BadText_MayNot, s_BadText_Barred := w_s_BadText_Barred, s_BadText_Lost := w_s_BadText_Lost, s_BadText_Gap := w_s_BadText_Gap, s_BadText_Apart := w_s_BadText_Apart, s_BadText_Stopped := w_s_BadText_Stopped, s_BadText_Shared := w_s_BadText_Shared, s_BadText_Tied := w_s_BadText_Tied, s_BadText_Taken := w_s_BadText_Taken, s_BadText_Last := w_s_BadText_Last, s_BadText_TooMany := w_s_BadText_TooMany, s_BadText_Full := w_s_BadText_Full, t_BadText_IndexError := w_t_BadText_IndexError, t_BadText_KeyError := w_t_BadText_KeyError, t_BadText_LookupError := w_t_BadText_LookupError, t_BadText_NotImplementedError := w_t_BadText_NotImplementedError, t_BadText_OverflowError := w_t_BadText_OverflowError, t_BadText_RuntimeError := w_t_BadText_RuntimeError, t_BadText_ValueError := w_t_BadText_ValueError, f_BadText_text := w_f_BadText_text, nn_BadRow := w_nn_BadRow, s_BadRow_Unlike := w_s_BadRow_Unlike, s_BadRow_BadText := w_s_BadRow_BadText, s_BadRow_BadRow := w_s_BadRow_BadRow, s_BadRow_Own := w_s_BadRow_Own, s_BadRow_NoName := w_s_BadRow_NoName, s_BadRow_NoBook := w_s_BadRow_NoBook, s_BadRow_NoTie := w_s_BadRow_NoTie, s_BadRow_NoPlace := w_s_BadRow_NoPlace, s_BadRow_NoDeed := w_s_BadRow_NoDeed, s_BadRow_MayNot := w_s_BadRow_MayNot, s_BadRow_Barred := w_s_BadRow_Barred, s_BadRow_Lost := w_s_BadRow_Lost, s_BadRow_Gap := w_s_BadRow_Gap, s_BadRow_Apart := w_s_BadRow_Apart, s_BadRow_Stopped := w_s_BadRow_Stopped, s_BadRow_Shared := w_s_BadRow_Shared, s_BadRow_Tied := w_s_BadRow_Tied, s_BadRow_Taken := w_s_BadRow_Taken, s_BadRow_Last := w_s_BadRow_Last, s_BadRow_TooMany := w_s_BadRow_TooMany, s_BadRow_Full := w_s_BadRow_Full, t_BadRow_IndexError := w_t_BadRow_IndexError, t_BadRow_KeyError := w_t_BadRow_KeyError, t_BadRow_LookupError := w_t_BadRow_LookupError, t_BadRow_NotImplementedError := w_t_BadRow_NotImplementedError, t_BadRow_OverflowError := w_t_BadRow_OverflowError, t_BadRow_RuntimeError := w_t_BadRow_RuntimeError, t_BadRow_ValueError := w_t_BadRow_ValueError, f_BadRow_number := w_f_BadRow_number, nn_Own := w_nn_Own, s_Own_Unlike := w_s_Own_Unlike, s_Own_BadText := w_s_Own_BadText, s_Own_BadRow := w_s_Own_BadRow, s_Own_Own := w_s_Own_Own, s_Own_NoName := w_s_Own_NoName, s_Own_NoBook := w_s_Own_NoBook, s_Own_NoTie := w_s_Own_NoTie, s_Own_NoPlace := w_s_Own_NoPlace, s_Own_NoDeed := w_s_Own_NoDeed, s_Own_MayNot := w_s_Own_MayNot, s_Own_Barred := w_s_Own_Barred, s_Own_Lost := w_s_Own_Lost, s_Own_Gap := w_s_Own_Gap, s_Own_Apart := w_s_Own_Apart, s_Own_Stopped := w_s_Own_Stopped, s_Own_Shared := w_s_Own_Shared, s_Own_Tied := w_s_Own_Tied, s_Own_Taken := w_s_Own_Taken, s_Own_Last := w_s_Own_Last, s_Own_TooMany := w_s_Own_TooMany, s_Own_Full := w_s_Own_Full, t_Own_IndexError := w_t_Own_IndexError, t_Own_KeyError := w_t_Own_KeyError, t_Own_LookupError := w_t_Own_LookupError, t_Own_NotImplementedError := w_t_Own_NotImplementedError, t_Own_OverflowError := w_t_Own_OverflowError, t_Own_RuntimeError := w_t_Own_RuntimeError, t_Own_ValueError := w_t_Own_ValueError, f_Own_book := w_f_Own_book, nn_NoName := w_nn_NoName, s_NoName_Unlike := w_s_NoName_Unlike, s_NoName_BadText := w_s_NoName_BadText, s_NoName_BadRow := w_s_NoName_BadRow, s_NoName_Own := w_s_NoName_Own, s_NoName_NoName := w_s_NoName_NoName, s_NoName_NoBook := w_s_NoName_NoBook, s_NoName_NoTie := w_s_NoName_NoTie, s_NoName_NoPlace := w_s_NoName_NoPlace, s_NoName_NoDeed := w_s_NoName_NoDeed, s_NoName_MayNot := w_s_NoName_MayNot, s_NoName_Barred := w_s_NoName_Barred, s_NoName_Lost := w_s_NoName_Lost, s_NoName_Gap := w_s_NoName_Gap, s_NoName_Apart := w_s_NoName_Apart, s_NoName_Stopped := w_s_NoName_Stopped, s_NoName_Shared := w_s_NoName_Shared, s_NoName_Tied := w_s_NoName_Tied, s_NoName_Taken := w_s_NoName_Taken, s_NoName_Last := w_s_NoName_Last, s_NoName_TooMany := w_s_NoName_TooMany, s_NoName_Full := w_s_NoName_Full, t_NoName_IndexError := w_t_NoName_IndexError, t_NoName_KeyError := w_t_NoName_KeyError, t_NoName_LookupError := w_t_NoName_LookupError, t_NoName_NotImplementedError := w_t_NoName_NotImplementedError, t_NoName_OverflowError := w_t_NoName_OverflowError, t_NoName_RuntimeError := w_t_NoName_RuntimeError, t_NoName_ValueError := w_t_NoName_ValueError, f_NoName_book := w_f_NoName_book, nn_NoBook := w_nn_NoBook, s_NoBook_Unlike := w_s_NoBook_Unlike, s_NoBook_BadText := w_s_NoBook_BadText, s_NoBook_BadRow := w_s_NoBook_BadRow, s_NoBook_Own := w_s_NoBook_Own, s_NoBook_NoName := w_s_NoBook_NoName, s_NoBook_NoBook := w_s_NoBook_NoBook, s_NoBook_NoTie := w_s_NoBook_NoTie, s_NoBook_NoPlace := w_s_NoBook_NoPlace, s_NoBook_NoDeed := w_s_NoBook_NoDeed, s_NoBook_MayNot := w_s_NoBook_MayNot, s_NoBook_Barred := w_s_NoBook_Barred, s_NoBook_Lost := w_s_NoBook_Lost, s_NoBook_Gap := w_s_NoBook_Gap, s_NoBook_Apart := w_s_NoBook_Apart, s_NoBook_Stopped := w_s_NoBook_Stopped, s_NoBook_Shared := w_s_NoBook_Shared, s_NoBook_Tied := w_s_NoBook_Tied, s_NoBook_Taken := w_s_NoBook_Taken, s_NoBook_Last := w_s_NoBook_Last, s_NoBook_TooMany := w_s_NoBook_TooMany, s_NoBook_Full := w_s_NoBook_Full, t_NoBook_IndexError := w_t_NoBook_IndexError, t_NoBook_KeyError := w_t_NoBook_KeyError, t_NoBook_LookupError := w_t_NoBook_LookupError, t_NoBook_NotImplementedError := w_t_NoBook_NotImplementedError, t_NoBook_OverflowError := w_t_NoBook_OverflowError, t_NoBook_RuntimeError := w_t_NoBook_RuntimeError, t_NoBook_ValueError := w_t_NoBook_ValueError, f_NoBook_book := w_f_NoBook_book, nn_NoTie := w_nn_NoTie, s_NoTie_Unlike := w_s_NoTie_Unlike, s_NoTie_BadText := w_s_NoTie_BadText, s_NoTie_BadRow := w_s_NoTie_BadRow, s_NoTie_Own := w_s_NoTie_Own, s_NoTie_NoName := w_s_NoTie_NoName, s_NoTie_NoBook := w_s_NoTie_NoBook, s_NoTie_NoTie := w_s_NoTie_NoTie, s_NoTie_NoPlace := w_s_NoTie_NoPlace, s_NoTie_NoDeed := w_s_NoTie_NoDeed, s_NoTie_MayNot := w_s_NoTie_MayNot, s_NoTie_Barred := w_s_NoTie_Barred, s_NoTie_Lost := w_s_NoTie_Lost, s_NoTie_Gap := w_s_NoTie_Gap, s_NoTie_Apart := w_s_NoTie_Apart, s_NoTie_Stopped := w_s_NoTie_Stopped, s_NoTie_Shared := w_s_NoTie_Shared, s_NoTie_Tied := w_s_NoTie_Tied, s_NoTie_Taken := w_s_NoTie_Taken, s_NoTie_Last := w_s_NoTie_Last, s_NoTie_TooMany := w_s_NoTie_TooMany, s_NoTie_Full := w_s_NoTie_Full, t_NoTie_IndexError := w_t_NoTie_IndexError, t_NoTie_KeyError := w_t_NoTie_KeyError, t_NoTie_LookupError := w_t_NoTie_LookupError, t_NoTie_NotImplementedError := w_t_NoTie_NotImplementedError, t_NoTie_OverflowError := w_t_NoTie_OverflowError, t_NoTie_RuntimeError := w_t_NoTie_RuntimeError, t_NoTie_ValueError := w_t_NoTie_ValueError, f_NoTie_pair := w_f_NoTie_pair, nn_NoPlace := w_nn_NoPlace, s_NoPlace_Unlike := w_s_NoPlace_Unlike, s_NoPlace_BadText := w_s_NoPlace_BadText, s_NoPlace_BadRow := w_s_NoPlace_BadRow, s_NoPlace_Own := w_s_NoPlace_Own, s_NoPlace_NoName := w_s_NoPlace_NoName, s_NoPlace_NoBook := w_s_NoPlace_NoBook, s_NoPlace_NoTie := w_s_NoPlace_NoTie, s_NoPlace_NoPlace := w_s_NoPlace_NoPlace, s_NoPlace_NoDeed := w_s_NoPlace_NoDeed, s_NoPlace_MayNot := w_s_NoPlace_MayNot, s_NoPlace_Barred := w_s_NoPlace_Barred, s_NoPlace_Lost := w_s_NoPlace_Lost, s_NoPlace_Gap := w_s_NoPlace_Gap, s_NoPlace_Apart := w_s_NoPlace_Apart, s_NoPlace_Stopped := w_s_NoPlace_Stopped, s_NoPlace_Shared := w_s_NoPlace_Shared, s_NoPlace_Tied := w_s_NoPlace_Tied, s_NoPlace_Taken := w_s_NoPlace_Taken, s_NoPlace_Last := w_s_NoPlace_Last, s_NoPlace_TooMany := w_s_NoPlace_TooMany, s_NoPlace_Full := w_s_NoPlace_Full, t_NoPlace_IndexError := w_t_NoPlace_IndexError, t_NoPlace_KeyError := w_t_NoPlace_KeyError, t_NoPlace_LookupError := w_t_NoPlace_LookupError, t_NoPlace_NotImplementedError := w_t_NoPlace_NotImplementedError, t_NoPlace_OverflowError := w_t_NoPlace_OverflowError, t_NoPlace_RuntimeError := w_t_NoPlace_RuntimeError, t_NoPlace_ValueError := w_t_NoPlace_ValueError, f_NoPlace_at := w_f_NoPlace_at, nn_NoDeed := w_nn_NoDeed, s_NoDeed_Unlike := w_s_NoDeed_Unlike, s_NoDeed_BadText := w_s_NoDeed_BadText, s_NoDeed_BadRow := w_s_NoDeed_BadRow, s_NoDeed_Own := w_s_NoDeed_Own, s_NoDeed_NoName := w_s_NoDeed_NoName, s_NoDeed_NoBook := w_s_NoDeed_NoBook, s_NoDeed_NoTie := w_s_NoDeed_NoTie, s_NoDeed_NoPlace := w_s_NoDeed_NoPlace, s_NoDeed_NoDeed := w_s_NoDeed_NoDeed, s_NoDeed_MayNot := w_s_NoDeed_MayNot, s_NoDeed_Barred := w_s_NoDeed_Barred, s_NoDeed_Lost := w_s_NoDeed_Lost, s_NoDeed_Gap := w_s_NoDeed_Gap, s_NoDeed_Apart := w_s_NoDeed_Apart, s_NoDeed_Stopped := w_s_NoDeed_Stopped, s_NoDeed_Shared := w_s_NoDeed_Shared, s_NoDeed_Tied := w_s_NoDeed_Tied, s_NoDeed_Taken := w_s_NoDeed_Taken, s_NoDeed_Last := w_s_NoDeed_Last, s_NoDeed_TooMany := w_s_NoDeed_TooMany, s_NoDeed_Full := w_s_NoDeed_Full, t_NoDeed_IndexError := w_t_NoDeed_IndexError, t_NoDeed_KeyError := w_t_NoDeed_KeyError, t_NoDeed_LookupError := w_t_NoDeed_LookupError, t_NoDeed_NotImplementedError := w_t_NoDeed_NotImplementedError, t_NoDeed_OverflowError := w_t_NoDeed_OverflowError, t_NoDeed_RuntimeError := w_t_NoDeed_RuntimeError, t_NoDeed_ValueError := w_t_NoDeed_ValueError, f_NoDeed_many := w_f_NoDeed_many, nn_MayNot := w_nn_MayNot, s_MayNot_Unlike := w_s_MayNot_Unlike, s_MayNot_BadText := w_s_MayNot_BadText, s_MayNot_BadRow := w_s_MayNot_BadRow, s_MayNot_Own := w_s_MayNot_Own, s_MayNot_NoName := w_s_MayNot_NoName, s_MayNot_NoBook := w_s_MayNot_NoBook, s_MayNot_NoTie := w_s_MayNot_NoTie, s_MayNot_NoPlace := w_s_MayNot_NoPlace, s_MayNot_NoDeed := w_s_MayNot_NoDeed, s_MayNot_MayNot := w_s_MayNot_MayNot, s_MayNot_Barred := w_s_MayNot_Barred, s_MayNot_Lost := w_s_MayNot_Lost, s_MayNot_Gap := w_s_MayNot_Gap, s_MayNot_Apart := w_s_MayNot_Apart, s_MayNot_Stopped := w_s_MayNot_Stopped, s_MayNot_Shared := w_s_MayNot_Shared, s_MayNot_Tied := w_s_MayNot_Tied, s_MayNot_Taken := w_s_MayNot_Taken, s_MayNot_Last := w_s_MayNot_Last, s_MayNot_TooMany := w_s_MayNot_TooMany, s_MayNot_Full := w_s_MayNot_Full, t_MayNot_IndexError := w_t_MayNot_IndexError, t_MayNot_KeyError := w_t_MayNot_KeyError, t_MayNot_LookupError := w_t_MayNot_LookupError, t_MayNot_NotImplementedError := w_t_MayNot_NotImplementedError, t_MayNot_OverflowError := w_t_MayNot_OverflowError, t_MayNot_RuntimeError := w_t_MayNot_RuntimeError, t_MayNot_ValueError := w_t_MayNot_ValueError, f_MayNot_book := w_f_MayNot_book, nn_Barred := w_nn_Barred, s_Barred_Unlike := w_s_Barred_Unlike, s_Barred_BadText := w_s_Barred_BadText, s_Barred_BadRow := w_s_Barred_BadRow, s_Barred_Own := w_s_Barred_Own, s_Barred_NoName := w_s_Barred_NoName, s_Barred_NoBook := w_s_Barred_NoBook, s_Barred_NoTie := w_s_Barred_NoTie, s_Barred_NoPlace := w_s_Barred_NoPlace, s_Barred_NoDeed := w_s_Barred_NoDeed, s_Barred_MayNot := w_s_Barred_MayNot, s_Barred_Barred := w_s_Barred_Barred, s_Barred_Lost := w_s_Barred_Lost, s_Barred_Gap := w_s_Barred_Gap, s_Barred_Apart := w_s_Barred_Apart, s_Barred_Stopped := w_s_Barred_Stopped, s_Barred_Shared := w_s_Barred_Shared, s_Barred_Tied := w_s_Barred_Tied, s_Barred_Taken := w_s_Barred_Taken, s_Barred_Last := w_s_Barred_Last, s_Barred_TooMany := w_s_Barred_TooMany, s_Barred_Full := w_s_Barred_Full, t_Barred_IndexError := w_t_Barred_IndexError, t_Barred_KeyError := w_t_Barred_KeyError, t_Barred_LookupError := w_t_Barred_LookupError, t_Barred_NotImplementedError := w_t_Barred_NotImplementedError, t_Barred_OverflowError := w_t_Barred_OverflowError, t_Barred_RuntimeError := w_t_Barred_RuntimeError, t_Barred_ValueError := w_t_Barred_ValueError, f_Barred_ring := w_f_Barred_ring, nn_Lost := w_nn_Lost, s_Lost_Unlike := w_s_Lost_Unlike, s_Lost_BadText := w_s_Lost_BadText, s_Lost_BadRow := w_s_Lost_BadRow, s_Lost_Own := w_s_Lost_Own, s_Lost_NoName := w_s_Lost_NoName, s_Lost_NoBook := w_s_Lost_NoBook, s_Lost_NoTie := w_s_Lost_NoTie, s_Lost_NoPlace := w_s_Lost_NoPlace, s_Lost_NoDeed := w_s_Lost_NoDeed, s_Lost_MayNot := w_s_Lost_MayNot, s_Lost_Barred := w_s_Lost_Barred, s_Lost_Lost := w_s_Lost_Lost, s_Lost_Gap := w_s_Lost_Gap, s_Lost_Apart := w_s_Lost_Apart, s_Lost_Stopped := w_s_Lost_Stopped, s_Lost_Shared := w_s_Lost_Shared, s_Lost_Tied := w_s_Lost_Tied, s_Lost_Taken := w_s_Lost_Taken, s_Lost_Last := w_s_Lost_Last, s_Lost_TooMany := w_s_Lost_TooMany, s_Lost_Full := w_s_Lost_Full, t_Lost_IndexError := w_t_Lost_IndexError, t_Lost_KeyError := w_t_Lost_KeyError, t_Lost_LookupError := w_t_Lost_LookupError, t_Lost_NotImplementedError := w_t_Lost_NotImplementedError, t_Lost_OverflowError := w_t_Lost_OverflowError, t_Lost_RuntimeError := w_t_Lost_RuntimeError, t_Lost_ValueError := w_t_Lost_ValueError, f_Lost_place := w_f_Lost_place, nn_Gap := w_nn_Gap, s_Gap_Unlike := w_s_Gap_Unlike, s_Gap_BadText := w_s_Gap_BadText, s_Gap_BadRow := w_s_Gap_BadRow, s_Gap_Own := w_s_Gap_Own, s_Gap_NoName := w_s_Gap_NoName, s_Gap_NoBook := w_s_Gap_NoBook, s_Gap_NoTie := w_s_Gap_NoTie, s_Gap_NoPlace := w_s_Gap_NoPlace, s_Gap_NoDeed := w_s_Gap_NoDeed, s_Gap_MayNot := w_s_Gap_MayNot, s_Gap_Barred := w_s_Gap_Barred, s_Gap_Lost := w_s_Gap_Lost, s_Gap_Gap := w_s_Gap_Gap, s_Gap_Apart := w_s_Gap_Apart, s_Gap_Stopped := w_s_Gap_Stopped, s_Gap_Shared := w_s_Gap_Shared, s_Gap_Tied := w_s_Gap_Tied, s_Gap_Taken := w_s_Gap_Taken, s_Gap_Last := w_s_Gap_Last, s_Gap_TooMany := w_s_Gap_TooMany, s_Gap_Full := w_s_Gap_Full, t_Gap_IndexError := w_t_Gap_IndexError, t_Gap_KeyError := w_t_Gap_KeyError, t_Gap_LookupError := w_t_Gap_LookupError, t_Gap_NotImplementedError := w_t_Gap_NotImplementedError, t_Gap_OverflowError := w_t_Gap_OverflowError, t_Gap_RuntimeError := w_t_Gap_RuntimeError, t_Gap_ValueError := w_t_Gap_ValueError, f_Gap_place := w_f_Gap_place, f_Gap_ring := w_f_Gap_ring, nn_Apart := w_nn_Apart, s_Apart_Unlike := w_s_Apart_Unlike, s_Apart_BadText := w_s_Apart_BadText, s_Apart_BadRow := w_s_Apart_BadRow, s_Apart_Own := w_s_Apart_Own, s_Apart_NoName := w_s_Apart_NoName, s_Apart_NoBook := w_s_Apart_NoBook, s_Apart_NoTie := w_s_Apart_NoTie, s_Apart_NoPlace := w_s_Apart_NoPlace, s_Apart_NoDeed := w_s_Apart_NoDeed, s_Apart_MayNot := w_s_Apart_MayNot, s_Apart_Barred := w_s_Apart_Barred, s_Apart_Lost := w_s_Apart_Lost, s_Apart_Gap := w_s_Apart_Gap, s_Apart_Apart := w_s_Apart_Apart, s_Apart_Stopped := w_s_Apart_Stopped, s_Apart_Shared := w_s_Apart_Shared, s_Apart_Tied := w_s_Apart_Tied, s_Apart_Taken := w_s_Apart_Taken, s_Apart_Last := w_s_Apart_Last, s_Apart_TooMany := w_s_Apart_TooMany, s_Apart_Full := w_s_Apart_Full, t_Apart_IndexError := w_t_Apart_IndexError, t_Apart_KeyError := w_t_Apart_KeyError, t_Apart_LookupError := w_t_Apart_LookupError, t_Apart_NotImplementedError := w_t_Apart_NotImplementedError, t_Apart_OverflowError := w_t_Apart_OverflowError, t_Apart_RuntimeError := w_t_Apart_RuntimeError, t_Apart_ValueError := w_t_Apart_ValueError, f_Apart_one := w_f_Apart_one, f_Apart_other := w_f_Apart_other, nn_Stopped := w_nn_Stopped, s_Stopped_Unlike := w_s_Stopped_Unlike, s_Stopped_BadText := w_s_Stopped_BadText, s_Stopped_BadRow := w_s_Stopped_BadRow, s_Stopped_Own := w_s_Stopped_Own, s_Stopped_NoName := w_s_Stopped_NoName, s_Stopped_NoBook := w_s_Stopped_NoBook, s_Stopped_NoTie := w_s_Stopped_NoTie, s_Stopped_NoPlace := w_s_Stopped_NoPlace, s_Stopped_NoDeed := w_s_Stopped_NoDeed, s_Stopped_MayNot := w_s_Stopped_MayNot, s_Stopped_Barred := w_s_Stopped_Barred, s_Stopped_Lost := w_s_Stopped_Lost, s_Stopped_Gap := w_s_Stopped_Gap, s_Stopped_Apart := w_s_Stopped_Apart, s_Stopped_Stopped := w_s_Stopped_Stopped, s_Stopped_Shared := w_s_Stopped_Shared, s_Stopped_Tied := w_s_Stopped_Tied, s_Stopped_Taken := w_s_Stopped_Taken, s_Stopped_Last := w_s_Stopped_Last, s_Stopped_TooMany := w_s_Stopped_TooMany, s_Stopped_Full := w_s_Stopped_Full, t_Stopped_IndexError := w_t_Stopped_IndexError, t_Stopped_KeyError := w_t_Stopped_KeyError, t_Stopped_LookupError := w_t_Stopped_LookupError, t_Stopped_NotImplementedError := w_t_Stopped_NotImplementedError, t_Stopped_OverflowError := w_t_Stopped_OverflowError, t_Stopped_RuntimeError := w_t_Stopped_RuntimeError, t_Stopped_ValueError := w_t_Stopped_ValueError, f_Stopped_number := w_f_Stopped_number, nn_Shared := w_nn_Shared, s_Shared_Unlike := w_s_Shared_Unlike, s_Shared_BadText := w_s_Shared_BadText, s_Shared_BadRow := w_s_Shared_BadRow, s_Shared_Own := w_s_Shared_Own, s_Shared_NoName := w_s_Shared_NoName, s_Shared_NoBook := w_s_Shared_NoBook, s_Shared_NoTie := w_s_Shared_NoTie, s_Shared_NoPlace := w_s_Shared_NoPlace, s_Shared_NoDeed := w_s_Shared_NoDeed, s_Shared_MayNot := w_s_Shared_MayNot, s_Shared_Barred := w_s_Shared_Barred, s_Shared_Lost := w_s_Shared_Lost, s_Shared_Gap := w_s_Shared_Gap, s_Shared_Apart := w_s_Shared_Apart, s_Shared_Stopped := w_s_Shared_Stopped, s_Shared_Shared := w_s_Shared_Shared, s_Shared_Tied := w_s_Shared_Tied, s_Shared_Taken := w_s_Shared_Taken, s_Shared_Last := w_s_Shared_Last, s_Shared_TooMany := w_s_Shared_TooMany, s_Shared_Full := w_s_Shared_Full, t_Shared_IndexError := w_t_Shared_IndexError, t_Shared_KeyError := w_t_Shared_KeyError, t_Shared_LookupError := w_t_Shared_LookupError, t_Shared_NotImplementedError := w_t_Shared_NotImplementedError, t_Shared_OverflowError := w_t_Shared_OverflowError, t_Shared_RuntimeError := w_t_Shared_RuntimeError, t_Shared_ValueError := w_t_Shared_ValueError, f_Shared_book := w_f_Shared_book, nn_Tied := w_nn_Tied, s_Tied_Unlike := w_s_Tied_Unlike, s_Tied_BadText := w_s_Tied_BadText, s_Tied_BadRow := w_s_Tied_BadRow, s_Tied_Own := w_s_Tied_Own, s_Tied_NoName := w_s_Tied_NoName, s_Tied_NoBook := w_s_Tied_NoBook, s_Tied_NoTie := w_s_Tied_NoTie, s_Tied_NoPlace := w_s_Tied_NoPlace, s_Tied_NoDeed := w_s_Tied_NoDeed, s_Tied_MayNot := w_s_Tied_MayNot, s_Tied_Barred := w_s_Tied_Barred, s_Tied_Lost := w_s_Tied_Lost, s_Tied_Gap := w_s_Tied_Gap, s_Tied_Apart := w_s_Tied_Apart, s_Tied_Stopped := w_s_Tied_Stopped, s_Tied_Shared := w_s_Tied_Shared, s_Tied_Tied := w_s_Tied_Tied, s_Tied_Taken := w_s_Tied_Taken, s_Tied_Last := w_s_Tied_Last, s_Tied_TooMany := w_s_Tied_TooMany, s_Tied_Full := w_s_Tied_Full, t_Tied_IndexError := w_t_Tied_IndexError, t_Tied_KeyError := w_t_Tied_KeyError, t_Tied_LookupError := w_t_Tied_LookupError, t_Tied_NotImplementedError := w_t_Tied_NotImplementedError, t_Tied_OverflowError := w_t_Tied_OverflowError, t_Tied_RuntimeError := w_t_Tied_RuntimeError, t_Tied_ValueError := w_t_Tied_ValueError, f_Tied_pair := w_f_Tied_pair, nn_Taken := w_nn_Taken, s_Taken_Unlike := w_s_Taken_Unlike, s_Taken_BadText := w_s_Taken_BadText, s_Taken_BadRow := w_s_Taken_BadRow, s_Taken_Own := w_s_Taken_Own, s_Taken_NoName := w_s_Taken_NoName, s_Taken_NoBook := w_s_Taken_NoBook, s_Taken_NoTie := w_s_Taken_NoTie, s_Taken_NoPlace := w_s_Taken_NoPlace, s_Taken_NoDeed := w_s_Taken_NoDeed, s_Taken_MayNot := w_s_Taken_MayNot, s_Taken_Barred := w_s_Taken_Barred, s_Taken_Lost := w_s_Taken_Lost, s_Taken_Gap := w_s_Taken_Gap, s_Taken_Apart := w_s_Taken_Apart, s_Taken_Stopped := w_s_Taken_Stopped, s_Taken_Shared := w_s_Taken_Shared, s_Taken_Tied := w_s_Taken_Tied, s_Taken_Taken := w_s_Taken_Taken, s_Taken_Last := w_s_Taken_Last, s_Taken_TooMany := w_s_Taken_TooMany, s_Taken_Full := w_s_Taken_Full, t_Taken_IndexError := w_t_Taken_IndexError, t_Taken_KeyError := w_t_Taken_KeyError, t_Taken_LookupError := w_t_Taken_LookupError, t_Taken_NotImplementedError := w_t_Taken_NotImplementedError, t_Taken_OverflowError := w_t_Taken_OverflowError, t_Taken_RuntimeError := w_t_Taken_RuntimeError, t_Taken_ValueError := w_t_Taken_ValueError, f_Taken_book := w_f_Taken_book, nn_Last := w_nn_Last, s_Last_Unlike := w_s_Last_Unlike, s_Last_BadText := w_s_Last_BadText, s_Last_BadRow := w_s_Last_BadRow, s_Last_Own := w_s_Last_Own, s_Last_NoName := w_s_Last_NoName, s_Last_NoBook := w_s_Last_NoBook, s_Last_NoTie := w_s_Last_NoTie, s_Last_NoPlace := w_s_Last_NoPlace, s_Last_NoDeed := w_s_Last_NoDeed, s_Last_MayNot := w_s_Last_MayNot, s_Last_Barred := w_s_Last_Barred, s_Last_Lost := w_s_Last_Lost, s_Last_Gap := w_s_Last_Gap, s_Last_Apart := w_s_Last_Apart, s_Last_Stopped := w_s_Last_Stopped, s_Last_Shared := w_s_Last_Shared, s_Last_Tied := w_s_Last_Tied, s_Last_Taken := w_s_Last_Taken, s_Last_Last := w_s_Last_Last, s_Last_TooMany := w_s_Last_TooMany, s_Last_Full := w_s_Last_Full, t_Last_IndexError := w_t_Last_IndexError, t_Last_KeyError := w_t_Last_KeyError, t_Last_LookupError := w_t_Last_LookupError, t_Last_NotImplementedError := w_t_Last_NotImplementedError, t_Last_OverflowError := w_t_Last_OverflowError, t_Last_RuntimeError := w_t_Last_RuntimeError, t_Last_ValueError := w_t_Last_ValueError, nn_TooMany := w_nn_TooMany, s_TooMany_Unlike := w_s_TooMany_Unlike, s_TooMany_BadText := w_s_TooMany_BadText, s_TooMany_BadRow := w_s_TooMany_BadRow, s_TooMany_Own := w_s_TooMany_Own, s_TooMany_NoName := w_s_TooMany_NoName, s_TooMany_NoBook := w_s_TooMany_NoBook, s_TooMany_NoTie := w_s_TooMany_NoTie, s_TooMany_NoPlace := w_s_TooMany_NoPlace, s_TooMany_NoDeed := w_s_TooMany_NoDeed, s_TooMany_MayNot := w_s_TooMany_MayNot, s_TooMany_Barred := w_s_TooMany_Barred, s_TooMany_Lost := w_s_TooMany_Lost, s_TooMany_Gap := w_s_TooMany_Gap, s_TooMany_Apart := w_s_TooMany_Apart, s_TooMany_Stopped := w_s_TooMany_Stopped, s_TooMany_Shared := w_s_TooMany_Shared, s_TooMany_Tied := w_s_TooMany_Tied, s_TooMany_Taken := w_s_TooMany_Taken, s_TooMany_Last := w_s_TooMany_Last, s_TooMany_TooMany := w_s_TooMany_TooMany, s_TooMany_Full := w_s_TooMany_Full, t_TooMany_IndexError := w_t_TooMany_IndexError, t_TooMany_KeyError := w_t_TooMany_KeyError, t_TooMany_LookupError := w_t_TooMany_LookupError, t_TooMany_NotImplementedError := w_t_TooMany_NotImplementedError, t_TooMany_OverflowError := w_t_TooMany_OverflowError, t_TooMany_RuntimeError := w_t_TooMany_RuntimeError, t_TooMany_ValueError := w_t_TooMany_ValueError, f_TooMany_many := w_f_TooMany_many, nn_Full := w_nn_Full, s_Full_Unlike := w_s_Full_Unlike, s_Full_BadText := w_s_Full_BadText, s_Full_BadRow := w_s_Full_BadRow, s_Full_Own := w_s_Full_Own, s_Full_NoName := w_s_Full_NoName, s_Full_NoBook := w_s_Full_NoBook, s_Full_NoTie := w_s_Full_NoTie, s_Full_NoPlace := w_s_Full_NoPlace, s_Full_NoDeed := w_s_Full_NoDeed, s_Full_MayNot := w_s_Full_MayNot, s_Full_Barred := w_s_Full_Barred, s_Full_Lost := w_s_Full_Lost, s_Full_Gap := w_s_Full_Gap, s_Full_Apart := w_s_Full_Apart, s_Full_Stopped := w_s_Full_Stopped, s_Full_Shared := w_s_Full_Shared, s_Full_Tied := w_s_Full_Tied, s_Full_Taken := w_s_Full_Taken, s_Full_Last := w_s_Full_Last, s_Full_TooMany := w_s_Full_TooMany, s_Full_Full := w_s_Full_Full, t_Full_IndexError := w_t_Full_IndexError, t_Full_KeyError := w_t_Full_KeyError, t_Full_LookupError := w_t_Full_LookupError, t_Full_NotImplementedError := w_t_Full_NotImplementedError, t_Full_OverflowError := w_t_Full_OverflowError, t_Full_RuntimeError := w_t_Full_RuntimeError, t_Full_ValueError := w_t_Full_ValueError, f_Full_many := w_f_Full_many, nt_IndexError := w_nt_IndexError, nt_KeyError := w_nt_KeyError, nt_LookupError := w_nt_LookupError, nt_NotImplementedError := w_nt_NotImplementedError, nt_OverflowError := w_nt_OverflowError, nt_RuntimeError := w_nt_RuntimeError, nt_ValueError := w_nt_ValueError }
  refine ⟨PySem.W.fnOf "law" "law" (defArgs s_law) (defBody s_law) (defScope s_law) .none kV8 dc8 pm8 an8 cd8 ct8, fun s v => .of_eq rfl, fun base _ _ => ?_⟩
  · have k_Unlike : XCls0 l.prog w K mg base "Unlike" := xcls0_mk n0_ (PySem.W.mg_of X G n0_) exB_Value.fa ei0 kp0 ex0 ty0
    have kK_BadText := okcK_BadText (P := l.prog) (w := w) (base := base) zs n1_ (PySem.W.mg_of X G n1_) ⟨exB_Value, ⟨_, _, _, _, _, _, _, _, _, _, _, _, _, _, cx1⟩, sa1, ex1, ty1, kp1⟩ ic1 ti1 li1 ci1 vv1 tk1_text
    have k_BadText := okc_BadText (P := l.prog) (w := w) (base := base) zs n1_ (PySem.W.mg_of X G n1_) ⟨exB_Value, ⟨_, _, _, _, _, _, _, _, _, _, _, _, _, _, cx1⟩, sa1, ex1, ty1, kp1⟩ ic1 ti1 li1 ci1 vv1 tk1_text
    have kK_BadRow := okcK_BadRow (P := l.prog) (w := w) (base := base) zs n2_ (PySem.W.mg_of X G n2_) ⟨exB_Value, ⟨_, _, _, _, _, _, _, _, _, _, _, _, _, _, cx2⟩, sa2, ex2, ty2, kp2⟩ ic2 ti2 li2 ci2 vv2 tk2_number
    have k_BadRow := okc_BadRow (P := l.prog) (w := w) (base := base) zs n2_ (PySem.W.mg_of X G n2_) ⟨exB_Value, ⟨_, _, _, _, _, _, _, _, _, _, _, _, _, _, cx2⟩, sa2, ex2, ty2, kp2⟩ ic2 ti2 li2 ci2 vv2 tk2_number
    have kK_Own := okcK_Own (P := l.prog) (w := w) (base := base) zs n3_ (PySem.W.mg_of X G n3_) ⟨exB_Value, ⟨_, _, _, _, _, _, _, _, _, _, _, _, _, _, cx3⟩, sa3, ex3, ty3, kp3⟩ ic3 ti3 li3 ci3 vv3 tk3_book
    have k_Own := okc_Own (P := l.prog) (w := w) (base := base) zs n3_ (PySem.W.mg_of X G n3_) ⟨exB_Value, ⟨_, _, _, _, _, _, _, _, _, _, _, _, _, _, cx3⟩, sa3, ex3, ty3, kp3⟩ ic3 ti3 li3 ci3 vv3 tk3_book
    have kK_NoName := okcK_NoName (P := l.prog) (w := w) (base := base) zs n4_ (PySem.W.mg_of X G n4_) ⟨exB_Value, ⟨_, _, _, _, _, _, _, _, _, _, _, _, _, _, cx4⟩, sa4, ex4, ty4, kp4⟩ ic4 ti4 li4 ci4 vv4 tk4_book
    have k_NoName := okc_NoName (P := l.prog) (w := w) (base := base) zs n4_ (PySem.W.mg_of X G n4_) ⟨exB_Value, ⟨_, _, _, _, _, _, _, _, _, _, _, _, _, _, cx4⟩, sa4, ex4, ty4, kp4⟩ ic4 ti4 li4 ci4 vv4 tk4_book
    have kK_NoBook := okcK_NoBook (P := l.prog) (w := w) (base := base) zs n5_ (PySem.W.mg_of X G n5_) ⟨exB_Lookup, ⟨_, _, _, _, _, _, _, _, _, _, _, _, _, _, cx5⟩, sa5, ex5, ty5, kp5⟩ ic5 ti5 li5 ci5 vv5 tk5_book
    have k_NoBook := okc_NoBook (P := l.prog) (w := w) (base := base) zs n5_ (PySem.W.mg_of X G n5_) ⟨exB_Lookup, ⟨_, _, _, _, _, _, _, _, _, _, _, _, _, _, cx5⟩, sa5, ex5, ty5, kp5⟩ ic5 ti5 li5 ci5 vv5 tk5_book
    have kK_NoTie := okcK_NoTie (P := l.prog) (w := w) (base := base) zs n6_ (PySem.W.mg_of X G n6_) ⟨exB_Lookup, ⟨_, _, _, _, _, _, _, _, _, _, _, _, _, _, cx6⟩, sa6, ex6, ty6, kp6⟩ ic6 ti6 li6 ci6 vv6 tk6_pair
    have k_NoTie := okc_NoTie (P := l.prog) (w := w) (base := base) zs n6_ (PySem.W.mg_of X G n6_) ⟨exB_Lookup, ⟨_, _, _, _, _, _, _, _, _, _, _, _, _, _, cx6⟩, sa6, ex6, ty6, kp6⟩ ic6 ti6 li6 ci6 vv6 tk6_pair
    have kK_NoPlace := okcK_NoPlace (P := l.prog) (w := w) (base := base) zs n7_ (PySem.W.mg_of X G n7_) ⟨exB_Lookup, ⟨_, _, _, _, _, _, _, _, _, _, _, _, _, _, cx7⟩, sa7, ex7, ty7, kp7⟩ ic7 ti7 li7 ci7 vv7 tk7_at
    have k_NoPlace := okc_NoPlace (P := l.prog) (w := w) (base := base) zs n7_ (PySem.W.mg_of X G n7_) ⟨exB_Lookup, ⟨_, _, _, _, _, _, _, _, _, _, _, _, _, _, cx7⟩, sa7, ex7, ty7, kp7⟩ ic7 ti7 li7 ci7 vv7 tk7_at
    have kK_NoDeed := okcK_NoDeed (P := l.prog) (w := w) (base := base) zs n8_ (PySem.W.mg_of X G n8_) ⟨exB_Lookup, ⟨_, _, _, _, _, _, _, _, _, _, _, _, _, _, cx8⟩, sa8, ex8, ty8, kp8⟩ ic8 ti8 li8 ci8 vv8 tk8_many
    have k_NoDeed := okc_NoDeed (P := l.prog) (w := w) (base := base) zs n8_ (PySem.W.mg_of X G n8_) ⟨exB_Lookup, ⟨_, _, _, _, _, _, _, _, _, _, _, _, _, _, cx8⟩, sa8, ex8, ty8, kp8⟩ ic8 ti8 li8 ci8 vv8 tk8_many
    have kK_MayNot := okcK_MayNot (P := l.prog) (w := w) (base := base) zs n9_ (PySem.W.mg_of X G n9_) ⟨exB_Runtime, ⟨_, _, _, _, _, _, _, _, _, _, _, _, _, _, cx9⟩, sa9, ex9, ty9, kp9⟩ ic9 ti9 li9 ci9 vv9 tk9_book
    have k_MayNot := okc_MayNot (P := l.prog) (w := w) (base := base) zs n9_ (PySem.W.mg_of X G n9_) ⟨exB_Runtime, ⟨_, _, _, _, _, _, _, _, _, _, _, _, _, _, cx9⟩, sa9, ex9, ty9, kp9⟩ ic9 ti9 li9 ci9 vv9 tk9_book
    have kK_Barred := okcK_Barred (P := l.prog) (w := w) (base := base) zs n10_ (PySem.W.mg_of X G n10_) ⟨exB_Runtime, ⟨_, _, _, _, _, _, _, _, _, _, _, _, _, _, cx10⟩, sa10, ex10, ty10, kp10⟩ ic10 ti10 li10 ci10 vv10 tk10_ring
    have k_Barred := okc_Barred (P := l.prog) (w := w) (base := base) zs n10_ (PySem.W.mg_of X G n10_) ⟨exB_Runtime, ⟨_, _, _, _, _, _, _, _, _, _, _, _, _, _, cx10⟩, sa10, ex10, ty10, kp10⟩ ic10 ti10 li10 ci10 vv10 tk10_ring
    have kK_Lost := okcK_Lost (P := l.prog) (w := w) (base := base) zs n11_ (PySem.W.mg_of X G n11_) ⟨exB_Runtime, ⟨_, _, _, _, _, _, _, _, _, _, _, _, _, _, cx11⟩, sa11, ex11, ty11, kp11⟩ ic11 ti11 li11 ci11 vv11 tk11_place
    have k_Lost := okc_Lost (P := l.prog) (w := w) (base := base) zs n11_ (PySem.W.mg_of X G n11_) ⟨exB_Runtime, ⟨_, _, _, _, _, _, _, _, _, _, _, _, _, _, cx11⟩, sa11, ex11, ty11, kp11⟩ ic11 ti11 li11 ci11 vv11 tk11_place
    have kK_Gap := okcK_Gap (P := l.prog) (w := w) (base := base) zs n12_ (PySem.W.mg_of X G n12_) ⟨exB_Runtime, ⟨_, _, _, _, _, _, _, _, _, _, _, _, _, _, cx12⟩, sa12, ex12, ty12, kp12⟩ ic12 ti12 li12 ci12 vv12 tk12_place tk12_ring
    have k_Gap := okc_Gap (P := l.prog) (w := w) (base := base) zs n12_ (PySem.W.mg_of X G n12_) ⟨exB_Runtime, ⟨_, _, _, _, _, _, _, _, _, _, _, _, _, _, cx12⟩, sa12, ex12, ty12, kp12⟩ ic12 ti12 li12 ci12 vv12 tk12_place tk12_ring
    have kK_Apart := okcK_Apart (P := l.prog) (w := w) (base := base) zs n13_ (PySem.W.mg_of X G n13_) ⟨exB_Runtime, ⟨_, _, _, _, _, _, _, _, _, _, _, _, _, _, cx13⟩, sa13, ex13, ty13, kp13⟩ ic13 ti13 li13 ci13 vv13 tk13_one tk13_other
    have k_Apart := okc_Apart (P := l.prog) (w := w) (base := base) zs n13_ (PySem.W.mg_of X G n13_) ⟨exB_Runtime, ⟨_, _, _, _, _, _, _, _, _, _, _, _, _, _, cx13⟩, sa13, ex13, ty13, kp13⟩ ic13 ti13 li13 ci13 vv13 tk13_one tk13_other
    have kK_Stopped := okcK_Stopped (P := l.prog) (w := w) (base := base) zs n14_ (PySem.W.mg_of X G n14_) ⟨exB_Runtime, ⟨_, _, _, _, _, _, _, _, _, _, _, _, _, _, cx14⟩, sa14, ex14, ty14, kp14⟩ ic14 ti14 li14 ci14 vv14 tk14_number
    have k_Stopped := okc_Stopped (P := l.prog) (w := w) (base := base) zs n14_ (PySem.W.mg_of X G n14_) ⟨exB_Runtime, ⟨_, _, _, _, _, _, _, _, _, _, _, _, _, _, cx14⟩, sa14, ex14, ty14, kp14⟩ ic14 ti14 li14 ci14 vv14 tk14_number
    have kK_Shared := okcK_Shared (P := l.prog) (w := w) (base := base) zs n15_ (PySem.W.mg_of X G n15_) ⟨exB_Runtime, ⟨_, _, _, _, _, _, _, _, _, _, _, _, _, _, cx15⟩, sa15, ex15, ty15, kp15⟩ ic15 ti15 li15 ci15 vv15 tk15_book
    have k_Shared := okc_Shared (P := l.prog) (w := w) (base := base) zs n15_ (PySem.W.mg_of X G n15_) ⟨exB_Runtime, ⟨_, _, _, _, _, _, _, _, _, _, _, _, _, _, cx15⟩, sa15, ex15, ty15, kp15⟩ ic15 ti15 li15 ci15 vv15 tk15_book
    have kK_Tied := okcK_Tied (P := l.prog) (w := w) (base := base) zs n16_ (PySem.W.mg_of X G n16_) ⟨exB_Runtime, ⟨_, _, _, _, _, _, _, _, _, _, _, _, _, _, cx16⟩, sa16, ex16, ty16, kp16⟩ ic16 ti16 li16 ci16 vv16 tk16_pair
    have k_Tied := okc_Tied (P := l.prog) (w := w) (base := base) zs n16_ (PySem.W.mg_of X G n16_) ⟨exB_Runtime, ⟨_, _, _, _, _, _, _, _, _, _, _, _, _, _, cx16⟩, sa16, ex16, ty16, kp16⟩ ic16 ti16 li16 ci16 vv16 tk16_pair
    have kK_Taken := okcK_Taken (P := l.prog) (w := w) (base := base) zs n17_ (PySem.W.mg_of X G n17_) ⟨exB_Runtime, ⟨_, _, _, _, _, _, _, _, _, _, _, _, _, _, cx17⟩, sa17, ex17, ty17, kp17⟩ ic17 ti17 li17 ci17 vv17 tk17_book
    have k_Taken := okc_Taken (P := l.prog) (w := w) (base := base) zs n17_ (PySem.W.mg_of X G n17_) ⟨exB_Runtime, ⟨_, _, _, _, _, _, _, _, _, _, _, _, _, _, cx17⟩, sa17, ex17, ty17, kp17⟩ ic17 ti17 li17 ci17 vv17 tk17_book
    have k_Last : XCls0 l.prog w K mg base "Last" := xcls0_mk n18_ (PySem.W.mg_of X G n18_) exB_Runtime.fa ei18 kp18 ex18 ty18
    have kK_TooMany := okcK_TooMany (P := l.prog) (w := w) (base := base) zs n19_ (PySem.W.mg_of X G n19_) ⟨exB_Overflow, ⟨_, _, _, _, _, _, _, _, _, _, _, _, _, _, cx19⟩, sa19, ex19, ty19, kp19⟩ ic19 ti19 li19 ci19 vv19 tk19_many
    have k_TooMany := okc_TooMany (P := l.prog) (w := w) (base := base) zs n19_ (PySem.W.mg_of X G n19_) ⟨exB_Overflow, ⟨_, _, _, _, _, _, _, _, _, _, _, _, _, _, cx19⟩, sa19, ex19, ty19, kp19⟩ ic19 ti19 li19 ci19 vv19 tk19_many
    have kK_Full := okcK_Full (P := l.prog) (w := w) (base := base) zs n20_ (PySem.W.mg_of X G n20_) ⟨exB_Overflow, ⟨_, _, _, _, _, _, _, _, _, _, _, _, _, _, cx20⟩, sa20, ex20, ty20, kp20⟩ ic20 ti20 li20 ci20 vv20 tk20_many
    have k_Full := okc_Full (P := l.prog) (w := w) (base := base) zs n20_ (PySem.W.mg_of X G n20_) ⟨exB_Overflow, ⟨_, _, _, _, _, _, _, _, _, _, _, _, _, _, cx20⟩, sa20, ex20, ty20, kp20⟩ ic20 ti20 li20 ci20 vv20 tk20_many
    have c_box := ok_box (P := l.prog) (w := w) (base := base) zs S_box xs 
    have c_take := ok_take (P := l.prog) (w := w) (base := base) zs S_take xs 
    have c_pick := ok_pick (P := l.prog) (w := w) (base := base) zs S_pick xs c_take
    have c_same := ok_same (P := l.prog) (w := w) (base := base) zs S_same xs 
    have c_same := (c_same 6)
    have c_all := ok_all (P := l.prog) (w := w) (base := base) zs S_all xs  k_Unlike k_BadText kK_BadText k_BadRow kK_BadRow k_Own kK_Own k_NoName kK_NoName k_NoBook kK_NoBook k_NoTie kK_NoTie k_NoPlace kK_NoPlace k_NoDeed kK_NoDeed k_MayNot kK_MayNot k_Barred kK_Barred k_Lost kK_Lost k_Gap kK_Gap k_Apart kK_Apart k_Stopped kK_Stopped k_Shared kK_Shared k_Tied kK_Tied k_Taken kK_Taken k_Last k_TooMany kK_TooMany k_Full kK_Full
    have c_fields := ok_fields (P := l.prog) (w := w) (base := base) zs S_fields xs c_same
    have c_kinds := ok_kinds (P := l.prog) (w := w) (base := base) zs S_kinds xs 
    have c_bases := ok_bases (P := l.prog) (w := w) (base := base) zs S_bases xs 
    exact go_law zs l8 c8 xs c_box c_pick c_same c_all c_fields c_kinds c_bases
end K06
namespace HF
open PySem (Str PyData sizeLine)
def Bok (L : Nat) (b : Bx) (t : Nat) : Prop := b.length = L ∧ ∀ (n : Nat) (zs : List Int), b[n]? = some zs → ∃ a s c : Int, zs = [a, s, c] ∧ 0 ≤ a ∧ 0 ≤ s ∧ s < 4294967296 ∧ 0 ≤ c ∧ c ≤ t
def Wp {α : Type} (L : Nat) (m : M α) (t : Nat) (R : α → Nat → Prop) : Prop := ∀ b, Bok L b t → ∃ a b' t', m b = some (a, b') ∧ Bok L b' t' ∧ R a t'
section
variable {α β : Type} {L t u : Nat} {R : α → Nat → Prop}
theorem Bok.le {b : Bx} (h : Bok L b t) (hu : t ≤ u) : Bok L b u := ⟨h.1, fun (n : Nat) (zs : List Int) e => by
  obtain ⟨a, s, c, h1, h2, h3, h4, h5, h6⟩ := h.2 n zs e
  exact ⟨a, s, c, h1, h2, h3, h4, h5, by omega⟩⟩
theorem Wp.ret {a : α} (h : R a t) : Wp L (ret a) t R := fun b hb => ⟨a, b, t, rfl, hb, h⟩
theorem Wp.of {m : M α} {a : α} (e : m = HF.ret a) (h : R a t) : Wp L m t R := by subst e; exact .ret h
theorem Wp.lift {o : Option α} {a : α} (e : o = some a) (h : R a t) : Wp L (HF.lift o) t R := by subst e; exact fun b hb => ⟨a, b, t, rfl, hb, h⟩
theorem Wp.bnd {m : M α} {f : α → M β} {Q : β → Nat → Prop} (h : Wp L m t fun a t' => Wp L (f a) t' Q) : Wp L (HF.bnd m f) t Q := fun b hb => by
  obtain ⟨a, b1, t1, e1, hb1, h1⟩ := h b hb
  obtain ⟨c, b2, t2, e2, hb2, h2⟩ := h1 b1 hb1
  exact ⟨c, b2, t2, by unfold HF.bnd; rw [e1]; exact e2, hb2, h2⟩
theorem Wp.mono {m : M α} {Q : α → Nat → Prop} (h : Wp L m t R) (hq : ∀ a u, R a u → Q a u) : Wp L m t Q := fun b hb => by
  obtain ⟨a, b1, t1, e1, hb1, h1⟩ := h b hb
  exact ⟨a, b1, t1, e1, hb1, hq _ _ h1⟩
theorem Wp.le {m : M α} (h : Wp L m u R) (hu : t ≤ u) : Wp L m t R := fun b hb => h b (hb.le hu)
theorem bnd_ret {a : α} {f : α → M β} : bnd (HF.ret a) f = f a := rfl
end
def pTake : Fn := runFn 2
    (sSeq (sIf (e2 oGt (eIx (eI 0) (eC (.int 0))) (eC (.int 0)))
    (sSeq (sSet 2 (eSh (e2 oMod (eIx (eI 0) (eC (.int 0))) (eB 1))))
    (sSeq (sBSet 0 (eC (.int 0)) (e2 oFdiv (eIx (eI 0) (eC (.int 0))) (eB 1)))
    (sRetV 2)))
    sNx)
    (sSeq (sBSet 0 (eC (.int 2)) (e2 oAdd (eInn (eIx (eI 0) (eC (.int 2)))) (eC (.int 1))))
    (sSeq (sSet 3 (eSh (e2 oMod (e2 oPow (e2 oAdd (eInn (eIx (eI 0) (eC (.int 1)))) (eInn (e2 oMul (eC (.int 39373)) (eIx (eI 0) (eC (.int 2)))))) (eC (.int 5))) (eC (.int 2147483647)))))
    (sRet (e2 oMod (e2 oFdiv (e2 oMod (e2 oAdd (eInn (e2 oMul (eI 3) (e2 oAdd (eInn (e2 oMod (eB 3) (eC (.int 40009)))) (eC (.int 7))))) (eInn (e2 oMul (eInn (eIx (eI 0) (eC (.int 2)))) (eC (.int 7919))))) (eC (.int 2147483629))) (eC (.int 64))) (eB 1))))))
theorem Bok.set {L t u n : Nat} {b : Bx} {a s c : Int} (h : Bok L b t) (ha : 0 ≤ a) (hs : 0 ≤ s) (hs2 : s < 4294967296) (hc : 0 ≤ c) (hu : c ≤ u) (htu : t ≤ u) : Bok L (b.set n [a, s, c]) u := by
  refine ⟨by rw [List.length_set]; exact h.1, fun m zs e => ?_⟩
  rw [List.getElem?_set] at e
  split at e
  · split at e
    · cases e; exact ⟨a, s, c, rfl, ha, hs, hs2, hc, hu⟩
    · cases e
  · exact (h.le htu).2 m zs e
theorem oMod_pos {a b : Int} (h : 0 < b) : oMod (.int a) (.int b) = some (.int (a % b)) := by unfold oMod; exact if_pos h
theorem oFdiv_pos {a b : Int} (h : 0 < b) (h2 : b < 4611686018427387904) : oFdiv (.int a) (.int b) = some (.int (a / b)) := by unfold oFdiv; exact if_pos ⟨h, h2⟩
theorem oMul_l {a b : Int} (h : a.natAbs < 2 ^ 64) : oMul (.int a) (.int b) = some (.int (a * b)) := by unfold oMul; exact if_pos (.inl h)
theorem oMul_r {a b : Int} (h : b.natAbs < 2 ^ 64) : oMul (.int a) (.int b) = some (.int (a * b)) := by unfold oMul; exact if_pos (.inr h)
theorem oPow_ok {a b : Int} (h : 0 ≤ b) (h2 : b ≤ 1000000) (h3 : a.natAbs < 2 ^ 64) : oPow (.int a) (.int b) = some (.int (a ^ b.toNat)) := by unfold oPow; exact if_pos ⟨h, h2, h3⟩
theorem i30 : L2.ixN 3 0 = some 0 := rfl
theorem i32 : L2.ixN 3 2 = some 2 := rfl
theorem take_wpW {L n t : Nat} {bd : Int} {R : D → Nat → Prop} (hn : n < L) (h1 : 0 < bd) (h2 : bd < 4611686018427387904) (ht : t < 1099511627776) (h : ∀ x : Int, 0 ≤ x → x < bd → R (.int x) (t + 1)) : Wp L (pTake [.box n, .int bd]) t R := by
  intro b hb
  have hl : n < b.length := by rw [hb.1]; exact hn
  obtain ⟨a, s, c, e, ha, hs, hs2, hc, hct⟩ := hb.2 n b[n] (by simp [hl])
  have hg : b[n]? = some [a, s, c] := by rw [← e]; simp [hl]
  by_cases h0 : 0 < a
  · have e1 : eIx (eI 0) (eC (.int 0)) [.sh (.box n), .sh (.int bd), .no, .no] b = some (.int a, b) := by
      show (match b[n]? with | some zs => (match L2.atI zs 0 with | some z => some (D.int z, b) | none => none) | none => none) = _
      rw [hg]; rfl
    have e1' : eIx (eI 0) (eC (.int 0)) [.sh (.box n), .sh (.int bd), .sh (.int (a % bd)), .no] b = some (.int a, b) := by
      show (match b[n]? with | some zs => (match L2.atI zs 0 with | some z => some (D.int z, b) | none => none) | none => none) = _
      rw [hg]; rfl
    refine ⟨.int (a % bd), b.set n [a / bd, s, c], t + 1, ?_, hb.set (Int.ediv_nonneg ha (by omega)) hs hs2 hc (by omega) (by omega), h _ (Int.emod_nonneg _ (by omega)) (Int.emod_lt_of_pos _ h1)⟩
    simp [pTake, runFn, sSeq, sIf, sSet, sBSet, sRetV, bnd, ret, lift, e2, eSh, eC, eB, oGt, e1, e1', h0, oMod_pos h1, oFdiv_pos h1 h2, share, hg, i30]
  · have e1 : ∀ v w, eIx (eI 0) (eC (.int 0)) [.sh (.box n), .sh (.int bd), v, w] b = some (.int a, b) := fun v w => by
      show (match b[n]? with | some zs => (match L2.atI zs 0 with | some z => some (D.int z, b) | none => none) | none => none) = _
      rw [hg]; rfl
    have e2' : eIx (eI 0) (eC (.int 2)) [.sh (.box n), .sh (.int bd), .no, .no] b = some (.int c, b) := by
      show (match b[n]? with | some zs => (match L2.atI zs 2 with | some z => some (D.int z, b) | none => none) | none => none) = _
      rw [hg]; rfl
    have hg' : (b.set n [a, s, c + 1])[n]? = some [a, s, c + 1] := by simp [hl]
    have e3 : ∀ v w, eIx (eI 0) (eC (.int 2)) [.sh (.box n), .sh (.int bd), v, w] (b.set n [a, s, c + 1]) = some (.int (c + 1), b.set n [a, s, c + 1]) := fun v w => by
      show (match (b.set n [a, s, c + 1])[n]? with | some zs => (match L2.atI zs 2 with | some z => some (D.int z, b.set n [a, s, c + 1]) | none => none) | none => none) = _
      rw [hg']; rfl
    have e4 : ∀ v w, eIx (eI 0) (eC (.int 1)) [.sh (.box n), .sh (.int bd), v, w] (b.set n [a, s, c + 1]) = some (.int s, b.set n [a, s, c + 1]) := fun v w => by
      show (match (b.set n [a, s, c + 1])[n]? with | some zs => (match L2.atI zs 1 with | some z => some (D.int z, b.set n [a, s, c + 1]) | none => none) | none => none) = _
      rw [hg']; rfl
    have p2 := oPow_ok (a := s + 39373 * (c + 1)) (b := 5) (by decide) (by decide) (by omega)
    have p9 : ∀ x : Int, oMod (.int x) (.int bd) = some (.int (x % bd)) := fun x => oMod_pos h1
    have bY : ∀ y : Int, (y % 2147483647).natAbs < 2 ^ 64 := fun y => by omega
    have fin : ∀ Y : Int, oMod (.int ((Y % 2147483647 * (Y % 2147483647 % 40009 + 7) + (c + 1) * 7919) % 2147483629 / 64)) (.int bd) = some (.int ((Y % 2147483647 * (Y % 2147483647 % 40009 + 7) + (c + 1) * 7919) % 2147483629 / 64 % bd)) := fun Y => oMod_pos h1
    refine ⟨.int ((((s + 39373 * (c + 1)) ^ (5 : Int).toNat) % 2147483647 * (((s + 39373 * (c + 1)) ^ (5 : Int).toNat) % 2147483647 % 40009 + 7) + (c + 1) * 7919) % 2147483629 / 64 % bd), b.set n [a, s, c + 1], t + 1, ?_, hb.set ha hs hs2 (by omega) (by omega) (by omega), h _ (Int.emod_nonneg _ (by omega)) (Int.emod_lt_of_pos _ h1)⟩
    simp [pTake, runFn, sSeq, sIf, sSet, sBSet, sRet, sNx, bnd, ret, lift, e2, eSh, eInn, eC, eI, eB, oGt, e1, e2', e3, e4, h0, hg, i32, share, shareIn, oAdd, oMul_l, oMul_r, p2, oMod_pos, oFdiv_pos, p9, bY, fin]
theorem take_wp {L n t : Nat} {bd : Int} {R : D → Nat → Prop} (hn : n < L) (h1 : 0 < bd) (h2 : bd < 1073741824) (ht : t < 1099511627776) (h : ∀ x : Int, 0 ≤ x → x < bd → R (.int x) (t + 1)) : Wp L (pTake [.box n, .int bd]) t R := take_wpW hn h1 (by omega) ht h
end HF
namespace HF
open PySem (Str PyData sizeLine)
section
variable {L t u : Nat}
theorem sRet_wp {f : Ev} {r : Env} {R : Fl × Env → Nat → Prop} (h : Wp L (f r) t fun d u => R (.rt d, r) u) : Wp L (sRet f r) t R := .bnd (h.mono fun _ _ h => .ret h)
theorem runFn_wp {n : Nat} {S : Sv} {args : List D} {R : D → Nat → Prop} (h : Wp L (S (args.map Sl.sh ++ List.replicate n Sl.no)) t fun p u => ∃ d r, p = (.rt d, r) ∧ R d u) : Wp L (runFn n S args) t R := .bnd (h.mono fun p u ⟨d, r, e, h⟩ => by subst e; exact .ret h)
theorem eCall_wp {fn : Fn} {fs : List Ev} {r : Env} {R : D → Nat → Prop} (h : Wp L (evs fs r) t fun xs u => Wp L (fn xs) u R) : Wp L (eCall fn fs r) t R := .bnd h
theorem evs_nil_wp {r : Env} {R : List D → Nat → Prop} (h : R [] t) : Wp L (evs [] r) t R := .ret h
theorem evs_cons_wp {f : Ev} {fs : List Ev} {r : Env} {R : List D → Nat → Prop} (h : Wp L (f r) t fun d u => Wp L (evs fs r) u fun ds v => R (d :: ds) v) : Wp L (evs (f :: fs) r) t R := .bnd (h.mono fun d u h => .bnd (h.mono fun ds v h => .ret h))
theorem eSh_wp {f : Ev} {r : Env} {R : D → Nat → Prop} (h : Wp L (f r) t fun x u => R (share x) u) : Wp L (eSh f r) t R := .bnd (h.mono fun x u h => .ret h)
theorem eIx_wp {f g : Ev} {r : Env} {R : D → Nat → Prop} (h : Wp L (f r) t fun x u => Wp L (g r) u fun y v => (∀ n, x ≠ .box n) ∧ ∃ d, oIx x y = some d ∧ R d v) : Wp L (eIx f g r) t R := .bnd (h.mono fun x u h => .bnd (h.mono fun y v ⟨nb, d, e, hR⟩ => by
  clear h
  cases x <;> first | exact absurd rfl (nb _) | exact .lift e hR))
end
end HF
namespace HF
open PySem (Str PyData sizeLine)
section
variable {r r' : Env} {x y z d : D} {f g h c : Ev} {S T : Sv}
theorem q_seq {R : M (Fl × Env)} (e : S r = ret (.nx, r')) (e2 : T r' = R) : sSeq S T r = R := by unfold sSeq; rw [e, bnd_ret]; exact e2
theorem q_ift {R : M (Fl × Env)} (e : c r = ret (.bl true)) (e2 : S r = R) : sIf c S T r = R := by unfold sIf; rw [e, bnd_ret]; exact e2
theorem q_iff {R : M (Fl × Env)} (e : c r = ret (.bl false)) (e2 : T r = R) : sIf c S T r = R := by unfold sIf; rw [e, bnd_ret]; exact e2
theorem q_set {i : Nat} (e : f r = ret d) : sSet i f r = ret (.nx, r.set i (.sh d)) := by unfold sSet; rw [e, bnd_ret]
theorem q_2 {op : D → D → Option D} (e : f r = ret x) (e2 : g r = ret y) (e3 : op x y = some z) : HF.e2 op f g r = ret z := by unfold HF.e2; rw [e, bnd_ret, e2, bnd_ret, e3]; rfl
theorem q_sh (e : f r = ret d) : eSh f r = ret (share d) := by unfold eSh; rw [e, bnd_ret]
theorem q_ix (e : f r = ret x) (e2 : g r = ret y) (nb : ∀ n, x ≠ .box n) (e3 : oIx x y = some z) : eIx f g r = ret z := by
  unfold eIx
  rw [e, bnd_ret, e2, bnd_ret]
  cases x <;> first | exact absurd rfl (nb _) | (show lift (oIx _ y) = _; rw [e3]; rfl)
end
end HF
namespace HF
open PySem (Str PyData sizeLine)
theorem Wp.up {α : Type} {L t : Nat} {m : M α} {R : α → Nat → Prop} (h : Wp L m t fun a u => ∃ v, u ≤ v ∧ R a v) : Wp L m t R := fun b hb => by
  obtain ⟨a, b1, t1, e1, hb1, v, hv, h1⟩ := h b hb
  exact ⟨a, b1, v, e1, hb1.le hv, h1⟩
abbrev tx (l : List Nat) : Str := ⟨l.toArray⟩
def NameOk (x : Str) : Prop := ∃ l : List Nat, x = tx l ∧ l ≠ [] ∧ l.length ≤ 6 ∧ ∀ c ∈ l, 97 ≤ c ∧ c ≤ 122
theorem eqv_str (a b : Str) : eqvD (.str a) (.str b) = (a == b) := by
  show PyData.eqv (.str a) (.str b) = _
  unfold PyData.eqv
  rfl
section
variable {L n t : Nat}
theorem take_call {i : Nat} {f : Ev} {r : Env} {bd : Int} {R : D → Nat → Prop} (hb : eV i r = ret (.box n)) (hf : f r = ret (.int bd)) (hn : n < L) (h1 : 0 < bd) (h2 : bd < 1073741824) (ht : t < 1099511627776) (h : ∀ x : Int, 0 ≤ x → x < bd → R (.int x) (t + 1)) : Wp L (eCall pTake [eV i, f] r) t R :=
  eCall_wp (evs_cons_wp (.of hb (evs_cons_wp (.of hf (evs_nil_wp (take_wp hn h1 h2 ht h))))))
theorem shareL_strs (ys : List Str) : shareL (ys.map D.str) = ys.map D.str := by rw [shareL_eq, List.map_map]; rfl
end
end HF
namespace HF
open PySem (Str PyData sizeLine)
open PySem.PyData
theorem char_lt (c : Char) : c.toNat < 0x110000 := by
  have h := c.valid
  simp only [UInt32.isValidChar, Nat.isValidChar] at h
  have e : c.toNat = c.val.toNat := rfl
  omega
theorem strOk_lit (s : String) : strOk (PySem.Str.ofString s) = true := strOk_mk fun c hc => by
  have e : (PySem.Str.ofString s).cps.toList = s.toList.map Char.toNat := PySem.cpsOfBytes_string s
  rw [e] at hc
  obtain ⟨d, _, rfl⟩ := List.mem_map.mp hc
  exact char_lt d
theorem reprChar_lt (q c : Nat) (hc : c < 0x110000) : ∀ d ∈ PySem.Builtin.Str.reprChar q c, d < 0x110000 := by
  have hex : ∀ w, ∀ d ∈ List.replicate (w - ((Nat.toDigits 16 c).map Char.toNat).length) 48 ++ (Nat.toDigits 16 c).map Char.toNat, d < 0x110000 := fun w d hd => by
    rcases List.mem_append.mp hd with hd | hd
    · have := List.eq_of_mem_replicate hd; omega
    · obtain ⟨e, _, rfl⟩ := List.mem_map.mp hd
      exact char_lt e
  intro d hd
  unfold PySem.Builtin.Str.reprChar at hd
  dsimp only at hd
  repeat' split at hd
  all_goals first | (simp only [List.mem_cons, List.not_mem_nil, or_false] at hd; omega) | skip
  all_goals
    rcases List.mem_append.mp hd with hd | hd
    · simp only [List.mem_cons, List.not_mem_nil, or_false] at hd; omega
    · exact hex _ d hd
theorem strOk_repr {x : Str} (h : strOk x = true) : strOk (PySem.reprText x) = true := strOk_mk fun c hc => by
  have hq : PySem.reprQuote x < 0x110000 := by unfold PySem.reprQuote; split <;> omega
  have fold : ∀ (l : List Nat) (acc : Array Nat), (∀ c ∈ l, c < 0x110000) → (∀ c ∈ acc.toList, c < 0x110000) → ∀ c ∈ (l.foldl (fun out c => out ++ (PySem.Builtin.Str.reprChar (PySem.reprQuote x) c).toArray) acc).toList, c < 0x110000 := by
    intro l
    induction l with
    | nil => intro acc _ ha; exact ha
    | cons b l ih =>
      intro acc hl ha
      refine ih _ (fun c hc => hl c (List.mem_cons_of_mem _ hc)) fun c hc => ?_
      rw [Array.toList_append] at hc
      rcases List.mem_append.mp hc with hc | hc
      · exact ha c hc
      · exact reprChar_lt _ b (hl b List.mem_cons_self) c hc
  unfold PySem.reprText at hc
  rw [Array.toList_push, ← Array.foldl_toList] at hc
  rcases List.mem_append.mp hc with hc | hc
  · exact fold x.cps.toList _ (strOk_of h) (fun c hc => by rw [List.mem_singleton.mp hc]; exact hq) c hc
  · rw [List.mem_singleton.mp hc]; exact hq
theorem strOk_from : ∀ (ts : List Str) (k : Nat) (acc : Str), (∀ t ∈ ts, strOk t = true) → strOk acc = true → strOk (PySem.textFrom k acc ts) = true
  | [], _, _, _, h => h
  | t :: ts, k, acc, ht, h => strOk_from ts (k + 1) _ (fun u hu => ht u (List.mem_cons_of_mem _ hu)) (strOk_app (strOk_app h (strOk_lit _)) (ht t List.mem_cons_self))
mutual
theorem strOk_shown : ∀ d : PyData, d.canLay0 = true → strOk d.shown = true
  | .none, _ => by unfold shown; exact strOk_lit _
  | .bool b, _ => by unfold shown; cases b <;> exact strOk_lit _
  | .int i, _ => by unfold shown; exact strOk_lit _
  | .str x, h => by unfold shown; exact strOk_repr (by simpa [canLay0] using h)
  | .list xs, h => by
    unfold shown
    exact strOk_app (strOk_from _ _ _ (strOk_shownAll xs (by simpa [canLay0] using h)) (strOk_lit _)) (strOk_lit _)
  | .tuple xs, h => by
    unfold shown
    refine strOk_app (strOk_app (strOk_lit _) (strOk_join (strOk_lit _) (strOk_shownAll xs (by simpa [canLay0] using h)))) ?_
    split <;> exact strOk_lit _
  | .dict _, h => by simp [canLay0] at h
theorem strOk_shownAll : ∀ xs : List PyData, canLayAll0 xs = true → ∀ t ∈ shownAll xs, strOk t = true
  | [], _ => fun t ht => by unfold shownAll at ht; cases ht
  | x :: xs, h => fun t ht => by
    have h' : x.canLay0 = true ∧ canLayAll0 xs = true := by simpa [canLayAll0] using h
    unfold shownAll at ht
    rcases List.mem_cons.mp ht with rfl | ht
    · exact strOk_shown x h'.1
    · exact strOk_shownAll xs h'.2 t ht
end
abbrev Nms (ys : List Str) : Prop := ∀ y ∈ ys, NameOk y
theorem NameOk.strOk {y : Str} (h : NameOk y) : strOk y = true := by
  obtain ⟨l, rfl, _, _, hc⟩ := h
  exact strOk_mk fun c hc' => by
    have := hc c hc'
    omega
theorem NameOk.len {y : Str} (h : NameOk y) : y.length ≤ 6 := by
  obtain ⟨l, rfl, _, h6, _⟩ := h
  exact h6
end HF
namespace HF
open PySem (Str PyData sizeLine)
theorem eqv_int (a b : Int) : eqvD (.int a) (.int b) = (a == b) := by
  show PyData.eqv (.int a) (.int b) = _
  unfold PyData.eqv
  rfl
theorem oEq_int (a b : Int) : oEq (.int a) (.int b) = some (.bl (a == b)) := by
  show some (D.bl (eqvD (.int a) (.int b))) = _
  rw [eqv_int]
def boxEnd : Sv := sRet (eBox [(e2 oMul (eInn (eN (n1 oAbs) [(eB 2)])) (eN (n1 oInt) [(e2 oGe (eN (n1 oAbs) [(eB 2)]) (e2 oPow (eC (.int 10)) (eC (.int 18))))])), (e2 oAdd (eInn (e2 oAdd (eInn (e2 oMod (eB 2) (eC (.int 2147483629)))) (eInn (e2 oMul (eC (.int 6151)) (eB 1))))) (eC (.int 29))), (eC (.int 0))])
def pBox : Fn := runFn 1
    (sSeq (sSet 2 (eC (.int 0)))
    (sSeq (sIf (e2 oLt (eB 1) (eN (n1 oLen) [(eB 0)]))
    (sSet 2 (eSh (eIx (eI 0) (eB 1))))
    sNx)
    boxEnd))
theorem Bok.push {L t : Nat} {b : Bx} {a s : Int} (h : Bok L b t) (ha : 0 ≤ a) (hs : 0 ≤ s) (hs2 : s < 4294967296) : Bok (L + 1) (b ++ [[a, s, 0]]) t := by
  refine ⟨by rw [List.length_append, h.1]; rfl, fun n zs e => ?_⟩
  by_cases hn : n < b.length
  · rw [List.getElem?_append_left hn] at e
    exact h.2 n zs e
  · rw [List.getElem?_append_right (by omega)] at e
    cases hk : n - b.length with
    | zero =>
      rw [hk] at e
      cases e
      exact ⟨a, s, 0, rfl, ha, hs, hs2, by decide, by omega⟩
    | succ k =>
      rw [hk] at e
      simp at e
theorem box_end (x y : D) (c : Int) (k : Nat) (hk : k ≤ 3) (b : Bx) : ∃ a s : Int, boxEnd [.sh x, .sh (.int k), .sh (.int c)] b
    = some ((.rt (.box b.length), [.sh x, .sh (.int k), .sh (.int c)]), b ++ [[a, s, 0]]) ∧ 0 ≤ a ∧ 0 ≤ s ∧ s < 4294967296 := by
  have e10 := oPow_ok (a := 10) (b := 18) (by decide) (by decide) (by decide)
  have m1 := oMod_pos (a := c) (b := 2147483629) (by decide)
  have m2 := oMul_l (a := 6151) (b := (k : Int)) (by decide)
  have m3 : ∀ A B : Int, B = 0 ∨ B = 1 → oMul (.int A) (.int B) = some (.int (A * B)) := fun A B h => oMul_r (by omega)
  have hB : ∀ q : Bool, (if q = true then (1 : Int) else 0) = 0 ∨ (if q = true then (1 : Int) else 0) = 1 := fun q => by cases q <;> simp
  refine ⟨(if c < 0 then -c else c) * (if decide ((10 : Int) ^ (18 : Int).toNat ≤ (if c < 0 then -c else c)) = true then 1 else 0), c % 2147483629 + 6151 * k + 29, ?_, ?_, by omega, by omega⟩
  · have mm := m3 (if c < 0 then -c else c) _ (hB (decide ((10 : Int) ^ (18 : Int).toNat ≤ (if c < 0 then -c else c))))
    simp only [boxEnd, sRet, eBox, evs, e2, eN, n1, oAbs, eB, eC, eInn, bnd, ret, lift, List.getElem?_cons_succ, List.getElem?_cons_zero, shareIn, share, e10, oGe, oInt, m1, m2, oAdd, mm, intsOf, Option.map]
  · have h1 : 0 ≤ (if c < 0 then -c else c) := by split <;> omega
    rcases hB (decide ((10 : Int) ^ (18 : Int).toNat ≤ (if c < 0 then -c else c))) with e | e
    · rw [e, Int.mul_zero]; decide
    · rw [e, Int.mul_one]; exact h1
theorem box_run {L t : Nat} {ns : List Int} {k : Nat} (hk : k ≤ 3) {b : Bx} (hb : Bok L b t) : ∃ b', pBox [.scr ns, .int k] b = some (.box L, b') ∧ Bok (L + 1) b' t := by
  have hL : b.length = L := hb.1
  by_cases h : k < ns.length
  · obtain ⟨a, s, e, ha, hs, hs2⟩ := box_end (.scr ns) .non (ns[k]'h) k hk b
    refine ⟨b ++ [[a, s, 0]], ?_, hb.push ha hs hs2⟩
    have hat : oIx (.scr ns) (.int (k : Int)) = some (.int (ns[k]'h)) := by
      show (L2.atI ns (k : Int)).map D.int = _
      have : L2.atI ns (k : Int) = some (ns[k]'h) := by
        show (L2.ixN ns.length (k : Int)).bind _ = _
        have : L2.ixN ns.length (k : Int) = some k := by
          unfold L2.ixN
          rw [if_pos (by omega), if_pos (by omega)]
          rfl
        rw [this]
        show ns[k]? = _
        simp [h]
      rw [this]
      rfl
    have hlt : oLt (.int (k : Int)) (.int (ns.length : Int)) = some (.bl true) := by
      show some (D.bl _) = _
      rw [decide_eq_true (by omega)]
    have e0 : sSeq (sSet 2 (eC (.int 0))) (sSeq (sIf (e2 oLt (eB 1) (eN (n1 oLen) [(eB 0)])) (sSet 2 (eSh (eIx (eI 0) (eB 1)))) sNx) boxEnd) ([D.scr ns, .int k].map Sl.sh ++ List.replicate 1 Sl.no) = boxEnd [.sh (.scr ns), .sh (.int k), .sh (.int (ns[k]'h))] :=
      q_seq (q_set rfl) (q_seq (q_ift (q_2 rfl rfl hlt) (q_set (q_sh (q_ix rfl rfl (fun n e => (by cases e)) hat)))) rfl)
    unfold pBox runFn
    rw [e0]
    unfold bnd
    rw [e, hL]
    rfl
  · obtain ⟨a, s, e, ha, hs, hs2⟩ := box_end (.scr ns) .non 0 k hk b
    refine ⟨b ++ [[a, s, 0]], ?_, hb.push ha hs hs2⟩
    have hlt : oLt (.int (k : Int)) (.int (ns.length : Int)) = some (.bl false) := by
      show some (D.bl _) = _
      rw [decide_eq_false (by omega)]
    have e0 : sSeq (sSet 2 (eC (.int 0))) (sSeq (sIf (e2 oLt (eB 1) (eN (n1 oLen) [(eB 0)])) (sSet 2 (eSh (eIx (eI 0) (eB 1)))) sNx) boxEnd) ([D.scr ns, .int k].map Sl.sh ++ List.replicate 1 Sl.no) = boxEnd [.sh (.scr ns), .sh (.int k), .sh (.int 0)] :=
      q_seq (q_set rfl) (q_seq (q_iff (q_2 rfl rfl hlt) rfl) rfl)
    unfold pBox runFn
    rw [e0]
    unfold bnd
    rw [e, hL]
    rfl
end HF
namespace HF
open PySem (Str PyData sizeLine)
def pos (st : List Str) (y : Str) : Nat := (firstIxS y st).getD 0
def Sq (d : D) (ys : List Str) : Prop := d = .tup (ys.map D.str) ∨ ∃ o, d = .lst o (ys.map D.str)
section
variable {d : D} {ys : List Str}
theorem Sq.sh (h : Sq d ys) : Sq (share d) ys := by
  rcases h with rfl | ⟨o, rfl⟩
  · exact .inl (by show D.tup (shareL _) = _; rw [shareL_strs])
  · exact .inr ⟨false, by show D.lst false (shareL _) = _; rw [shareL_strs]⟩
theorem Sq.list (h : Sq d ys) : oList d = some (.lst true (ys.map D.str)) := by rcases h with rfl | ⟨o, rfl⟩ <;> rfl
theorem Sq.tuple (h : Sq d ys) : oTuple d = some (.tup (ys.map D.str)) := by rcases h with rfl | ⟨o, rfl⟩ <;> rfl
theorem Sq.items (h : Sq d ys) : itemsD d = some (ys.map D.str) := by rcases h with rfl | ⟨o, rfl⟩ <;> rfl
theorem Sq.seq (h : Sq d ys) : itSeq d = some (ys.map D.str) := by rcases h with rfl | ⟨o, rfl⟩ <;> rfl
theorem Sq.len (h : Sq d ys) : oLen d = some (.int ys.length) := by
  rcases h with rfl | ⟨o, rfl⟩
  · show some (D.int ((ys.map D.str).length : Int)) = _; rw [List.length_map]
  · show some (D.int ((ys.map D.str).length : Int)) = _; rw [List.length_map]
theorem cutL_to {α : Type} (xs : List α) (k : Nat) : cutL xs none (some (k : Int)) = xs.take k := by
  unfold cutL
  rw [HT.sIx_none, HT.sIx_nat, List.drop_zero, Nat.sub_zero, Nat.min_def]
  split
  · rfl
  · rw [List.take_length, List.take_of_length_le (by omega)]
theorem Sq.to (h : Sq d ys) (k : Nat) : ∃ e, oSl none (some (k : Int)) d = some e ∧ Sq e (ys.take k) := by
  rcases h with rfl | ⟨o, rfl⟩
  · exact ⟨_, rfl, .inl (by rw [cutL_to, List.map_take])⟩
  · exact ⟨_, rfl, .inr ⟨true, by rw [cutL_to, List.map_take]⟩⟩
theorem Sq.rev (h : Sq d ys) : ∃ e, oRev d = some e ∧ Sq e ys.reverse := by
  rcases h with rfl | ⟨o, rfl⟩
  · exact ⟨_, rfl, .inl (by rw [List.map_reverse])⟩
  · exact ⟨_, rfl, .inr ⟨true, by rw [List.map_reverse]⟩⟩
end
abbrev pr2 (p : Str × Str) : D := .tup [.str p.1, .str p.2]
end HF
namespace HF
open PySem (Str PyData sizeLine)
section
variable {α β : Type} {r : Env} {f g h c : Ev}
@[simp] theorem z_bnd {a : α} {k : α → M β} : bnd (ret a) k = k a := rfl
@[simp] theorem z_fail {k : α → M β} : bnd fail k = fail := rfl
@[simp] theorem z_some {a : α} : lift (some a) = ret a := rfl
@[simp] theorem z_none : lift (none : Option α) = fail := rfl
@[simp] theorem z_V (i : Nat) : eV i r = match r[i]? with | some (.sh d) => ret d | _ => fail := rfl
@[simp] theorem z_B (i : Nat) : eB i r = match r[i]? with | some (.sh d) => ret d | some (.ow d) => ret d | _ => fail := rfl
@[simp] theorem z_I (i : Nat) : eI i r = match r[i]? with | some (.sh d) => ret d | some (.ow d) => if stillIn d then ret d else fail | _ => fail := rfl
@[simp] theorem z_C (d : D) : eC d r = ret d := rfl
@[simp] theorem z_Inn : eInn f r = bnd (f r) fun d => ret (shareIn d) := rfl
@[simp] theorem z_Sh : eSh f r = bnd (f r) fun d => ret (share d) := rfl
@[simp] theorem z_1 (op : D → Option D) : e1 op f r = bnd (f r) fun x => lift (op x) := rfl
@[simp] theorem z_2 (op : D → D → Option D) : e2 op f g r = bnd (f r) fun x => bnd (g r) fun y => lift (op x y) := rfl
@[simp] theorem z_nil : evs [] r = ret [] := rfl
@[simp] theorem z_cons (fs : List Ev) : evs (f :: fs) r = bnd (f r) fun x => bnd (evs fs r) fun xs => ret (x :: xs) := rfl
@[simp] theorem z_N (op : List D → Option D) (fs : List Ev) : eN op fs r = bnd (evs fs r) fun xs => lift (op xs) := rfl
@[simp] theorem z_And : eAnd f g r = bnd (f r) fun x => match x with | .bl true => g r | .bl false => ret (.bl false) | _ => fail := rfl
@[simp] theorem z_Or : eOr f g r = bnd (f r) fun x => match x with | .bl true => ret (.bl true) | .bl false => g r | _ => fail := rfl
@[simp] theorem z_Ite : eIte c f g r = bnd (c r) fun x => match x with | .bl true => f r | .bl false => g r | _ => fail := rfl
@[simp] theorem z_Chain (op op' : D → D → Option D) : eChain op op' f g h r = bnd (f r) fun x => bnd (g r) fun y => bnd (lift (op x y)) fun z => match z with | .bl true => bnd (h r) fun w => lift (op' y w) | .bl false => ret (.bl false) | _ => fail := rfl
@[simp] theorem z_Call (fn : Fn) (fs : List Ev) : eCall fn fs r = bnd (evs fs r) fun xs => fn xs := rfl
@[simp] theorem z_CallS (fn : Fn) (fs : List Ev) : eCallS fn fs r = bnd (evs fs r) fun xs => bnd (fn (shareL xs)) fun d => if isScal d then ret d else fail := rfl
@[simp] theorem z_CallK (idx : List Nat) (fn : Fn) (fs ks : List Ev) (dds : List D) : eCallK idx fn fs ks dds r = bnd (evs fs r) fun xs => bnd (evs ks r) fun ys => fn (pick idx (xs ++ ys ++ dds)) := rfl
@[simp] theorem z_Tup (fs : List Ev) : eTup fs r = bnd (evs fs r) fun xs => ret (.tup xs) := rfl
@[simp] theorem z_Lst (fs : List Ev) : eLst fs r = bnd (evs fs r) fun xs => ret (.lst true xs) := rfl
@[simp] theorem z_pick0 {xs : List D} : pick [] xs = [] := rfl
@[simp] theorem z_pick {xs : List D} (i : Nat) (is : List Nat) : pick (i :: is) xs = match xs[i]? with | some x => x :: pick is xs | none => pick is xs := by
  unfold pick
  cases e : xs[i]? with
  | none => rw [List.filterMap_cons_none e]
  | some x => rw [List.filterMap_cons_some e]
@[simp] theorem z_itD (op : D → Option (List D)) : itD op f r = bnd (f r) fun x => lift (op x) := rfl
@[simp] theorem z_itN (op : List D → Option (List D)) (fs : List Ev) : itN op fs r = bnd (evs fs r) fun xs => lift (op xs) := rfl
@[simp] theorem z_n1 (op : D → Option D) (x : D) : n1 op [x] = op x := rfl
@[simp] theorem z_n2 (op : D → D → Option D) (x y : D) : n2 op [x, y] = op x y := rfl
@[simp] theorem z_l1 (op : D → Option (List D)) (x : D) : l1 op [x] = op x := rfl
@[simp] theorem z_l2 (op : D → D → Option (List D)) (x y : D) : l2 op [x, y] = op x y := rfl
@[simp] theorem z_Lc (own : List Nat) (tg : Tg) (it : Ws) (co : Option Ev) (elt : Ev) : eLc own tg it co elt r = bnd (it r) fun xs => lcGo tg (wipeE r own) co elt xs [] := rfl
@[simp] theorem z_wipe0 : wipeE r [] = r := rfl
@[simp] theorem z_wipe (v : Nat) (vs : List Nat) : wipeE r (v :: vs) = (wipeE r vs).set v .no := rfl
@[simp] theorem z_b1 (i : Nat) (d : D) : bindT (.one i) d r = some (r.set i (.sh d)) := rfl
@[simp] theorem z_b2 (i j : Nat) (x y : D) : bindT (.two i j) (.tup [x, y]) r = some ((r.set i (.sh x)).set j (.sh y)) := rfl
@[simp] theorem z_b3 (i j k : Nat) (x y z : D) : bindT (.three i j k) (.tup [x, y, z]) r = some (((r.set i (.sh x)).set j (.sh y)).set k (.sh z)) := rfl
@[simp] theorem z_part0 : evPart none r = ret none := rfl
@[simp] theorem z_part : evPart (some f) r = bnd (f r) fun d => match d with | .int i => ret (some i) | _ => fail := by
  unfold evPart
  congr 1
@[simp] theorem z_Sl (lo hi : Option Ev) : eSl f lo hi r = bnd (f r) fun c => bnd (evPart lo r) fun i => bnd (evPart hi r) fun j => lift (oSl i j c) := rfl
@[simp] theorem z_Ix_lst (o : Bool) (xs : List D) (y : D) : (match (D.lst o xs), y with | .box n, .int k => (fun b : Bx => match b[n]? with | some zs => (match L2.atI zs k with | some z => some (D.int z, b) | none => none) | none => none) | x, y => lift (oIx x y)) = lift (oIx (.lst o xs) y) := by cases y <;> rfl
variable {S T : Sv}
@[simp] theorem z_seq : sSeq S T r = bnd (S r) fun p => match p with | (.nx, r') => T r' | q => ret q := rfl
@[simp] theorem z_nx : sNx r = ret (.nx, r) := rfl
@[simp] theorem z_sFail : sFail r = fail := rfl
@[simp] theorem z_set (i : Nat) : sSet i f r = bnd (f r) fun d => ret (.nx, r.set i (.sh d)) := rfl
@[simp] theorem z_setO (i : Nat) : sSetO i f r = bnd (f r) fun d => ret (.nx, r.set i (.ow d)) := rfl
@[simp] theorem z_ret : sRet f r = bnd (f r) fun d => ret (.rt d, r) := rfl
@[simp] theorem z_retV (i : Nat) : sRetV i r = match r[i]? with | some (.sh d) => ret (.rt d, r) | some (.ow d) => ret (.rt d, r) | _ => fail := rfl
@[simp] theorem z_retN : sRetN r = ret (.rt .non, r) := rfl
@[simp] theorem z_if : sIf c S T r = bnd (c r) fun x => match x with | .bl true => S r | .bl false => T r | _ => fail := rfl
@[simp] theorem z_pre (is : List Nat) : sPre is S r = S (gives r is) := rfl
@[simp] theorem z_gives0 : gives r [] = r := rfl
@[simp] theorem z_gives (i : Nat) (is : List Nat) : gives r (i :: is) = gives (give r i) is := rfl
@[simp] theorem z_give (i : Nat) : give r i = match r[i]? with | some (.ow d) => r.set i (.sh (share d)) | _ => r := rfl
@[simp] theorem z_mut (i : Nat) (op : D → List D → Option D) (fs : List Ev) : sMut i op fs r = bnd (evs fs r) fun xs => match r[i]? with | some (.ow d) => bnd (lift (op d xs)) fun d' => ret (.nx, r.set i (.ow d')) | _ => fail := rfl
@[simp] theorem z_mutAt (i j : Nat) (op : D → List D → Option D) (fs : List Ev) : sMutAt i j op fs r = bnd (evs fs r) fun xs => match r[i]? with | some (.ow (.lst true ds)) => (match ds[j]? with | some d => bnd (lift (op d xs)) fun d' => ret (.nx, r.set i (.ow (.lst true (ds.set j d')))) | none => fail) | _ => fail := rfl
@[simp] theorem z_par (i : Nat) (oi : Bool) (j : Nat) (oj : Bool) : sPar i oi j oj f g r = bnd (evs [f, g] r) fun ds => match ds with | [d, e] => (match putS oi i d r with | some r1 => (match putS oj j e r1 with | some r2 => ret (.nx, r2) | none => fail) | none => fail) | _ => fail := rfl
@[simp] theorem z_unp (i : Nat) (oi : Bool) (j : Nat) (oj : Bool) : sUnp i oi j oj f r = bnd (f r) fun d => match d with | .tup [d, e] => (match putS oi i d r with | some r1 => (match putS oj j e r1 with | some r2 => ret (.nx, r2) | none => fail) | none => fail) | _ => fail := rfl
@[simp] theorem z_parN (ts : List (Nat × Bool)) (fs : List Ev) : sParN ts fs r = bnd (evs fs r) fun ds => match putSs ts ds r with | some r' => ret (.nx, r') | none => fail := rfl
@[simp] theorem z_unpN (ts : List (Nat × Bool)) : sUnpN ts f r = bnd (f r) fun d => match d with | .tup ds => (match putSs ts ds r with | some r' => ret (.nx, r') | none => fail) | _ => fail := rfl
@[simp] theorem z_putSs0 : putSs [] [] r = some r := rfl
@[simp] theorem z_putSs (i : Nat) (o : Bool) (ts : List (Nat × Bool)) (d : D) (ds : List D) : putSs ((i, o) :: ts) (d :: ds) r = (putS o i d r).bind (putSs ts ds) := rfl
@[simp] theorem z_putO (i : Nat) (d : D) : putS true i d r = some (r.set i (.ow d)) := rfl
@[simp] theorem z_putS (i : Nat) (d : D) : putS false i d r = if still d then some (r.set i (.sh d)) else none := rfl
@[simp] theorem z_for (tg : Tg) (it : Ws) : sFor tg it S r = bnd (it r) fun xs => forGo tg S xs r := rfl
@[simp] theorem z_rep0 : List.replicate 0 Sl.no = [] := rfl
end
end HF
namespace HF
open PySem (Str PyData sizeLine)
open L2 (Key)
section
variable {α β : Type}
@[simp] theorem w_lst {o : Bool} {xs : List D} : share (.lst o xs) = .lst false (shareL xs) := by rw [share]
@[simp] theorem w_tup {xs : List D} : share (.tup xs) = .tup (shareL xs) := by rw [share]
@[simp] theorem w_dtt {o : Bool} {xs : List (DK × D)} : share (.dtt o xs) = .dtt false (shareK xs) := by rw [share]
@[simp] theorem w_dtv {w : PySem.World} {o : Bool} {xs : List (DK × D)} : share (.dtv w o xs) = .dtv w false (shareK xs) := by rw [share]
@[simp] theorem v_dtt {o : Bool} {xs : List (DK × D)} : shareIn (.dtt o xs) = .dtt o (shareK xs) := rfl
@[simp] theorem w_dct {o : Bool} {xs : List (DK × D)} : share (.dct o xs) = .dct false (shareK xs) := by rw [share]
@[simp] theorem w_non : share .non = .non := by rw [share]
@[simp] theorem w_bl {b : Bool} : share (.bl b) = .bl b := by rw [share]
@[simp] theorem w_int {b : Int} : share (.int b) = .int b := by rw [share]
@[simp] theorem w_str {b : Str} : share (.str b) = .str b := by rw [share]
@[simp] theorem w_box {b : Nat} : share (.box b) = .box b := by rw [share]
@[simp] theorem w_exc {c : Str} {kvs : List (DK × D)} : share (.exc c kvs) = .exc c (shareK kvs) := by rw [share]
@[simp] theorem w_scr {b : List Int} : share (.scr b) = .scr b := by rw [share]
@[simp] theorem w_nil : shareL [] = [] := by rw [shareL]
@[simp] theorem w_cons {x : D} {xs : List D} : shareL (x :: xs) = share x :: shareL xs := by rw [shareL]
@[simp] theorem w_app {xs ys : List D} : shareL (xs ++ ys) = shareL xs ++ shareL ys := by rw [shareL_eq, shareL_eq, shareL_eq, List.map_append]
@[simp] theorem v_lst {o : Bool} {xs : List D} : shareIn (.lst o xs) = .lst o (shareL xs) := rfl
@[simp] theorem v_dct {o : Bool} {xs : List (DK × D)} : shareIn (.dct o xs) = .dct o (shareK xs) := rfl
@[simp] theorem v_tup {xs : List D} : shareIn (.tup xs) = .tup (shareL xs) := w_tup
@[simp] theorem v_non : shareIn .non = .non := w_non
@[simp] theorem v_bl {b : Bool} : shareIn (.bl b) = .bl b := w_bl
@[simp] theorem v_int {b : Int} : shareIn (.int b) = .int b := w_int
@[simp] theorem v_str {b : Str} : shareIn (.str b) = .str b := w_str
@[simp] theorem v_box {b : Nat} : shareIn (.box b) = .box b := w_box
@[simp] theorem w_strs {xs : List Str} : shareL (xs.map D.str) = xs.map D.str := shareL_strs xs
theorem w_map {g : α → D} (h : ∀ x, share (g x) = g x) (xs : List α) : shareL (xs.map g) = xs.map g := by
  rw [shareL_eq, List.map_map]
  exact List.map_congr_left fun x _ => h x
@[simp] theorem w_pr2 {ps : List (Str × Str)} : shareL (ps.map pr2) = ps.map pr2 := w_map (fun p => by simp) ps
abbrev ls2 (p : Str × Str) : D := .lst false [.str p.1, .str p.2]
@[simp] theorem w_ls2 {ps : List (Str × Str)} : shareL (ps.map ls2) = ps.map ls2 := w_map (fun p => by simp) ps
@[simp] theorem u_lst {o : Bool} {xs : List D} : still (.lst o xs) = (!o && stillL xs) := by rw [still]
@[simp] theorem u_tup {xs : List D} : still (.tup xs) = stillL xs := by rw [still]
@[simp] theorem u_int {z : Int} : still (.int z) = true := by rw [still]
@[simp] theorem u_str {z : Str} : still (.str z) = true := by rw [still]
@[simp] theorem u_bl {z : Bool} : still (.bl z) = true := by rw [still]
@[simp] theorem u_non : still .non = true := by rw [still]
@[simp] theorem u_nil : stillL [] = true := by rw [stillL]
@[simp] theorem u_cons {x : D} {xs : List D} : stillL (x :: xs) = (still x && stillL xs) := by rw [stillL]
theorem u_map {g : α → D} (h : ∀ x, still (g x) = true) (xs : List α) : stillL (xs.map g) = true := by
  rw [stillL_eq, List.all_map, List.all_eq_true]
  exact fun x _ => h x
@[simp] theorem u_strs {xs : List Str} : stillL (xs.map D.str) = true := u_map (fun x => by simp) xs
@[simp] theorem u_pr2 {ps : List (Str × Str)} : stillL (ps.map pr2) = true := u_map (fun p => by simp) ps
@[simp] theorem u_ls2 {ps : List (Str × Str)} : stillL (ps.map ls2) = true := u_map (fun p => by simp) ps
@[simp] theorem ui_lst {o : Bool} {xs : List D} : stillIn (.lst o xs) = stillL xs := rfl
@[simp] theorem ui_tup {xs : List D} : stillIn (.tup xs) = stillL xs := u_tup
@[simp] theorem ui_int {z : Int} : stillIn (.int z) = true := by show still (.int z) = true; simp
@[simp] theorem ui_str {z : Str} : stillIn (.str z) = true := by show still (.str z) = true; simp
@[simp] theorem ui_bl {z : Bool} : stillIn (.bl z) = true := by show still (.bl z) = true; simp
@[simp] theorem o1 {a b : Int} : oAdd (.int a) (.int b) = some (.int (a + b)) := rfl
@[simp] theorem o2 {a b : Int} : oSub (.int a) (.int b) = some (.int (a - b)) := rfl
@[simp] theorem o3 {a b : Int} : oLt (.int a) (.int b) = some (.bl (decide (a < b))) := rfl
@[simp] theorem o4 {a b : Int} : oLe (.int a) (.int b) = some (.bl (decide (a ≤ b))) := rfl
@[simp] theorem o5 {a b : Int} : oGt (.int a) (.int b) = some (.bl (decide (b < a))) := rfl
@[simp] theorem o6 {a b : Int} : oGe (.int a) (.int b) = some (.bl (decide (b ≤ a))) := rfl
@[simp] theorem o7 {a : Bool} : oNot (.bl a) = some (.bl (!a)) := rfl
@[simp] theorem o8 {a : Int} : oNeg (.int a) = some (.int (-a)) := rfl
@[simp] theorem o9 {o : Bool} {xs : List D} : oLen (.lst o xs) = some (.int xs.length) := rfl
@[simp] theorem o10 {xs : List D} : oLen (.tup xs) = some (.int xs.length) := rfl
@[simp] theorem o11 {o : Bool} {xs : List D} : oList (.lst o xs) = some (.lst true xs) := rfl
@[simp] theorem o12 {xs : List D} : oList (.tup xs) = some (.lst true xs) := rfl
@[simp] theorem o13 {o : Bool} {xs : List D} : oTuple (.lst o xs) = some (.tup xs) := rfl
@[simp] theorem o14 {xs : List D} : oTuple (.tup xs) = some (.tup xs) := rfl
@[simp] theorem o15 {a : Int} : oInt (.int a) = some (.int a) := rfl
@[simp] theorem o16 {b : Bool} : oInt (.bl b) = some (.int (if b then 1 else 0)) := rfl
@[simp] theorem o17 {o : Bool} {xs : List D} : oRev (.lst o xs) = some (.lst true xs.reverse) := rfl
@[simp] theorem o18 {xs : List D} : oRev (.tup xs) = some (.tup xs.reverse) := rfl
@[simp] theorem o19 {o : Bool} {xs : List D} : itSeq (.lst o xs) = some xs := rfl
@[simp] theorem o20 {xs : List D} : itSeq (.tup xs) = some xs := rfl
@[simp] theorem o21 {o : Bool} {xs : List D} : itemsD (.lst o xs) = some xs := rfl
@[simp] theorem o22 {xs : List D} : itemsD (.tup xs) = some xs := rfl
@[simp] theorem o23 {a b : Int} : oEq (.int a) (.int b) = some (.bl (decide (a = b))) := by rw [oEq_int]; congr 2
@[simp] theorem o24 {a b : Str} : oEq (.str a) (.str b) = some (.bl (decide (a = b))) := by
  show some (D.bl (eqvD (.str a) (.str b))) = _
  rw [eqv_str]; congr 2
@[simp] theorem o25 {a b : Int} : oNe (.int a) (.int b) = some (.bl (!decide (a = b))) := by
  show some (D.bl (!eqvD (.int a) (.int b))) = _
  rw [eqv_int]; congr 3
@[simp] theorem o26 {a b : Str} : oNe (.str a) (.str b) = some (.bl (!decide (a = b))) := by
  show some (D.bl (!eqvD (.str a) (.str b))) = _
  rw [eqv_str]; congr 3
theorem eqv_bl (a b : Bool) : eqvD (.bl a) (.bl b) = (a == b) := by cases a <;> cases b <;> decide +kernel
@[simp] theorem o27 {a b : Bool} : oEq (.bl a) (.bl b) = some (.bl (a == b)) := by
  show some (D.bl (eqvD (.bl a) (.bl b))) = _
  rw [eqv_bl]
@[simp] theorem o28 {a b : Bool} : oNe (.bl a) (.bl b) = some (.bl (a != b)) := by
  show some (D.bl (!eqvD (.bl a) (.bl b))) = _
  rw [eqv_bl]; rfl
@[simp] theorem o31 {xs : List D} {i : Nat} : oIx (.tup xs) (.int i) = xs[i]? := by
  show L2.atI xs i = _
  unfold L2.atI L2.ixN
  rw [if_pos (Int.natCast_nonneg i)]
  by_cases h : i < xs.length
  · rw [if_pos (by omega)]; rfl
  · rw [if_neg (by omega), List.getElem?_eq_none (by omega)]; rfl
@[simp] theorem o32 {o : Bool} {xs : List D} {i : Nat} : oIx (.lst o xs) (.int i) = xs[i]? := (show oIx (.lst o xs) (.int i) = oIx (.tup xs) (.int i) from rfl).trans o31
@[simp] theorem o33 {o : Bool} {xs : List D} : itEnumD (.lst o xs) = some (xs.zipIdx.map fun p => .tup [.int p.2, p.1]) := rfl
@[simp] theorem o34 {xs : List D} : itEnumD (.tup xs) = some (xs.zipIdx.map fun p => .tup [.int p.2, p.1]) := rfl
@[simp] theorem o35 {x : D} : oIs x .non = oIsN x := rfl
@[simp] theorem sc_bl {b : Bool} : isScal (.bl b) = true := rfl
@[simp] theorem sc_int {b : Int} : isScal (.int b) = true := rfl
@[simp] theorem sc_str {b : Str} : isScal (.str b) = true := rfl
@[simp] theorem sc_non : isScal .non = true := rfl
@[simp] theorem i_str_0 {x : Str} : oIsi [.tstr] (.str x) = some (.bl true) := rfl
@[simp] theorem i_str_1 {x : Str} : oIsi [.tlist] (.str x) = some (.bl false) := rfl
@[simp] theorem i_str_2 {x : Str} : oIsi [.ttuple] (.str x) = some (.bl false) := rfl
@[simp] theorem i_str_3 {x : Str} : oIsi [.tlist, .ttuple] (.str x) = some (.bl false) := rfl
@[simp] theorem i_str_4 {x : Str} : oIsi [.tint] (.str x) = some (.bl false) := rfl
@[simp] theorem i_str_5 {x : Str} : oIsi [.tbool] (.str x) = some (.bl false) := rfl
@[simp] theorem i_str_6 {x : Str} : oIsi [.tbool, .tstr] (.str x) = some (.bl true) := rfl
@[simp] theorem i_int_0 {x : Int} : oIsi [.tstr] (.int x) = some (.bl false) := rfl
@[simp] theorem i_int_1 {x : Int} : oIsi [.tlist] (.int x) = some (.bl false) := rfl
@[simp] theorem i_int_2 {x : Int} : oIsi [.ttuple] (.int x) = some (.bl false) := rfl
@[simp] theorem i_int_3 {x : Int} : oIsi [.tlist, .ttuple] (.int x) = some (.bl false) := rfl
@[simp] theorem i_int_4 {x : Int} : oIsi [.tint] (.int x) = some (.bl true) := rfl
@[simp] theorem i_int_5 {x : Int} : oIsi [.tbool] (.int x) = some (.bl false) := rfl
@[simp] theorem i_int_6 {x : Int} : oIsi [.tbool, .tstr] (.int x) = some (.bl false) := rfl
@[simp] theorem i_bl_0 {x : Bool} : oIsi [.tstr] (.bl x) = some (.bl false) := rfl
@[simp] theorem i_bl_1 {x : Bool} : oIsi [.tlist] (.bl x) = some (.bl false) := rfl
@[simp] theorem i_bl_2 {x : Bool} : oIsi [.ttuple] (.bl x) = some (.bl false) := rfl
@[simp] theorem i_bl_3 {x : Bool} : oIsi [.tlist, .ttuple] (.bl x) = some (.bl false) := rfl
@[simp] theorem i_bl_4 {x : Bool} : oIsi [.tint] (.bl x) = some (.bl true) := rfl
@[simp] theorem i_bl_5 {x : Bool} : oIsi [.tbool] (.bl x) = some (.bl true) := rfl
@[simp] theorem i_bl_6 {x : Bool} : oIsi [.tbool, .tstr] (.bl x) = some (.bl true) := rfl
@[simp] theorem i_non_0  : oIsi [.tstr] (.non) = some (.bl false) := rfl
@[simp] theorem i_non_1  : oIsi [.tlist] (.non) = some (.bl false) := rfl
@[simp] theorem i_non_2  : oIsi [.ttuple] (.non) = some (.bl false) := rfl
@[simp] theorem i_non_3  : oIsi [.tlist, .ttuple] (.non) = some (.bl false) := rfl
@[simp] theorem i_non_4  : oIsi [.tint] (.non) = some (.bl false) := rfl
@[simp] theorem i_non_5  : oIsi [.tbool] (.non) = some (.bl false) := rfl
@[simp] theorem i_non_6  : oIsi [.tbool, .tstr] (.non) = some (.bl false) := rfl
@[simp] theorem i_lst_0 {o : Bool} {xs : List D} : oIsi [.tstr] (.lst o xs) = some (.bl false) := rfl
@[simp] theorem i_lst_1 {o : Bool} {xs : List D} : oIsi [.tlist] (.lst o xs) = some (.bl true) := rfl
@[simp] theorem i_lst_2 {o : Bool} {xs : List D} : oIsi [.ttuple] (.lst o xs) = some (.bl false) := rfl
@[simp] theorem i_lst_3 {o : Bool} {xs : List D} : oIsi [.tlist, .ttuple] (.lst o xs) = some (.bl true) := rfl
@[simp] theorem i_lst_4 {o : Bool} {xs : List D} : oIsi [.tint] (.lst o xs) = some (.bl false) := rfl
@[simp] theorem i_lst_5 {o : Bool} {xs : List D} : oIsi [.tbool] (.lst o xs) = some (.bl false) := rfl
@[simp] theorem i_lst_6 {o : Bool} {xs : List D} : oIsi [.tbool, .tstr] (.lst o xs) = some (.bl false) := rfl
@[simp] theorem i_tup_0 {xs : List D} : oIsi [.tstr] (.tup xs) = some (.bl false) := rfl
@[simp] theorem i_tup_1 {xs : List D} : oIsi [.tlist] (.tup xs) = some (.bl false) := rfl
@[simp] theorem i_tup_2 {xs : List D} : oIsi [.ttuple] (.tup xs) = some (.bl true) := rfl
@[simp] theorem i_tup_3 {xs : List D} : oIsi [.tlist, .ttuple] (.tup xs) = some (.bl true) := rfl
@[simp] theorem i_tup_4 {xs : List D} : oIsi [.tint] (.tup xs) = some (.bl false) := rfl
@[simp] theorem i_tup_5 {xs : List D} : oIsi [.tbool] (.tup xs) = some (.bl false) := rfl
@[simp] theorem i_tup_6 {xs : List D} : oIsi [.tbool, .tstr] (.tup xs) = some (.bl false) := rfl
@[simp] theorem dec_lt {a b : Nat} : decide ((a : Int) < (b : Int)) = decide (a < b) := by rw [decide_eq_decide]; omega
@[simp] theorem dec_le {a b : Nat} : decide ((a : Int) ≤ (b : Int)) = decide (a ≤ b) := by rw [decide_eq_decide]; omega
@[simp] theorem dec_eq {a b : Nat} : decide ((a : Int) = (b : Int)) = decide (a = b) := by rw [decide_eq_decide]; omega
@[simp] theorem isN_non : oIsN .non = some (.bl true) := rfl
@[simp] theorem isN_str {x : Str} : oIsN (.str x) = some (.bl false) := rfl
@[simp] theorem isN_int {x : Int} : oIsN (.int x) = some (.bl false) := rfl
@[simp] theorem isN_bl {x : Bool} : oIsN (.bl x) = some (.bl false) := rfl
@[simp] theorem isN_lst {o : Bool} {xs : List D} : oIsN (.lst o xs) = some (.bl false) := rfl
@[simp] theorem isN_tup {xs : List D} : oIsN (.tup xs) = some (.bl false) := rfl
theorem blsOf_map (bs : List Bool) : blsOf (bs.map D.bl) = some bs := by
  induction bs with
  | nil => rfl
  | cons b bs ih => show (blsOf (bs.map D.bl)).map (b :: ·) = _; rw [ih]; rfl
@[simp] theorem oAll_bls {o : Bool} {bs : List Bool} : oAll (.lst o (bs.map D.bl)) = some (.bl (bs.all id)) := by
  show (blsOf _).map _ = _
  rw [blsOf_map]; rfl
@[simp] theorem oAll_map {o : Bool} {xs : List α} {p : α → Bool} : oAll (.lst o (xs.map fun x => D.bl (p x))) = some (.bl (xs.all p)) := by
  have : xs.map (fun x => D.bl (p x)) = (xs.map p).map D.bl := by rw [List.map_map]; rfl
  rw [this, oAll_bls, List.all_map]; rfl
@[simp] theorem oAny_map {o : Bool} {xs : List α} {p : α → Bool} : oAny (.lst o (xs.map fun x => D.bl (p x))) = some (.bl (xs.any p)) := by
  have : xs.map (fun x => D.bl (p x)) = (xs.map p).map D.bl := by rw [List.map_map]; rfl
  rw [this]
  show (blsOf _).map _ = _
  rw [blsOf_map]
  show some (D.bl ((xs.map p).any id)) = _
  rw [List.any_map]; rfl
def sameOk : Nat → D → Bool
  | 0, _ => false
  | n + 1, .lst _ xs => decide (xs.length ≤ 100000) && xs.all (sameOk n)
  | n + 1, .tup xs => decide (xs.length ≤ 100000) && xs.all (sameOk n)
  | _ + 1, .non => true
  | _ + 1, .bl _ => true
  | _ + 1, .int _ => true
  | _ + 1, .str _ => true
  | _ + 1, _ => false
@[simp] theorem so_lst {n : Nat} {o : Bool} {xs : List D} : sameOk (n + 1) (.lst o xs) = (decide (xs.length ≤ 100000) && xs.all (sameOk n)) := rfl
@[simp] theorem so_tup {n : Nat} {xs : List D} : sameOk (n + 1) (.tup xs) = (decide (xs.length ≤ 100000) && xs.all (sameOk n)) := rfl
@[simp] theorem so_non {n : Nat} : sameOk (n + 1) .non = true := rfl
@[simp] theorem so_bl {n : Nat} {b : Bool} : sameOk (n + 1) (.bl b) = true := rfl
@[simp] theorem so_int {n : Nat} {b : Int} : sameOk (n + 1) (.int b) = true := rfl
@[simp] theorem so_str {n : Nat} {b : Str} : sameOk (n + 1) (.str b) = true := rfl
end
end HF
local macro_rules | `(tactic| walk_at "z") => `(tactic| simp only [HF.z_bnd, HF.z_fail, HF.z_some, HF.z_none, HF.z_V, HF.z_B, HF.z_I, HF.z_C, HF.z_Inn, HF.z_Sh, HF.z_1, HF.z_2, HF.z_nil, HF.z_cons, HF.z_N, HF.z_And, HF.z_Or, HF.z_Ite, HF.z_Chain, HF.z_Call, HF.z_CallS, HF.z_CallK, HF.z_Tup, HF.z_Lst, HF.z_pick0, HF.z_pick, HF.z_itD, HF.z_itN, HF.z_n1, HF.z_n2, HF.z_l1, HF.z_l2, HF.z_Lc, HF.z_wipe0, HF.z_wipe, HF.z_b1, HF.z_b2, HF.z_b3, HF.z_part0, HF.z_part, HF.z_Sl, HF.z_seq, HF.z_nx, HF.z_sFail, HF.z_set, HF.z_setO, HF.z_ret, HF.z_retV, HF.z_retN, HF.z_if, HF.z_pre, HF.z_gives0, HF.z_gives, HF.z_give, HF.z_mut, HF.z_mutAt, HF.z_par, HF.z_unp, HF.z_parN, HF.z_unpN, HF.z_putSs0, HF.z_putSs, HF.z_putO, HF.z_putS, HF.z_for, HF.z_rep0, HF.w_lst, HF.w_tup, HF.w_dct, HF.w_non, HF.w_bl, HF.w_int, HF.w_str, HF.w_box, HF.w_scr, HF.w_nil, HF.w_cons, HF.w_app, HF.v_lst, HF.v_dct, HF.v_tup, HF.v_non, HF.v_bl, HF.v_int, HF.v_str, HF.v_box, HF.w_strs, HF.w_pr2, HF.w_ls2, HF.u_lst, HF.u_tup, HF.u_int, HF.u_str, HF.u_bl, HF.u_non, HF.u_nil, HF.u_cons, HF.u_strs, HF.u_pr2, HF.u_ls2, HF.ui_lst, HF.ui_tup, HF.ui_int, HF.ui_str, HF.ui_bl, HF.o1, HF.o2, HF.o3, HF.o4, HF.o5, HF.o6, HF.o7, HF.o8, HF.o9, HF.o10, HF.o11, HF.o12, HF.o13, HF.o14, HF.o15, HF.o16, HF.o17, HF.o18, HF.o19, HF.o20, HF.o21, HF.o22, HF.o23, HF.o24, HF.o25, HF.o26, HF.o27, HF.o28, HF.o31, HF.o32, HF.o35, HF.i_str_0, HF.i_str_1, HF.i_str_2, HF.i_str_3, HF.i_str_4, HF.i_str_5, HF.i_str_6, HF.i_int_0, HF.i_int_1, HF.i_int_2, HF.i_int_3, HF.i_int_4, HF.i_int_5, HF.i_int_6, HF.i_bl_0, HF.i_bl_1, HF.i_bl_2, HF.i_bl_3, HF.i_bl_4, HF.i_bl_5, HF.i_bl_6, HF.i_non_0, HF.i_non_1, HF.i_non_2, HF.i_non_3, HF.i_non_4, HF.i_non_5, HF.i_non_6, HF.i_lst_0, HF.i_lst_1, HF.i_lst_2, HF.i_lst_3, HF.i_lst_4, HF.i_lst_5, HF.i_lst_6, HF.i_tup_0, HF.i_tup_1, HF.i_tup_2, HF.i_tup_3, HF.i_tup_4, HF.i_tup_5, HF.i_tup_6, HF.dec_lt, HF.dec_le, HF.dec_eq, HF.isN_non, HF.isN_str, HF.isN_int, HF.isN_bl, HF.isN_lst, HF.isN_tup, HF.sc_bl, HF.sc_int, HF.sc_str, HF.sc_non, HF.oAll_map, HF.oAny_map, List.getElem?_cons_succ, List.getElem?_cons_zero, List.set_cons_succ, List.set_cons_zero, List.map_cons, List.map_nil, List.cons_append, List.nil_append, List.replicate_succ, Option.bind_some, if_true, if_false, Bool.not_true, Bool.not_false, Bool.and_true, Bool.true_and, Bool.and_false, Bool.false_and, Bool.or_true, Bool.true_or, Bool.or_false, Bool.false_or, decide_true, decide_false, reduceIte])
local macro_rules | `(tactic| walk_at "zs") => `(tactic| simp only [*, HF.z_bnd, HF.z_fail, HF.z_some, HF.z_none, HF.z_V, HF.z_B, HF.z_I, HF.z_C, HF.z_Inn, HF.z_Sh, HF.z_1, HF.z_2, HF.z_nil, HF.z_cons, HF.z_N, HF.z_And, HF.z_Or, HF.z_Ite, HF.z_Chain, HF.z_Call, HF.z_CallS, HF.z_CallK, HF.z_Tup, HF.z_Lst, HF.z_pick0, HF.z_pick, HF.z_itD, HF.z_itN, HF.z_n1, HF.z_n2, HF.z_l1, HF.z_l2, HF.z_Lc, HF.z_wipe0, HF.z_wipe, HF.z_b1, HF.z_b2, HF.z_b3, HF.z_part0, HF.z_part, HF.z_Sl, HF.z_seq, HF.z_nx, HF.z_sFail, HF.z_set, HF.z_setO, HF.z_ret, HF.z_retV, HF.z_retN, HF.z_if, HF.z_pre, HF.z_gives0, HF.z_gives, HF.z_give, HF.z_mut, HF.z_mutAt, HF.z_par, HF.z_unp, HF.z_parN, HF.z_unpN, HF.z_putSs0, HF.z_putSs, HF.z_putO, HF.z_putS, HF.z_for, HF.z_rep0, HF.w_lst, HF.w_tup, HF.w_dct, HF.w_non, HF.w_bl, HF.w_int, HF.w_str, HF.w_box, HF.w_scr, HF.w_nil, HF.w_cons, HF.w_app, HF.v_lst, HF.v_dct, HF.v_tup, HF.v_non, HF.v_bl, HF.v_int, HF.v_str, HF.v_box, HF.w_strs, HF.w_pr2, HF.w_ls2, HF.u_lst, HF.u_tup, HF.u_int, HF.u_str, HF.u_bl, HF.u_non, HF.u_nil, HF.u_cons, HF.u_strs, HF.u_pr2, HF.u_ls2, HF.ui_lst, HF.ui_tup, HF.ui_int, HF.ui_str, HF.ui_bl, HF.o1, HF.o2, HF.o3, HF.o4, HF.o5, HF.o6, HF.o7, HF.o8, HF.o9, HF.o10, HF.o11, HF.o12, HF.o13, HF.o14, HF.o15, HF.o16, HF.o17, HF.o18, HF.o19, HF.o20, HF.o21, HF.o22, HF.o23, HF.o24, HF.o25, HF.o26, HF.o27, HF.o28, HF.o31, HF.o32, HF.o35, HF.i_str_0, HF.i_str_1, HF.i_str_2, HF.i_str_3, HF.i_str_4, HF.i_str_5, HF.i_str_6, HF.i_int_0, HF.i_int_1, HF.i_int_2, HF.i_int_3, HF.i_int_4, HF.i_int_5, HF.i_int_6, HF.i_bl_0, HF.i_bl_1, HF.i_bl_2, HF.i_bl_3, HF.i_bl_4, HF.i_bl_5, HF.i_bl_6, HF.i_non_0, HF.i_non_1, HF.i_non_2, HF.i_non_3, HF.i_non_4, HF.i_non_5, HF.i_non_6, HF.i_lst_0, HF.i_lst_1, HF.i_lst_2, HF.i_lst_3, HF.i_lst_4, HF.i_lst_5, HF.i_lst_6, HF.i_tup_0, HF.i_tup_1, HF.i_tup_2, HF.i_tup_3, HF.i_tup_4, HF.i_tup_5, HF.i_tup_6, HF.dec_lt, HF.dec_le, HF.dec_eq, HF.isN_non, HF.isN_str, HF.isN_int, HF.isN_bl, HF.isN_lst, HF.isN_tup, HF.sc_bl, HF.sc_int, HF.sc_str, HF.sc_non, HF.oAll_map, HF.oAny_map, List.getElem?_cons_succ, List.getElem?_cons_zero, List.set_cons_succ, List.set_cons_zero, List.map_cons, List.map_nil, List.cons_append, List.nil_append, List.replicate_succ, Option.bind_some, if_true, if_false, Bool.not_true, Bool.not_false, Bool.and_true, Bool.true_and, Bool.and_false, Bool.false_and, Bool.or_true, Bool.true_or, Bool.or_false, Bool.false_or, decide_true, decide_false, reduceIte])
namespace HF
open PySem (Str PyData sizeLine)
open L2 (Key)
def InSt (st : List Str) (ps : List (Str × Str)) : Prop := ∀ p ∈ ps, p.1 ∈ st ∧ p.2 ∈ st ∧ p.1 ≠ p.2
section
variable {L n t : Nat} {st : List Str}
theorem InSt.app {ps qs : List (Str × Str)} (h : InSt st ps) (h' : InSt st qs) : InSt st (ps ++ qs) := fun p hp => (List.mem_append.mp hp).elim (h p) (h' p)
end
end HF
namespace HF
open PySem (Str PyData sizeLine)
open PySem.PyData
def lfOk : Nat → D → Bool
  | _, .non => true
  | _, .bl _ => true
  | _, .int z => decide ((shown (.int z)).length ≤ 13) && decide (z.natAbs.log2 < 1920)
  | _, .str x => strOk x
  | n + 1, .lst _ xs => xs.all (lfOk n)
  | n + 1, .tup xs => xs.all (lfOk n)
  | _, _ => false
abbrev wt (d : D) : Nat := weight (toPD d)
structure Lf (n : Nat) (d : D) : Prop where
  lay : canLay0 (toPD d) = true
  dep : depth (toPD d) ≤ n
  int : intsShort 13 (toPD d) = true
  sho : showable (toPD d) = true
  pla : plainD n d = true
@[simp] theorem wt_lst {o : Bool} {xs : List D} : wt (.lst o xs) = weightAll (toPDL xs) := by unfold wt; rw [toPD, weight]
@[simp] theorem wt_tup {xs : List D} : wt (.tup xs) = weightAll (toPDL xs) := by unfold wt; rw [toPD, weight]
@[simp] theorem wt_nil : weightAll (toPDL []) = 0 := by rw [toPDL, weightAll]
@[simp] theorem wt_cons {x : D} {xs : List D} : weightAll (toPDL (x :: xs)) = wt x + 1 + weightAll (toPDL xs) := by rw [toPDL, weightAll]
@[simp] theorem wt_str {x : Str} : wt (.str x) = x.length := by unfold wt; rw [toPD, weight]; rfl
abbrev NmP (ps : List (Str × Str)) : Prop := ∀ p ∈ ps, NameOk p.1 ∧ NameOk p.2
theorem InSt.nm {st : List Str} {ps : List (Str × Str)} (h : InSt st ps) (n : Nms st) : NmP ps := fun p hp => ⟨n _ (h p hp).1, n _ (h p hp).2.1⟩
@[simp] theorem lf_lst {n : Nat} {o : Bool} {xs : List D} : lfOk (n + 1) (.lst o xs) = xs.all (lfOk n) := rfl
@[simp] theorem lf_tup {n : Nat} {xs : List D} : lfOk (n + 1) (.tup xs) = xs.all (lfOk n) := rfl
end HF
namespace HF
open PySem (Str PyData sizeLine)
def Prs (d : D) (ps : List (Str × Str)) : Prop := ∃ g : Str × Str → D, (itSeq d = some (ps.map g)) ∧ ∀ p r i j, bindT (.two i j) (g p) r = some ((r.set i (.sh (.str p.1))).set j (.sh (.str p.2)))
theorem Prs.tup (ps : List (Str × Str)) : Prs (.tup (ps.map pr2)) ps := ⟨pr2, rfl, fun _ _ _ _ => rfl⟩
theorem Prs.lst (o : Bool) (ps : List (Str × Str)) : Prs (.lst o (ps.map pr2)) ps := ⟨pr2, rfl, fun _ _ _ _ => rfl⟩
theorem Prs.ls2 (o : Bool) (ps : List (Str × Str)) : Prs (.lst o (ps.map HF.ls2)) ps := ⟨HF.ls2, rfl, fun _ _ _ _ => rfl⟩
def frs (ps : List (Str × Str)) (b : Str) : List Str := sortT ((ps.filter fun p => decide (p.1 = b)).map (·.2))
end HF
namespace HF
open PySem (Str PyData sizeLine)
section
variable {d e : D} {st : List Str} {ps : List (Str × Str)}
def pPick : Fn := runFn 0 (sRet (eIx (eI 1) (eCall pTake [(eV 0), (eSh (eN (n1 oLen) [(eB 1)]))])))
theorem pick_wp {L n t : Nat} {R : D → Nat → Prop} {α : Type} {g : α → D} {xs : List α} {x : D} (hx : itemsD x = some (xs.map g)) (hn : n < L) (h0 : xs ≠ []) (hl : xs.length ≤ 100000) (ht : t < 1099511627776) (h : ∀ y ∈ xs, R (g y) (t + 1)) : Wp L (pPick [.box n, x]) t R := by
  have ln : 0 < xs.length := List.length_pos_iff.mpr h0
  have e1 : oLen x = some (.int xs.length) := by
    cases x <;> first | cases hx | skip
    · rw [o9]; rw [List.length_map]
    · rw [o10]; rw [List.length_map]
  have e2 : ∀ i : Nat, oIx x (.int i) = (xs.map g)[i]? := fun i => by
    cases x <;> first | cases hx | skip
    · exact o32
    · exact o31
  have nb : ∀ n, x ≠ .box n := fun n e => by subst e; cases hx
  refine runFn_wp (sRet_wp (eIx_wp (.of (a := x) rfl ?_)))
  refine take_call (bd := (xs.length : Int)) rfl (by walk_at "z"; rw [e1]; walk_at "z") hn (by omega) (by omega) ht fun i i0 i1 => ⟨nb, ?_⟩
  obtain ⟨k, rfl⟩ := Int.eq_ofNat_of_zero_le i0
  have hk : k < xs.length := by omega
  exact ⟨g xs[k], by rw [e2, List.getElem?_map, List.getElem?_eq_getElem hk]; rfl, _, _, rfl, h _ (List.getElem_mem hk)⟩
end
end HF
namespace K06
open PySem (Str PyData sizeLine)
open HF
theorem pick_eq : g_pick = pPick := rfl
def things : List D := [.str ("a" : Str), .int 7, .int (-1), .non, .lst false [.str ("a" : Str), .str ("b" : Str)], .tup [.str ("a" : Str), .str ("b" : Str)], .str ("" : Str), .int 1000000000000000000000000000000]
def bFor : Sv := (sSeq (sIf (eOr (HF.e2 oNe (eCall g_kinds [(eV 5)]) (eC (.int 1))) (eOr (HF.e2 oNe (eCall g_kinds [(eV 6)]) (eC (.int 1))) (eOr (HF.e2 oNe (eCall g_bases [(eV 5)]) (eLst [(eV 7)])) (HF.e2 oNe (eCall g_bases [(eV 6)]) (eLst [(eV 7)])))))
    (sRet (eC (.bl false)))
    sNx)
    (sIf (eOr (HF.e1 oNot (eCall g_fields [(eV 3), (eV 4), (eV 5)])) (HF.e1 oNot (eCall g_fields [(eV 3), (eV 4), (eV 6)])))
    (sRet (eC (.bl false)))
    sNx))
def bEnd : Sv := (sSeq (sFor (.three 5 6 7) (itD itSeq (eSh (eCall g_all [(eV 3), (eV 4)]))) bFor)
    (sRet (eCall (g_same 6) [(eSh (eLst [(eC (.int 300)), (eC (.int 6)), (eC (.int 800)), (eC (.int 8))])), (eSh (eLst [(eC (.int 300)), (eC (.int 6)), (eC (.int 800)), (eC (.int 8))]))])))
def fin (x0 x1 x2 : Sl) (b : Bx) (m i : D) : Bool := match bEnd [x0, x1, x2, .sh m, .sh i, .no, .no, .no] b with
  | some ((.rt (.bl true), _), _) => true
  | _ => false
theorem fins (x0 x1 x2 : Sl) (b : Bx) : (things.all fun m => things.all fun i => fin x0 x1 x2 b m i) = true := by kernel_rfl
theorem end_ok {x0 x1 x2 : Sl} {b : Bx} {m i : D} (hm : m ∈ things) (hi : i ∈ things) : ∃ r b', bEnd [x0, x1, x2, .sh m, .sh i, .no, .no, .no] b = some ((.rt (.bl true), r), b') := by
  have h := List.all_eq_true.mp (List.all_eq_true.mp (fins x0 x1 x2 b) m hm) i hi
  unfold fin at h
  split at h
  · rename_i r b' e
    exact ⟨r, b', e⟩
  · cases h
theorem plain (ns : List Int) (hn : ns.length ≤ 63) : ∃ b, g_law [.scr ns] [] = some (.bl true, b) := by
  have b0 : Bok 0 [] 0 := ⟨rfl, fun n zs e => by simp at e⟩
  obtain ⟨b1, e1, hb1⟩ := box_run (ns := ns) (k := 0) (by decide) b0
  let T : D := .lst false things
  let E (v3 v4 : Sl) : HF.Env := [.sh (.scr ns), .sh (.box 0), .sh T, v3, v4, .no, .no, .no]
  have s1 : sSet 1 (eSh (eCall g_box [(eV 0), (eC (.int 0))])) [.sh (.scr ns), .no, .no, .no, .no, .no, .no, .no] [] = some ((.nx, [.sh (.scr ns), .sh (.box 0), .no, .no, .no, .no, .no, .no]), b1) := by
    unfold sSet eSh bnd
    rw [show eCall g_box [(eV 0), (eC (.int 0))] [.sh (.scr ns), .no, .no, .no, .no, .no, .no, .no] [] = some (.box 0, b1) from e1]
    rfl
  have s2 : sSet 2 (eSh (eLst [(eC (.str ("a" : Str))), (eC (.int 7)), (HF.e1 oNeg (eC (.int 1))), (eC .non), (eLst [(eC (.str ("a" : Str))), (eC (.str ("b" : Str)))]), (eTup [(eC (.str ("a" : Str))), (eC (.str ("b" : Str)))]), (eC (.str ("" : Str))), (HF.e2 oPow (eC (.int 10)) (eC (.int 30)))])) [.sh (.scr ns), .sh (.box 0), .no, .no, .no, .no, .no, .no] b1 = some ((.nx, E .no .no), b1) := by kernel_rfl
  have hw : Wp 1 (evs [(eSh (eCall g_pick [(eV 1), (eV 2)])), (eSh (eCall g_pick [(eV 1), (eV 2)]))] (E .no .no)) 0 fun ds u => ∃ m i, ds = [m, i] ∧ m ∈ things ∧ i ∈ things := by
    rw [pick_eq]
    have sh : ∀ m ∈ things, share m = m := by
      intro m hm
      have : things.all (fun m => (match m with | .non => true | .int _ => true | .str _ => true | .lst false [.str _, .str _] => true | .tup [.str _, .str _] => true | _ => false)) = true := by kernel_rfl
      have h := List.all_eq_true.mp this m hm
      split at h <;> first | rfl | (cases h)
    refine evs_cons_wp (eSh_wp (eCall_wp (evs_cons_wp (.of (a := .box 0) rfl (evs_cons_wp (.of (a := T) rfl (evs_nil_wp ?_)))))))
    refine pick_wp (xs := things) (g := id) (by rw [List.map_id]; rfl) (by decide) (by unfold things; exact List.cons_ne_nil _ _) (by show 8 ≤ 100000; decide) (by decide) fun m hm => ?_
    refine evs_cons_wp (eSh_wp (eCall_wp (evs_cons_wp (.of (a := .box 0) rfl (evs_cons_wp (.of (a := T) rfl (evs_nil_wp ?_)))))))
    refine pick_wp (xs := things) (g := id) (by rw [List.map_id]; rfl) (by decide) (by unfold things; exact List.cons_ne_nil _ _) (by show 8 ≤ 100000; decide) (by decide) fun i hi => ?_
    refine evs_nil_wp ⟨m, i, ?_, hm, hi⟩
    rw [show share (id m) = m from sh m hm, show share (id i) = i from sh i hi]
  obtain ⟨ds, b2, u, e2, _, m, i, rfl, hm, hi⟩ := hw b1 hb1
  have s3 : sPar 3 false 4 false (eSh (eCall g_pick [(eV 1), (eV 2)])) (eSh (eCall g_pick [(eV 1), (eV 2)])) (E .no .no) b1 = some ((.nx, E (.sh m) (.sh i)), b2) := by
    unfold sPar bnd
    rw [e2]
    dsimp only
    have st : ∀ m ∈ things, still m = true := by
      intro m hm
      have : things.all still = true := by kernel_rfl
      exact List.all_eq_true.mp this m hm
    rw [show ∀ r : HF.Env, putS false 3 m r = some (r.set 3 (.sh m)) from fun r => if_pos (st m hm)]
    dsimp only
    rw [show ∀ r : HF.Env, putS false 4 i r = some (r.set 4 (.sh i)) from fun r => if_pos (st i hi)]
    rfl
  obtain ⟨r, b3, e3⟩ := end_ok (x0 := .sh (.scr ns)) (x1 := .sh (.box 0)) (x2 := .sh T) (b := b2) hm hi
  refine ⟨b3, ?_⟩
  show bnd (sSeq _ (sSeq _ (sSeq _ bEnd)) [.sh (.scr ns), .no, .no, .no, .no, .no, .no, .no]) _ [] = _
  unfold sSeq bnd
  rw [s1]
  dsimp only
  rw [s2]
  dsimp only
  rw [s3]
  dsimp only
  rw [e3]
  rfl
end K06
open PySem PySem.W PyProof.Rows in
set_option maxRecDepth 100000 in
set_option maxHeartbeats 0 in
theorem PySem.Challenge.cw_heapfriends_k06_errors_and_limits_holds : PySem.Challenge.rw_heapfriends_k06_errors_and_limits.Holds := by
  w_on; o_law; k_head; (case hw => w_witness2)
  k_fill
  refine HF.walk_go (l := PySem.Challenge.rw_heapfriends_k06_errors_and_limits) (n := 63) (k := 8) (x := "_law_script") (fn := K06.g_law) rfl (by decide) rfl ⟨rfl, by decide, by decide⟩ (fun w h Y => PySem.W.kIn_of Y) ?F K06.plain
  case F =>
    intro w mg fa h KX G hmg
    refine' K06.all_mk KX G hmg ?a0 ?l0 ?c0 ?k0 ?a1 ?l1 ?c1 ?k1 ?a2 ?l2 ?c2 ?k2 ?a3 ?l3 ?c3 ?k3 ?a4 ?l4 ?c4 ?k4 ?a5 ?l5 ?c5 ?k5 ?a6 ?l6 ?c6 ?k6 ?a7 ?l7 ?c7 ?k7 ?a8 ?l8 ?c8 ?k8 ?z0 ?z1 ?z2 ?z3 ?z4 ?z5 ?z6 ?z7 ?z8 ?z9 ?z10 ?z11 ?z12 ?z13 ?z14 ?z15 ?z16 ?y0 ?y1 ?y2 ?y3 ?n0_ ?cx0 ?ty0 ?ex0 ?ga0 ?gg0 ?cl0 ?hd0 ?mo0 ?kp0 ?ei0 ?n1_ ?cx1 ?ty1 ?ex1 ?ga1 ?gg1 ?cl1 ?hd1 ?mo1 ?kp1 ?sa1 ?ic1 ?ti1 ?li1 ?ci1 ?vv1 ?tk1_text ?n2_ ?cx2 ?ty2 ?ex2 ?ga2 ?gg2 ?cl2 ?hd2 ?mo2 ?kp2 ?sa2 ?ic2 ?ti2 ?li2 ?ci2 ?vv2 ?tk2_number ?n3_ ?cx3 ?ty3 ?ex3 ?ga3 ?gg3 ?cl3 ?hd3 ?mo3 ?kp3 ?sa3 ?ic3 ?ti3 ?li3 ?ci3 ?vv3 ?tk3_book ?n4_ ?cx4 ?ty4 ?ex4 ?ga4 ?gg4 ?cl4 ?hd4 ?mo4 ?kp4 ?sa4 ?ic4 ?ti4 ?li4 ?ci4 ?vv4 ?tk4_book ?n5_ ?cx5 ?ty5 ?ex5 ?ga5 ?gg5 ?cl5 ?hd5 ?mo5 ?kp5 ?sa5 ?ic5 ?ti5 ?li5 ?ci5 ?vv5 ?tk5_book ?n6_ ?cx6 ?ty6 ?ex6 ?ga6 ?gg6 ?cl6 ?hd6 ?mo6 ?kp6 ?sa6 ?ic6 ?ti6 ?li6 ?ci6 ?vv6 ?tk6_pair ?n7_ ?cx7 ?ty7 ?ex7 ?ga7 ?gg7 ?cl7 ?hd7 ?mo7 ?kp7 ?sa7 ?ic7 ?ti7 ?li7 ?ci7 ?vv7 ?tk7_at ?n8_ ?cx8 ?ty8 ?ex8 ?ga8 ?gg8 ?cl8 ?hd8 ?mo8 ?kp8 ?sa8 ?ic8 ?ti8 ?li8 ?ci8 ?vv8 ?tk8_many ?n9_ ?cx9 ?ty9 ?ex9 ?ga9 ?gg9 ?cl9 ?hd9 ?mo9 ?kp9 ?sa9 ?ic9 ?ti9 ?li9 ?ci9 ?vv9 ?tk9_book ?n10_ ?cx10 ?ty10 ?ex10 ?ga10 ?gg10 ?cl10 ?hd10 ?mo10 ?kp10 ?sa10 ?ic10 ?ti10 ?li10 ?ci10 ?vv10 ?tk10_ring ?n11_ ?cx11 ?ty11 ?ex11 ?ga11 ?gg11 ?cl11 ?hd11 ?mo11 ?kp11 ?sa11 ?ic11 ?ti11 ?li11 ?ci11 ?vv11 ?tk11_place ?n12_ ?cx12 ?ty12 ?ex12 ?ga12 ?gg12 ?cl12 ?hd12 ?mo12 ?kp12 ?sa12 ?ic12 ?ti12 ?li12 ?ci12 ?vv12 ?tk12_place ?tk12_ring ?n13_ ?cx13 ?ty13 ?ex13 ?ga13 ?gg13 ?cl13 ?hd13 ?mo13 ?kp13 ?sa13 ?ic13 ?ti13 ?li13 ?ci13 ?vv13 ?tk13_one ?tk13_other ?n14_ ?cx14 ?ty14 ?ex14 ?ga14 ?gg14 ?cl14 ?hd14 ?mo14 ?kp14 ?sa14 ?ic14 ?ti14 ?li14 ?ci14 ?vv14 ?tk14_number ?n15_ ?cx15 ?ty15 ?ex15 ?ga15 ?gg15 ?cl15 ?hd15 ?mo15 ?kp15 ?sa15 ?ic15 ?ti15 ?li15 ?ci15 ?vv15 ?tk15_book ?n16_ ?cx16 ?ty16 ?ex16 ?ga16 ?gg16 ?cl16 ?hd16 ?mo16 ?kp16 ?sa16 ?ic16 ?ti16 ?li16 ?ci16 ?vv16 ?tk16_pair ?n17_ ?cx17 ?ty17 ?ex17 ?ga17 ?gg17 ?cl17 ?hd17 ?mo17 ?kp17 ?sa17 ?ic17 ?ti17 ?li17 ?ci17 ?vv17 ?tk17_book ?n18_ ?cx18 ?ty18 ?ex18 ?ga18 ?gg18 ?cl18 ?hd18 ?mo18 ?kp18 ?ei18 ?n19_ ?cx19 ?ty19 ?ex19 ?ga19 ?gg19 ?cl19 ?hd19 ?mo19 ?kp19 ?sa19 ?ic19 ?ti19 ?li19 ?ci19 ?vv19 ?tk19_many ?n20_ ?cx20 ?ty20 ?ex20 ?ga20 ?gg20 ?cl20 ?hd20 ?mo20 ?kp20 ?sa20 ?ic20 ?ti20 ?li20 ?ci20 ?vv20 ?tk20_many ?sp_ ?tk_ ?w_nn_Unlike ?w_s_Unlike_Unlike ?w_s_Unlike_BadText ?w_s_Unlike_BadRow ?w_s_Unlike_Own ?w_s_Unlike_NoName ?w_s_Unlike_NoBook ?w_s_Unlike_NoTie ?w_s_Unlike_NoPlace ?w_s_Unlike_NoDeed ?w_s_Unlike_MayNot ?w_s_Unlike_Barred ?w_s_Unlike_Lost ?w_s_Unlike_Gap ?w_s_Unlike_Apart ?w_s_Unlike_Stopped ?w_s_Unlike_Shared ?w_s_Unlike_Tied ?w_s_Unlike_Taken ?w_s_Unlike_Last ?w_s_Unlike_TooMany ?w_s_Unlike_Full ?w_t_Unlike_IndexError ?w_t_Unlike_KeyError ?w_t_Unlike_LookupError ?w_t_Unlike_NotImplementedError ?w_t_Unlike_OverflowError ?w_t_Unlike_RuntimeError ?w_t_Unlike_ValueError ?w_nn_BadText ?w_s_BadText_Unlike ?w_s_BadText_BadText ?w_s_BadText_BadRow ?w_s_BadText_Own ?w_s_BadText_NoName ?w_s_BadText_NoBook ?w_s_BadText_NoTie ?w_s_BadText_NoPlace ?w_s_BadText_NoDeed ?w_s_BadText_MayNot ?w_s_BadText_Barred ?w_s_BadText_Lost ?w_s_BadText_Gap ?w_s_BadText_Apart ?w_s_BadText_Stopped ?w_s_BadText_Shared ?w_s_BadText_Tied ?w_s_BadText_Taken ?w_s_BadText_Last ?w_s_BadText_TooMany ?w_s_BadText_Full ?w_t_BadText_IndexError ?w_t_BadText_KeyError ?w_t_BadText_LookupError ?w_t_BadText_NotImplementedError ?w_t_BadText_OverflowError ?w_t_BadText_RuntimeError ?w_t_BadText_ValueError ?w_f_BadText_text ?w_nn_BadRow ?w_s_BadRow_Unlike ?w_s_BadRow_BadText ?w_s_BadRow_BadRow ?w_s_BadRow_Own ?w_s_BadRow_NoName ?w_s_BadRow_NoBook ?w_s_BadRow_NoTie ?w_s_BadRow_NoPlace ?w_s_BadRow_NoDeed ?w_s_BadRow_MayNot ?w_s_BadRow_Barred ?w_s_BadRow_Lost ?w_s_BadRow_Gap ?w_s_BadRow_Apart ?w_s_BadRow_Stopped ?w_s_BadRow_Shared ?w_s_BadRow_Tied ?w_s_BadRow_Taken ?w_s_BadRow_Last ?w_s_BadRow_TooMany ?w_s_BadRow_Full ?w_t_BadRow_IndexError ?w_t_BadRow_KeyError ?w_t_BadRow_LookupError ?w_t_BadRow_NotImplementedError ?w_t_BadRow_OverflowError ?w_t_BadRow_RuntimeError ?w_t_BadRow_ValueError ?w_f_BadRow_number ?w_nn_Own ?w_s_Own_Unlike ?w_s_Own_BadText ?w_s_Own_BadRow ?w_s_Own_Own ?w_s_Own_NoName ?w_s_Own_NoBook ?w_s_Own_NoTie ?w_s_Own_NoPlace ?w_s_Own_NoDeed ?w_s_Own_MayNot ?w_s_Own_Barred ?w_s_Own_Lost ?w_s_Own_Gap ?w_s_Own_Apart ?w_s_Own_Stopped ?w_s_Own_Shared ?w_s_Own_Tied ?w_s_Own_Taken ?w_s_Own_Last ?w_s_Own_TooMany ?w_s_Own_Full ?w_t_Own_IndexError ?w_t_Own_KeyError ?w_t_Own_LookupError ?w_t_Own_NotImplementedError ?w_t_Own_OverflowError ?w_t_Own_RuntimeError ?w_t_Own_ValueError ?w_f_Own_book ?w_nn_NoName ?w_s_NoName_Unlike ?w_s_NoName_BadText ?w_s_NoName_BadRow ?w_s_NoName_Own ?w_s_NoName_NoName ?w_s_NoName_NoBook ?w_s_NoName_NoTie ?w_s_NoName_NoPlace ?w_s_NoName_NoDeed ?w_s_NoName_MayNot ?w_s_NoName_Barred ?w_s_NoName_Lost ?w_s_NoName_Gap ?w_s_NoName_Apart ?w_s_NoName_Stopped ?w_s_NoName_Shared ?w_s_NoName_Tied ?w_s_NoName_Taken ?w_s_NoName_Last ?w_s_NoName_TooMany ?w_s_NoName_Full ?w_t_NoName_IndexError ?w_t_NoName_KeyError ?w_t_NoName_LookupError ?w_t_NoName_NotImplementedError ?w_t_NoName_OverflowError ?w_t_NoName_RuntimeError ?w_t_NoName_ValueError ?w_f_NoName_book ?w_nn_NoBook ?w_s_NoBook_Unlike ?w_s_NoBook_BadText ?w_s_NoBook_BadRow ?w_s_NoBook_Own ?w_s_NoBook_NoName ?w_s_NoBook_NoBook ?w_s_NoBook_NoTie ?w_s_NoBook_NoPlace ?w_s_NoBook_NoDeed ?w_s_NoBook_MayNot ?w_s_NoBook_Barred ?w_s_NoBook_Lost ?w_s_NoBook_Gap ?w_s_NoBook_Apart ?w_s_NoBook_Stopped ?w_s_NoBook_Shared ?w_s_NoBook_Tied ?w_s_NoBook_Taken ?w_s_NoBook_Last ?w_s_NoBook_TooMany ?w_s_NoBook_Full ?w_t_NoBook_IndexError ?w_t_NoBook_KeyError ?w_t_NoBook_LookupError ?w_t_NoBook_NotImplementedError ?w_t_NoBook_OverflowError ?w_t_NoBook_RuntimeError ?w_t_NoBook_ValueError ?w_f_NoBook_book ?w_nn_NoTie ?w_s_NoTie_Unlike ?w_s_NoTie_BadText ?w_s_NoTie_BadRow ?w_s_NoTie_Own ?w_s_NoTie_NoName ?w_s_NoTie_NoBook ?w_s_NoTie_NoTie ?w_s_NoTie_NoPlace ?w_s_NoTie_NoDeed ?w_s_NoTie_MayNot ?w_s_NoTie_Barred ?w_s_NoTie_Lost ?w_s_NoTie_Gap ?w_s_NoTie_Apart ?w_s_NoTie_Stopped ?w_s_NoTie_Shared ?w_s_NoTie_Tied ?w_s_NoTie_Taken ?w_s_NoTie_Last ?w_s_NoTie_TooMany ?w_s_NoTie_Full ?w_t_NoTie_IndexError ?w_t_NoTie_KeyError ?w_t_NoTie_LookupError ?w_t_NoTie_NotImplementedError ?w_t_NoTie_OverflowError ?w_t_NoTie_RuntimeError ?w_t_NoTie_ValueError ?w_f_NoTie_pair ?w_nn_NoPlace ?w_s_NoPlace_Unlike ?w_s_NoPlace_BadText ?w_s_NoPlace_BadRow ?w_s_NoPlace_Own ?w_s_NoPlace_NoName ?w_s_NoPlace_NoBook ?w_s_NoPlace_NoTie ?w_s_NoPlace_NoPlace ?w_s_NoPlace_NoDeed ?w_s_NoPlace_MayNot ?w_s_NoPlace_Barred ?w_s_NoPlace_Lost ?w_s_NoPlace_Gap ?w_s_NoPlace_Apart ?w_s_NoPlace_Stopped ?w_s_NoPlace_Shared ?w_s_NoPlace_Tied ?w_s_NoPlace_Taken ?w_s_NoPlace_Last ?w_s_NoPlace_TooMany ?w_s_NoPlace_Full ?w_t_NoPlace_IndexError ?w_t_NoPlace_KeyError ?w_t_NoPlace_LookupError ?w_t_NoPlace_NotImplementedError ?w_t_NoPlace_OverflowError ?w_t_NoPlace_RuntimeError ?w_t_NoPlace_ValueError ?w_f_NoPlace_at ?w_nn_NoDeed ?w_s_NoDeed_Unlike ?w_s_NoDeed_BadText ?w_s_NoDeed_BadRow ?w_s_NoDeed_Own ?w_s_NoDeed_NoName ?w_s_NoDeed_NoBook ?w_s_NoDeed_NoTie ?w_s_NoDeed_NoPlace ?w_s_NoDeed_NoDeed ?w_s_NoDeed_MayNot ?w_s_NoDeed_Barred ?w_s_NoDeed_Lost ?w_s_NoDeed_Gap ?w_s_NoDeed_Apart ?w_s_NoDeed_Stopped ?w_s_NoDeed_Shared ?w_s_NoDeed_Tied ?w_s_NoDeed_Taken ?w_s_NoDeed_Last ?w_s_NoDeed_TooMany ?w_s_NoDeed_Full ?w_t_NoDeed_IndexError ?w_t_NoDeed_KeyError ?w_t_NoDeed_LookupError ?w_t_NoDeed_NotImplementedError ?w_t_NoDeed_OverflowError ?w_t_NoDeed_RuntimeError ?w_t_NoDeed_ValueError ?w_f_NoDeed_many ?w_nn_MayNot ?w_s_MayNot_Unlike ?w_s_MayNot_BadText ?w_s_MayNot_BadRow ?w_s_MayNot_Own ?w_s_MayNot_NoName ?w_s_MayNot_NoBook ?w_s_MayNot_NoTie ?w_s_MayNot_NoPlace ?w_s_MayNot_NoDeed ?w_s_MayNot_MayNot ?w_s_MayNot_Barred ?w_s_MayNot_Lost ?w_s_MayNot_Gap ?w_s_MayNot_Apart ?w_s_MayNot_Stopped ?w_s_MayNot_Shared ?w_s_MayNot_Tied ?w_s_MayNot_Taken ?w_s_MayNot_Last ?w_s_MayNot_TooMany ?w_s_MayNot_Full ?w_t_MayNot_IndexError ?w_t_MayNot_KeyError ?w_t_MayNot_LookupError ?w_t_MayNot_NotImplementedError ?w_t_MayNot_OverflowError ?w_t_MayNot_RuntimeError ?w_t_MayNot_ValueError ?w_f_MayNot_book ?w_nn_Barred ?w_s_Barred_Unlike ?w_s_Barred_BadText ?w_s_Barred_BadRow ?w_s_Barred_Own ?w_s_Barred_NoName ?w_s_Barred_NoBook ?w_s_Barred_NoTie ?w_s_Barred_NoPlace ?w_s_Barred_NoDeed ?w_s_Barred_MayNot ?w_s_Barred_Barred ?w_s_Barred_Lost ?w_s_Barred_Gap ?w_s_Barred_Apart ?w_s_Barred_Stopped ?w_s_Barred_Shared ?w_s_Barred_Tied ?w_s_Barred_Taken ?w_s_Barred_Last ?w_s_Barred_TooMany ?w_s_Barred_Full ?w_t_Barred_IndexError ?w_t_Barred_KeyError ?w_t_Barred_LookupError ?w_t_Barred_NotImplementedError ?w_t_Barred_OverflowError ?w_t_Barred_RuntimeError ?w_t_Barred_ValueError ?w_f_Barred_ring ?w_nn_Lost ?w_s_Lost_Unlike ?w_s_Lost_BadText ?w_s_Lost_BadRow ?w_s_Lost_Own ?w_s_Lost_NoName ?w_s_Lost_NoBook ?w_s_Lost_NoTie ?w_s_Lost_NoPlace ?w_s_Lost_NoDeed ?w_s_Lost_MayNot ?w_s_Lost_Barred ?w_s_Lost_Lost ?w_s_Lost_Gap ?w_s_Lost_Apart ?w_s_Lost_Stopped ?w_s_Lost_Shared ?w_s_Lost_Tied ?w_s_Lost_Taken ?w_s_Lost_Last ?w_s_Lost_TooMany ?w_s_Lost_Full ?w_t_Lost_IndexError ?w_t_Lost_KeyError ?w_t_Lost_LookupError ?w_t_Lost_NotImplementedError ?w_t_Lost_OverflowError ?w_t_Lost_RuntimeError ?w_t_Lost_ValueError ?w_f_Lost_place ?w_nn_Gap ?w_s_Gap_Unlike ?w_s_Gap_BadText ?w_s_Gap_BadRow ?w_s_Gap_Own ?w_s_Gap_NoName ?w_s_Gap_NoBook ?w_s_Gap_NoTie ?w_s_Gap_NoPlace ?w_s_Gap_NoDeed ?w_s_Gap_MayNot ?w_s_Gap_Barred ?w_s_Gap_Lost ?w_s_Gap_Gap ?w_s_Gap_Apart ?w_s_Gap_Stopped ?w_s_Gap_Shared ?w_s_Gap_Tied ?w_s_Gap_Taken ?w_s_Gap_Last ?w_s_Gap_TooMany ?w_s_Gap_Full ?w_t_Gap_IndexError ?w_t_Gap_KeyError ?w_t_Gap_LookupError ?w_t_Gap_NotImplementedError ?w_t_Gap_OverflowError ?w_t_Gap_RuntimeError ?w_t_Gap_ValueError ?w_f_Gap_place ?w_f_Gap_ring ?w_nn_Apart ?w_s_Apart_Unlike ?w_s_Apart_BadText ?w_s_Apart_BadRow ?w_s_Apart_Own ?w_s_Apart_NoName ?w_s_Apart_NoBook ?w_s_Apart_NoTie ?w_s_Apart_NoPlace ?w_s_Apart_NoDeed ?w_s_Apart_MayNot ?w_s_Apart_Barred ?w_s_Apart_Lost ?w_s_Apart_Gap ?w_s_Apart_Apart ?w_s_Apart_Stopped ?w_s_Apart_Shared ?w_s_Apart_Tied ?w_s_Apart_Taken ?w_s_Apart_Last ?w_s_Apart_TooMany ?w_s_Apart_Full ?w_t_Apart_IndexError ?w_t_Apart_KeyError ?w_t_Apart_LookupError ?w_t_Apart_NotImplementedError ?w_t_Apart_OverflowError ?w_t_Apart_RuntimeError ?w_t_Apart_ValueError ?w_f_Apart_one ?w_f_Apart_other ?w_nn_Stopped ?w_s_Stopped_Unlike ?w_s_Stopped_BadText ?w_s_Stopped_BadRow ?w_s_Stopped_Own ?w_s_Stopped_NoName ?w_s_Stopped_NoBook ?w_s_Stopped_NoTie ?w_s_Stopped_NoPlace ?w_s_Stopped_NoDeed ?w_s_Stopped_MayNot ?w_s_Stopped_Barred ?w_s_Stopped_Lost ?w_s_Stopped_Gap ?w_s_Stopped_Apart ?w_s_Stopped_Stopped ?w_s_Stopped_Shared ?w_s_Stopped_Tied ?w_s_Stopped_Taken ?w_s_Stopped_Last ?w_s_Stopped_TooMany ?w_s_Stopped_Full ?w_t_Stopped_IndexError ?w_t_Stopped_KeyError ?w_t_Stopped_LookupError ?w_t_Stopped_NotImplementedError ?w_t_Stopped_OverflowError ?w_t_Stopped_RuntimeError ?w_t_Stopped_ValueError ?w_f_Stopped_number ?w_nn_Shared ?w_s_Shared_Unlike ?w_s_Shared_BadText ?w_s_Shared_BadRow ?w_s_Shared_Own ?w_s_Shared_NoName ?w_s_Shared_NoBook ?w_s_Shared_NoTie ?w_s_Shared_NoPlace ?w_s_Shared_NoDeed ?w_s_Shared_MayNot ?w_s_Shared_Barred ?w_s_Shared_Lost ?w_s_Shared_Gap ?w_s_Shared_Apart ?w_s_Shared_Stopped ?w_s_Shared_Shared ?w_s_Shared_Tied ?w_s_Shared_Taken ?w_s_Shared_Last ?w_s_Shared_TooMany ?w_s_Shared_Full ?w_t_Shared_IndexError ?w_t_Shared_KeyError ?w_t_Shared_LookupError ?w_t_Shared_NotImplementedError ?w_t_Shared_OverflowError ?w_t_Shared_RuntimeError ?w_t_Shared_ValueError ?w_f_Shared_book ?w_nn_Tied ?w_s_Tied_Unlike ?w_s_Tied_BadText ?w_s_Tied_BadRow ?w_s_Tied_Own ?w_s_Tied_NoName ?w_s_Tied_NoBook ?w_s_Tied_NoTie ?w_s_Tied_NoPlace ?w_s_Tied_NoDeed ?w_s_Tied_MayNot ?w_s_Tied_Barred ?w_s_Tied_Lost ?w_s_Tied_Gap ?w_s_Tied_Apart ?w_s_Tied_Stopped ?w_s_Tied_Shared ?w_s_Tied_Tied ?w_s_Tied_Taken ?w_s_Tied_Last ?w_s_Tied_TooMany ?w_s_Tied_Full ?w_t_Tied_IndexError ?w_t_Tied_KeyError ?w_t_Tied_LookupError ?w_t_Tied_NotImplementedError ?w_t_Tied_OverflowError ?w_t_Tied_RuntimeError ?w_t_Tied_ValueError ?w_f_Tied_pair ?w_nn_Taken ?w_s_Taken_Unlike ?w_s_Taken_BadText ?w_s_Taken_BadRow ?w_s_Taken_Own ?w_s_Taken_NoName ?w_s_Taken_NoBook ?w_s_Taken_NoTie ?w_s_Taken_NoPlace ?w_s_Taken_NoDeed ?w_s_Taken_MayNot ?w_s_Taken_Barred ?w_s_Taken_Lost ?w_s_Taken_Gap ?w_s_Taken_Apart ?w_s_Taken_Stopped ?w_s_Taken_Shared ?w_s_Taken_Tied ?w_s_Taken_Taken ?w_s_Taken_Last ?w_s_Taken_TooMany ?w_s_Taken_Full ?w_t_Taken_IndexError ?w_t_Taken_KeyError ?w_t_Taken_LookupError ?w_t_Taken_NotImplementedError ?w_t_Taken_OverflowError ?w_t_Taken_RuntimeError ?w_t_Taken_ValueError ?w_f_Taken_book ?w_nn_Last ?w_s_Last_Unlike ?w_s_Last_BadText ?w_s_Last_BadRow ?w_s_Last_Own ?w_s_Last_NoName ?w_s_Last_NoBook ?w_s_Last_NoTie ?w_s_Last_NoPlace ?w_s_Last_NoDeed ?w_s_Last_MayNot ?w_s_Last_Barred ?w_s_Last_Lost ?w_s_Last_Gap ?w_s_Last_Apart ?w_s_Last_Stopped ?w_s_Last_Shared ?w_s_Last_Tied ?w_s_Last_Taken ?w_s_Last_Last ?w_s_Last_TooMany ?w_s_Last_Full ?w_t_Last_IndexError ?w_t_Last_KeyError ?w_t_Last_LookupError ?w_t_Last_NotImplementedError ?w_t_Last_OverflowError ?w_t_Last_RuntimeError ?w_t_Last_ValueError ?w_nn_TooMany ?w_s_TooMany_Unlike ?w_s_TooMany_BadText ?w_s_TooMany_BadRow ?w_s_TooMany_Own ?w_s_TooMany_NoName ?w_s_TooMany_NoBook ?w_s_TooMany_NoTie ?w_s_TooMany_NoPlace ?w_s_TooMany_NoDeed ?w_s_TooMany_MayNot ?w_s_TooMany_Barred ?w_s_TooMany_Lost ?w_s_TooMany_Gap ?w_s_TooMany_Apart ?w_s_TooMany_Stopped ?w_s_TooMany_Shared ?w_s_TooMany_Tied ?w_s_TooMany_Taken ?w_s_TooMany_Last ?w_s_TooMany_TooMany ?w_s_TooMany_Full ?w_t_TooMany_IndexError ?w_t_TooMany_KeyError ?w_t_TooMany_LookupError ?w_t_TooMany_NotImplementedError ?w_t_TooMany_OverflowError ?w_t_TooMany_RuntimeError ?w_t_TooMany_ValueError ?w_f_TooMany_many ?w_nn_Full ?w_s_Full_Unlike ?w_s_Full_BadText ?w_s_Full_BadRow ?w_s_Full_Own ?w_s_Full_NoName ?w_s_Full_NoBook ?w_s_Full_NoTie ?w_s_Full_NoPlace ?w_s_Full_NoDeed ?w_s_Full_MayNot ?w_s_Full_Barred ?w_s_Full_Lost ?w_s_Full_Gap ?w_s_Full_Apart ?w_s_Full_Stopped ?w_s_Full_Shared ?w_s_Full_Tied ?w_s_Full_Taken ?w_s_Full_Last ?w_s_Full_TooMany ?w_s_Full_Full ?w_t_Full_IndexError ?w_t_Full_KeyError ?w_t_Full_LookupError ?w_t_Full_NotImplementedError ?w_t_Full_OverflowError ?w_t_Full_RuntimeError ?w_t_Full_ValueError ?w_f_Full_many ?w_nt_IndexError ?w_nt_KeyError ?w_nt_LookupError ?w_nt_NotImplementedError ?w_nt_OverflowError ?w_nt_RuntimeError ?w_nt_ValueError
    (case a0 => first | k_is | k_exc)
    (case l0 => first | k_is | k_exc)
    (case c0 => first | k_is | k_exc)
    (case k0 => first | k_is | k_exc)
    (case a1 => first | k_is | k_exc)
    (case l1 => first | k_is | k_exc)
    (case c1 => first | k_is | k_exc)
    (case k1 => first | k_is | k_exc)
    (case a2 => first | k_is | k_exc)
    (case l2 => first | k_is | k_exc)
    (case c2 => first | k_is | k_exc)
    (case k2 => first | k_is | k_exc)
    (case a3 => first | k_is | k_exc)
    (case l3 => first | k_is | k_exc)
    (case c3 => first | k_is | k_exc)
    (case k3 => first | k_is | k_exc)
    (case a4 => first | k_is | k_exc)
    (case l4 => first | k_is | k_exc)
    (case c4 => first | k_is | k_exc)
    (case k4 => first | k_is | k_exc)
    (case a5 => first | k_is | k_exc)
    (case l5 => first | k_is | k_exc)
    (case c5 => first | k_is | k_exc)
    (case k5 => first | k_is | k_exc)
    (case a6 => first | k_is | k_exc)
    (case l6 => first | k_is | k_exc)
    (case c6 => first | k_is | k_exc)
    (case k6 => first | k_is | k_exc)
    (case a7 => first | k_is | k_exc)
    (case l7 => first | k_is | k_exc)
    (case c7 => first | k_is | k_exc)
    (case k7 => first | k_is | k_exc)
    (case a8 => first | k_is | k_exc)
    (case l8 => first | k_is | k_exc)
    (case c8 => first | k_is | k_exc)
    (case k8 => first | k_is | k_exc)
    (case z0 => first | k_is | k_exc)
    (case z1 => first | k_is | k_exc)
    (case z2 => first | k_is | k_exc)
    (case z3 => first | k_is | k_exc)
    (case z4 => first | k_is | k_exc)
    (case z5 => first | k_is | k_exc)
    (case z6 => first | k_is | k_exc)
    (case z7 => first | k_is | k_exc)
    (case z8 => first | k_is | k_exc)
    (case z9 => first | k_is | k_exc)
    (case z10 => first | k_is | k_exc)
    (case z11 => first | k_is | k_exc)
    (case z12 => first | k_is | k_exc)
    (case z13 => first | k_is | k_exc)
    (case z14 => first | k_is | k_exc)
    (case z15 => first | k_is | k_exc)
    (case z16 => first | k_is | k_exc)
    (case y0 => first | k_is | k_exc)
    (case y1 => first | k_is | k_exc)
    (case y2 => first | k_is | k_exc)
    (case y3 => first | k_is | k_exc)
    (case n0_ => first | k_is | k_exc)
    (case cx0 => first | k_is | k_exc)
    (case ty0 => first | k_is | k_exc)
    (case ex0 => first | k_is | k_exc)
    (case ga0 => first | k_is | k_exc)
    (case gg0 => first | k_is | k_exc)
    (case cl0 => first | k_is | k_exc)
    (case hd0 => first | k_is | k_exc)
    (case mo0 => first | k_is | k_exc)
    (case kp0 => first | k_is | k_exc)
    (case ei0 => first | k_is | k_exc)
    (case n1_ => first | k_is | k_exc)
    (case cx1 => first | k_is | k_exc)
    (case ty1 => first | k_is | k_exc)
    (case ex1 => first | k_is | k_exc)
    (case ga1 => first | k_is | k_exc)
    (case gg1 => first | k_is | k_exc)
    (case cl1 => first | k_is | k_exc)
    (case hd1 => first | k_is | k_exc)
    (case mo1 => first | k_is | k_exc)
    (case kp1 => first | k_is | k_exc)
    (case sa1 => first | k_is | k_exc)
    (case ic1 => first | k_is | k_exc)
    (case ti1 => first | k_is | k_exc)
    (case li1 => first | k_is | k_exc)
    (case ci1 => first | k_is | k_exc)
    (case vv1 => first | k_is | k_exc)
    (case tk1_text => first | k_is | k_exc)
    (case n2_ => first | k_is | k_exc)
    (case cx2 => first | k_is | k_exc)
    (case ty2 => first | k_is | k_exc)
    (case ex2 => first | k_is | k_exc)
    (case ga2 => first | k_is | k_exc)
    (case gg2 => first | k_is | k_exc)
    (case cl2 => first | k_is | k_exc)
    (case hd2 => first | k_is | k_exc)
    (case mo2 => first | k_is | k_exc)
    (case kp2 => first | k_is | k_exc)
    (case sa2 => first | k_is | k_exc)
    (case ic2 => first | k_is | k_exc)
    (case ti2 => first | k_is | k_exc)
    (case li2 => first | k_is | k_exc)
    (case ci2 => first | k_is | k_exc)
    (case vv2 => first | k_is | k_exc)
    (case tk2_number => first | k_is | k_exc)
    (case n3_ => first | k_is | k_exc)
    (case cx3 => first | k_is | k_exc)
    (case ty3 => first | k_is | k_exc)
    (case ex3 => first | k_is | k_exc)
    (case ga3 => first | k_is | k_exc)
    (case gg3 => first | k_is | k_exc)
    (case cl3 => first | k_is | k_exc)
    (case hd3 => first | k_is | k_exc)
    (case mo3 => first | k_is | k_exc)
    (case kp3 => first | k_is | k_exc)
    (case sa3 => first | k_is | k_exc)
    (case ic3 => first | k_is | k_exc)
    (case ti3 => first | k_is | k_exc)
    (case li3 => first | k_is | k_exc)
    (case ci3 => first | k_is | k_exc)
    (case vv3 => first | k_is | k_exc)
    (case tk3_book => first | k_is | k_exc)
    (case n4_ => first | k_is | k_exc)
    (case cx4 => first | k_is | k_exc)
    (case ty4 => first | k_is | k_exc)
    (case ex4 => first | k_is | k_exc)
    (case ga4 => first | k_is | k_exc)
    (case gg4 => first | k_is | k_exc)
    (case cl4 => first | k_is | k_exc)
    (case hd4 => first | k_is | k_exc)
    (case mo4 => first | k_is | k_exc)
    (case kp4 => first | k_is | k_exc)
    (case sa4 => first | k_is | k_exc)
    (case ic4 => first | k_is | k_exc)
    (case ti4 => first | k_is | k_exc)
    (case li4 => first | k_is | k_exc)
    (case ci4 => first | k_is | k_exc)
    (case vv4 => first | k_is | k_exc)
    (case tk4_book => first | k_is | k_exc)
    (case n5_ => first | k_is | k_exc)
    (case cx5 => first | k_is | k_exc)
    (case ty5 => first | k_is | k_exc)
    (case ex5 => first | k_is | k_exc)
    (case ga5 => first | k_is | k_exc)
    (case gg5 => first | k_is | k_exc)
    (case cl5 => first | k_is | k_exc)
    (case hd5 => first | k_is | k_exc)
    (case mo5 => first | k_is | k_exc)
    (case kp5 => first | k_is | k_exc)
    (case sa5 => first | k_is | k_exc)
    (case ic5 => first | k_is | k_exc)
    (case ti5 => first | k_is | k_exc)
    (case li5 => first | k_is | k_exc)
    (case ci5 => first | k_is | k_exc)
    (case vv5 => first | k_is | k_exc)
    (case tk5_book => first | k_is | k_exc)
    (case n6_ => first | k_is | k_exc)
    (case cx6 => first | k_is | k_exc)
    (case ty6 => first | k_is | k_exc)
    (case ex6 => first | k_is | k_exc)
    (case ga6 => first | k_is | k_exc)
    (case gg6 => first | k_is | k_exc)
    (case cl6 => first | k_is | k_exc)
    (case hd6 => first | k_is | k_exc)
    (case mo6 => first | k_is | k_exc)
    (case kp6 => first | k_is | k_exc)
    (case sa6 => first | k_is | k_exc)
    (case ic6 => first | k_is | k_exc)
    (case ti6 => first | k_is | k_exc)
    (case li6 => first | k_is | k_exc)
    (case ci6 => first | k_is | k_exc)
    (case vv6 => first | k_is | k_exc)
    (case tk6_pair => first | k_is | k_exc)
    (case n7_ => first | k_is | k_exc)
    (case cx7 => first | k_is | k_exc)
    (case ty7 => first | k_is | k_exc)
    (case ex7 => first | k_is | k_exc)
    (case ga7 => first | k_is | k_exc)
    (case gg7 => first | k_is | k_exc)
    (case cl7 => first | k_is | k_exc)
    (case hd7 => first | k_is | k_exc)
    (case mo7 => first | k_is | k_exc)
    (case kp7 => first | k_is | k_exc)
    (case sa7 => first | k_is | k_exc)
    (case ic7 => first | k_is | k_exc)
    (case ti7 => first | k_is | k_exc)
    (case li7 => first | k_is | k_exc)
    (case ci7 => first | k_is | k_exc)
    (case vv7 => first | k_is | k_exc)
    (case tk7_at => first | k_is | k_exc)
    (case n8_ => first | k_is | k_exc)
    (case cx8 => first | k_is | k_exc)
    (case ty8 => first | k_is | k_exc)
    (case ex8 => first | k_is | k_exc)
    (case ga8 => first | k_is | k_exc)
    (case gg8 => first | k_is | k_exc)
    (case cl8 => first | k_is | k_exc)
    (case hd8 => first | k_is | k_exc)
    (case mo8 => first | k_is | k_exc)
    (case kp8 => first | k_is | k_exc)
    (case sa8 => first | k_is | k_exc)
    (case ic8 => first | k_is | k_exc)
    (case ti8 => first | k_is | k_exc)
    (case li8 => first | k_is | k_exc)
    (case ci8 => first | k_is | k_exc)
    (case vv8 => first | k_is | k_exc)
    (case tk8_many => first | k_is | k_exc)
    (case n9_ => first | k_is | k_exc)
    (case cx9 => first | k_is | k_exc)
    (case ty9 => first | k_is | k_exc)
    (case ex9 => first | k_is | k_exc)
    (case ga9 => first | k_is | k_exc)
    (case gg9 => first | k_is | k_exc)
    (case cl9 => first | k_is | k_exc)
    (case hd9 => first | k_is | k_exc)
    (case mo9 => first | k_is | k_exc)
    (case kp9 => first | k_is | k_exc)
    (case sa9 => first | k_is | k_exc)
    (case ic9 => first | k_is | k_exc)
    (case ti9 => first | k_is | k_exc)
    (case li9 => first | k_is | k_exc)
    (case ci9 => first | k_is | k_exc)
    (case vv9 => first | k_is | k_exc)
    (case tk9_book => first | k_is | k_exc)
    (case n10_ => first | k_is | k_exc)
    (case cx10 => first | k_is | k_exc)
    (case ty10 => first | k_is | k_exc)
    (case ex10 => first | k_is | k_exc)
    (case ga10 => first | k_is | k_exc)
    (case gg10 => first | k_is | k_exc)
    (case cl10 => first | k_is | k_exc)
    (case hd10 => first | k_is | k_exc)
    (case mo10 => first | k_is | k_exc)
    (case kp10 => first | k_is | k_exc)
    (case sa10 => first | k_is | k_exc)
    (case ic10 => first | k_is | k_exc)
    (case ti10 => first | k_is | k_exc)
    (case li10 => first | k_is | k_exc)
    (case ci10 => first | k_is | k_exc)
    (case vv10 => first | k_is | k_exc)
    (case tk10_ring => first | k_is | k_exc)
    (case n11_ => first | k_is | k_exc)
    (case cx11 => first | k_is | k_exc)
    (case ty11 => first | k_is | k_exc)
    (case ex11 => first | k_is | k_exc)
    (case ga11 => first | k_is | k_exc)
    (case gg11 => first | k_is | k_exc)
    (case cl11 => first | k_is | k_exc)
    (case hd11 => first | k_is | k_exc)
    (case mo11 => first | k_is | k_exc)
    (case kp11 => first | k_is | k_exc)
    (case sa11 => first | k_is | k_exc)
    (case ic11 => first | k_is | k_exc)
    (case ti11 => first | k_is | k_exc)
    (case li11 => first | k_is | k_exc)
    (case ci11 => first | k_is | k_exc)
    (case vv11 => first | k_is | k_exc)
    (case tk11_place => first | k_is | k_exc)
    (case n12_ => first | k_is | k_exc)
    (case cx12 => first | k_is | k_exc)
    (case ty12 => first | k_is | k_exc)
    (case ex12 => first | k_is | k_exc)
    (case ga12 => first | k_is | k_exc)
    (case gg12 => first | k_is | k_exc)
    (case cl12 => first | k_is | k_exc)
    (case hd12 => first | k_is | k_exc)
    (case mo12 => first | k_is | k_exc)
    (case kp12 => first | k_is | k_exc)
    (case sa12 => first | k_is | k_exc)
    (case ic12 => first | k_is | k_exc)
    (case ti12 => first | k_is | k_exc)
    (case li12 => first | k_is | k_exc)
    (case ci12 => first | k_is | k_exc)
    (case vv12 => first | k_is | k_exc)
    (case tk12_place => first | k_is | k_exc)
    (case tk12_ring => first | k_is | k_exc)
    (case n13_ => first | k_is | k_exc)
    (case cx13 => first | k_is | k_exc)
    (case ty13 => first | k_is | k_exc)
    (case ex13 => first | k_is | k_exc)
    (case ga13 => first | k_is | k_exc)
    (case gg13 => first | k_is | k_exc)
    (case cl13 => first | k_is | k_exc)
    (case hd13 => first | k_is | k_exc)
    (case mo13 => first | k_is | k_exc)
    (case kp13 => first | k_is | k_exc)
    (case sa13 => first | k_is | k_exc)
    (case ic13 => first | k_is | k_exc)
    (case ti13 => first | k_is | k_exc)
    (case li13 => first | k_is | k_exc)
    (case ci13 => first | k_is | k_exc)
    (case vv13 => first | k_is | k_exc)
    (case tk13_one => first | k_is | k_exc)
    (case tk13_other => first | k_is | k_exc)
    (case n14_ => first | k_is | k_exc)
    (case cx14 => first | k_is | k_exc)
    (case ty14 => first | k_is | k_exc)
    (case ex14 => first | k_is | k_exc)
    (case ga14 => first | k_is | k_exc)
    (case gg14 => first | k_is | k_exc)
    (case cl14 => first | k_is | k_exc)
    (case hd14 => first | k_is | k_exc)
    (case mo14 => first | k_is | k_exc)
    (case kp14 => first | k_is | k_exc)
    (case sa14 => first | k_is | k_exc)
    (case ic14 => first | k_is | k_exc)
    (case ti14 => first | k_is | k_exc)
    (case li14 => first | k_is | k_exc)
    (case ci14 => first | k_is | k_exc)
    (case vv14 => first | k_is | k_exc)
    (case tk14_number => first | k_is | k_exc)
    (case n15_ => first | k_is | k_exc)
    (case cx15 => first | k_is | k_exc)
    (case ty15 => first | k_is | k_exc)
    (case ex15 => first | k_is | k_exc)
    (case ga15 => first | k_is | k_exc)
    (case gg15 => first | k_is | k_exc)
    (case cl15 => first | k_is | k_exc)
    (case hd15 => first | k_is | k_exc)
    (case mo15 => first | k_is | k_exc)
    (case kp15 => first | k_is | k_exc)
    (case sa15 => first | k_is | k_exc)
    (case ic15 => first | k_is | k_exc)
    (case ti15 => first | k_is | k_exc)
    (case li15 => first | k_is | k_exc)
    (case ci15 => first | k_is | k_exc)
    (case vv15 => first | k_is | k_exc)
    (case tk15_book => first | k_is | k_exc)
    (case n16_ => first | k_is | k_exc)
    (case cx16 => first | k_is | k_exc)
    (case ty16 => first | k_is | k_exc)
    (case ex16 => first | k_is | k_exc)
    (case ga16 => first | k_is | k_exc)
    (case gg16 => first | k_is | k_exc)
    (case cl16 => first | k_is | k_exc)
    (case hd16 => first | k_is | k_exc)
    (case mo16 => first | k_is | k_exc)
    (case kp16 => first | k_is | k_exc)
    (case sa16 => first | k_is | k_exc)
    (case ic16 => first | k_is | k_exc)
    (case ti16 => first | k_is | k_exc)
    (case li16 => first | k_is | k_exc)
    (case ci16 => first | k_is | k_exc)
    (case vv16 => first | k_is | k_exc)
    (case tk16_pair => first | k_is | k_exc)
    (case n17_ => first | k_is | k_exc)
    (case cx17 => first | k_is | k_exc)
    (case ty17 => first | k_is | k_exc)
    (case ex17 => first | k_is | k_exc)
    (case ga17 => first | k_is | k_exc)
    (case gg17 => first | k_is | k_exc)
    (case cl17 => first | k_is | k_exc)
    (case hd17 => first | k_is | k_exc)
    (case mo17 => first | k_is | k_exc)
    (case kp17 => first | k_is | k_exc)
    (case sa17 => first | k_is | k_exc)
    (case ic17 => first | k_is | k_exc)
    (case ti17 => first | k_is | k_exc)
    (case li17 => first | k_is | k_exc)
    (case ci17 => first | k_is | k_exc)
    (case vv17 => first | k_is | k_exc)
    (case tk17_book => first | k_is | k_exc)
    (case n18_ => first | k_is | k_exc)
    (case cx18 => first | k_is | k_exc)
    (case ty18 => first | k_is | k_exc)
    (case ex18 => first | k_is | k_exc)
    (case ga18 => first | k_is | k_exc)
    (case gg18 => first | k_is | k_exc)
    (case cl18 => first | k_is | k_exc)
    (case hd18 => first | k_is | k_exc)
    (case mo18 => first | k_is | k_exc)
    (case kp18 => first | k_is | k_exc)
    (case ei18 => first | k_is | k_exc)
    (case n19_ => first | k_is | k_exc)
    (case cx19 => first | k_is | k_exc)
    (case ty19 => first | k_is | k_exc)
    (case ex19 => first | k_is | k_exc)
    (case ga19 => first | k_is | k_exc)
    (case gg19 => first | k_is | k_exc)
    (case cl19 => first | k_is | k_exc)
    (case hd19 => first | k_is | k_exc)
    (case mo19 => first | k_is | k_exc)
    (case kp19 => first | k_is | k_exc)
    (case sa19 => first | k_is | k_exc)
    (case ic19 => first | k_is | k_exc)
    (case ti19 => first | k_is | k_exc)
    (case li19 => first | k_is | k_exc)
    (case ci19 => first | k_is | k_exc)
    (case vv19 => first | k_is | k_exc)
    (case tk19_many => first | k_is | k_exc)
    (case n20_ => first | k_is | k_exc)
    (case cx20 => first | k_is | k_exc)
    (case ty20 => first | k_is | k_exc)
    (case ex20 => first | k_is | k_exc)
    (case ga20 => first | k_is | k_exc)
    (case gg20 => first | k_is | k_exc)
    (case cl20 => first | k_is | k_exc)
    (case hd20 => first | k_is | k_exc)
    (case mo20 => first | k_is | k_exc)
    (case kp20 => first | k_is | k_exc)
    (case sa20 => first | k_is | k_exc)
    (case ic20 => first | k_is | k_exc)
    (case ti20 => first | k_is | k_exc)
    (case li20 => first | k_is | k_exc)
    (case ci20 => first | k_is | k_exc)
    (case vv20 => first | k_is | k_exc)
    (case tk20_many => first | k_is | k_exc)
    (case sp_ => first | k_is | k_exc)
    (case tk_ => first | k_is | k_exc)
    (case w_nn_Unlike => first | k_is | k_exc)
    (case w_s_Unlike_Unlike => first | k_is | k_exc)
    (case w_s_Unlike_BadText => first | k_is | k_exc)
    (case w_s_Unlike_BadRow => first | k_is | k_exc)
    (case w_s_Unlike_Own => first | k_is | k_exc)
    (case w_s_Unlike_NoName => first | k_is | k_exc)
    (case w_s_Unlike_NoBook => first | k_is | k_exc)
    (case w_s_Unlike_NoTie => first | k_is | k_exc)
    (case w_s_Unlike_NoPlace => first | k_is | k_exc)
    (case w_s_Unlike_NoDeed => first | k_is | k_exc)
    (case w_s_Unlike_MayNot => first | k_is | k_exc)
    (case w_s_Unlike_Barred => first | k_is | k_exc)
    (case w_s_Unlike_Lost => first | k_is | k_exc)
    (case w_s_Unlike_Gap => first | k_is | k_exc)
    (case w_s_Unlike_Apart => first | k_is | k_exc)
    (case w_s_Unlike_Stopped => first | k_is | k_exc)
    (case w_s_Unlike_Shared => first | k_is | k_exc)
    (case w_s_Unlike_Tied => first | k_is | k_exc)
    (case w_s_Unlike_Taken => first | k_is | k_exc)
    (case w_s_Unlike_Last => first | k_is | k_exc)
    (case w_s_Unlike_TooMany => first | k_is | k_exc)
    (case w_s_Unlike_Full => first | k_is | k_exc)
    (case w_t_Unlike_IndexError => first | k_is | k_exc)
    (case w_t_Unlike_KeyError => first | k_is | k_exc)
    (case w_t_Unlike_LookupError => first | k_is | k_exc)
    (case w_t_Unlike_NotImplementedError => first | k_is | k_exc)
    (case w_t_Unlike_OverflowError => first | k_is | k_exc)
    (case w_t_Unlike_RuntimeError => first | k_is | k_exc)
    (case w_t_Unlike_ValueError => first | k_is | k_exc)
    (case w_nn_BadText => first | k_is | k_exc)
    (case w_s_BadText_Unlike => first | k_is | k_exc)
    (case w_s_BadText_BadText => first | k_is | k_exc)
    (case w_s_BadText_BadRow => first | k_is | k_exc)
    (case w_s_BadText_Own => first | k_is | k_exc)
    (case w_s_BadText_NoName => first | k_is | k_exc)
    (case w_s_BadText_NoBook => first | k_is | k_exc)
    (case w_s_BadText_NoTie => first | k_is | k_exc)
    (case w_s_BadText_NoPlace => first | k_is | k_exc)
    (case w_s_BadText_NoDeed => first | k_is | k_exc)
    (case w_s_BadText_MayNot => first | k_is | k_exc)
    (case w_s_BadText_Barred => first | k_is | k_exc)
    (case w_s_BadText_Lost => first | k_is | k_exc)
    (case w_s_BadText_Gap => first | k_is | k_exc)
    (case w_s_BadText_Apart => first | k_is | k_exc)
    (case w_s_BadText_Stopped => first | k_is | k_exc)
    (case w_s_BadText_Shared => first | k_is | k_exc)
    (case w_s_BadText_Tied => first | k_is | k_exc)
    (case w_s_BadText_Taken => first | k_is | k_exc)
    (case w_s_BadText_Last => first | k_is | k_exc)
    (case w_s_BadText_TooMany => first | k_is | k_exc)
    (case w_s_BadText_Full => first | k_is | k_exc)
    (case w_t_BadText_IndexError => first | k_is | k_exc)
    (case w_t_BadText_KeyError => first | k_is | k_exc)
    (case w_t_BadText_LookupError => first | k_is | k_exc)
    (case w_t_BadText_NotImplementedError => first | k_is | k_exc)
    (case w_t_BadText_OverflowError => first | k_is | k_exc)
    (case w_t_BadText_RuntimeError => first | k_is | k_exc)
    (case w_t_BadText_ValueError => first | k_is | k_exc)
    (case w_f_BadText_text => first | k_is | k_exc)
    (case w_nn_BadRow => first | k_is | k_exc)
    (case w_s_BadRow_Unlike => first | k_is | k_exc)
    (case w_s_BadRow_BadText => first | k_is | k_exc)
    (case w_s_BadRow_BadRow => first | k_is | k_exc)
    (case w_s_BadRow_Own => first | k_is | k_exc)
    (case w_s_BadRow_NoName => first | k_is | k_exc)
    (case w_s_BadRow_NoBook => first | k_is | k_exc)
    (case w_s_BadRow_NoTie => first | k_is | k_exc)
    (case w_s_BadRow_NoPlace => first | k_is | k_exc)
    (case w_s_BadRow_NoDeed => first | k_is | k_exc)
    (case w_s_BadRow_MayNot => first | k_is | k_exc)
    (case w_s_BadRow_Barred => first | k_is | k_exc)
    (case w_s_BadRow_Lost => first | k_is | k_exc)
    (case w_s_BadRow_Gap => first | k_is | k_exc)
    (case w_s_BadRow_Apart => first | k_is | k_exc)
    (case w_s_BadRow_Stopped => first | k_is | k_exc)
    (case w_s_BadRow_Shared => first | k_is | k_exc)
    (case w_s_BadRow_Tied => first | k_is | k_exc)
    (case w_s_BadRow_Taken => first | k_is | k_exc)
    (case w_s_BadRow_Last => first | k_is | k_exc)
    (case w_s_BadRow_TooMany => first | k_is | k_exc)
    (case w_s_BadRow_Full => first | k_is | k_exc)
    (case w_t_BadRow_IndexError => first | k_is | k_exc)
    (case w_t_BadRow_KeyError => first | k_is | k_exc)
    (case w_t_BadRow_LookupError => first | k_is | k_exc)
    (case w_t_BadRow_NotImplementedError => first | k_is | k_exc)
    (case w_t_BadRow_OverflowError => first | k_is | k_exc)
    (case w_t_BadRow_RuntimeError => first | k_is | k_exc)
    (case w_t_BadRow_ValueError => first | k_is | k_exc)
    (case w_f_BadRow_number => first | k_is | k_exc)
    (case w_nn_Own => first | k_is | k_exc)
    (case w_s_Own_Unlike => first | k_is | k_exc)
    (case w_s_Own_BadText => first | k_is | k_exc)
    (case w_s_Own_BadRow => first | k_is | k_exc)
    (case w_s_Own_Own => first | k_is | k_exc)
    (case w_s_Own_NoName => first | k_is | k_exc)
    (case w_s_Own_NoBook => first | k_is | k_exc)
    (case w_s_Own_NoTie => first | k_is | k_exc)
    (case w_s_Own_NoPlace => first | k_is | k_exc)
    (case w_s_Own_NoDeed => first | k_is | k_exc)
    (case w_s_Own_MayNot => first | k_is | k_exc)
    (case w_s_Own_Barred => first | k_is | k_exc)
    (case w_s_Own_Lost => first | k_is | k_exc)
    (case w_s_Own_Gap => first | k_is | k_exc)
    (case w_s_Own_Apart => first | k_is | k_exc)
    (case w_s_Own_Stopped => first | k_is | k_exc)
    (case w_s_Own_Shared => first | k_is | k_exc)
    (case w_s_Own_Tied => first | k_is | k_exc)
    (case w_s_Own_Taken => first | k_is | k_exc)
    (case w_s_Own_Last => first | k_is | k_exc)
    (case w_s_Own_TooMany => first | k_is | k_exc)
    (case w_s_Own_Full => first | k_is | k_exc)
    (case w_t_Own_IndexError => first | k_is | k_exc)
    (case w_t_Own_KeyError => first | k_is | k_exc)
    (case w_t_Own_LookupError => first | k_is | k_exc)
    (case w_t_Own_NotImplementedError => first | k_is | k_exc)
    (case w_t_Own_OverflowError => first | k_is | k_exc)
    (case w_t_Own_RuntimeError => first | k_is | k_exc)
    (case w_t_Own_ValueError => first | k_is | k_exc)
    (case w_f_Own_book => first | k_is | k_exc)
    (case w_nn_NoName => first | k_is | k_exc)
    (case w_s_NoName_Unlike => first | k_is | k_exc)
    (case w_s_NoName_BadText => first | k_is | k_exc)
    (case w_s_NoName_BadRow => first | k_is | k_exc)
    (case w_s_NoName_Own => first | k_is | k_exc)
    (case w_s_NoName_NoName => first | k_is | k_exc)
    (case w_s_NoName_NoBook => first | k_is | k_exc)
    (case w_s_NoName_NoTie => first | k_is | k_exc)
    (case w_s_NoName_NoPlace => first | k_is | k_exc)
    (case w_s_NoName_NoDeed => first | k_is | k_exc)
    (case w_s_NoName_MayNot => first | k_is | k_exc)
    (case w_s_NoName_Barred => first | k_is | k_exc)
    (case w_s_NoName_Lost => first | k_is | k_exc)
    (case w_s_NoName_Gap => first | k_is | k_exc)
    (case w_s_NoName_Apart => first | k_is | k_exc)
    (case w_s_NoName_Stopped => first | k_is | k_exc)
    (case w_s_NoName_Shared => first | k_is | k_exc)
    (case w_s_NoName_Tied => first | k_is | k_exc)
    (case w_s_NoName_Taken => first | k_is | k_exc)
    (case w_s_NoName_Last => first | k_is | k_exc)
    (case w_s_NoName_TooMany => first | k_is | k_exc)
    (case w_s_NoName_Full => first | k_is | k_exc)
    (case w_t_NoName_IndexError => first | k_is | k_exc)
    (case w_t_NoName_KeyError => first | k_is | k_exc)
    (case w_t_NoName_LookupError => first | k_is | k_exc)
    (case w_t_NoName_NotImplementedError => first | k_is | k_exc)
    (case w_t_NoName_OverflowError => first | k_is | k_exc)
    (case w_t_NoName_RuntimeError => first | k_is | k_exc)
    (case w_t_NoName_ValueError => first | k_is | k_exc)
    (case w_f_NoName_book => first | k_is | k_exc)
    (case w_nn_NoBook => first | k_is | k_exc)
    (case w_s_NoBook_Unlike => first | k_is | k_exc)
    (case w_s_NoBook_BadText => first | k_is | k_exc)
    (case w_s_NoBook_BadRow => first | k_is | k_exc)
    (case w_s_NoBook_Own => first | k_is | k_exc)
    (case w_s_NoBook_NoName => first | k_is | k_exc)
    (case w_s_NoBook_NoBook => first | k_is | k_exc)
    (case w_s_NoBook_NoTie => first | k_is | k_exc)
    (case w_s_NoBook_NoPlace => first | k_is | k_exc)
    (case w_s_NoBook_NoDeed => first | k_is | k_exc)
    (case w_s_NoBook_MayNot => first | k_is | k_exc)
    (case w_s_NoBook_Barred => first | k_is | k_exc)
    (case w_s_NoBook_Lost => first | k_is | k_exc)
    (case w_s_NoBook_Gap => first | k_is | k_exc)
    (case w_s_NoBook_Apart => first | k_is | k_exc)
    (case w_s_NoBook_Stopped => first | k_is | k_exc)
    (case w_s_NoBook_Shared => first | k_is | k_exc)
    (case w_s_NoBook_Tied => first | k_is | k_exc)
    (case w_s_NoBook_Taken => first | k_is | k_exc)
    (case w_s_NoBook_Last => first | k_is | k_exc)
    (case w_s_NoBook_TooMany => first | k_is | k_exc)
    (case w_s_NoBook_Full => first | k_is | k_exc)
    (case w_t_NoBook_IndexError => first | k_is | k_exc)
    (case w_t_NoBook_KeyError => first | k_is | k_exc)
    (case w_t_NoBook_LookupError => first | k_is | k_exc)
    (case w_t_NoBook_NotImplementedError => first | k_is | k_exc)
    (case w_t_NoBook_OverflowError => first | k_is | k_exc)
    (case w_t_NoBook_RuntimeError => first | k_is | k_exc)
    (case w_t_NoBook_ValueError => first | k_is | k_exc)
    (case w_f_NoBook_book => first | k_is | k_exc)
    (case w_nn_NoTie => first | k_is | k_exc)
    (case w_s_NoTie_Unlike => first | k_is | k_exc)
    (case w_s_NoTie_BadText => first | k_is | k_exc)
    (case w_s_NoTie_BadRow => first | k_is | k_exc)
    (case w_s_NoTie_Own => first | k_is | k_exc)
    (case w_s_NoTie_NoName => first | k_is | k_exc)
    (case w_s_NoTie_NoBook => first | k_is | k_exc)
    (case w_s_NoTie_NoTie => first | k_is | k_exc)
    (case w_s_NoTie_NoPlace => first | k_is | k_exc)
    (case w_s_NoTie_NoDeed => first | k_is | k_exc)
    (case w_s_NoTie_MayNot => first | k_is | k_exc)
    (case w_s_NoTie_Barred => first | k_is | k_exc)
    (case w_s_NoTie_Lost => first | k_is | k_exc)
    (case w_s_NoTie_Gap => first | k_is | k_exc)
    (case w_s_NoTie_Apart => first | k_is | k_exc)
    (case w_s_NoTie_Stopped => first | k_is | k_exc)
    (case w_s_NoTie_Shared => first | k_is | k_exc)
    (case w_s_NoTie_Tied => first | k_is | k_exc)
    (case w_s_NoTie_Taken => first | k_is | k_exc)
    (case w_s_NoTie_Last => first | k_is | k_exc)
    (case w_s_NoTie_TooMany => first | k_is | k_exc)
    (case w_s_NoTie_Full => first | k_is | k_exc)
    (case w_t_NoTie_IndexError => first | k_is | k_exc)
    (case w_t_NoTie_KeyError => first | k_is | k_exc)
    (case w_t_NoTie_LookupError => first | k_is | k_exc)
    (case w_t_NoTie_NotImplementedError => first | k_is | k_exc)
    (case w_t_NoTie_OverflowError => first | k_is | k_exc)
    (case w_t_NoTie_RuntimeError => first | k_is | k_exc)
    (case w_t_NoTie_ValueError => first | k_is | k_exc)
    (case w_f_NoTie_pair => first | k_is | k_exc)
    (case w_nn_NoPlace => first | k_is | k_exc)
    (case w_s_NoPlace_Unlike => first | k_is | k_exc)
    (case w_s_NoPlace_BadText => first | k_is | k_exc)
    (case w_s_NoPlace_BadRow => first | k_is | k_exc)
    (case w_s_NoPlace_Own => first | k_is | k_exc)
    (case w_s_NoPlace_NoName => first | k_is | k_exc)
    (case w_s_NoPlace_NoBook => first | k_is | k_exc)
    (case w_s_NoPlace_NoTie => first | k_is | k_exc)
    (case w_s_NoPlace_NoPlace => first | k_is | k_exc)
    (case w_s_NoPlace_NoDeed => first | k_is | k_exc)
    (case w_s_NoPlace_MayNot => first | k_is | k_exc)
    (case w_s_NoPlace_Barred => first | k_is | k_exc)
    (case w_s_NoPlace_Lost => first | k_is | k_exc)
    (case w_s_NoPlace_Gap => first | k_is | k_exc)
    (case w_s_NoPlace_Apart => first | k_is | k_exc)
    (case w_s_NoPlace_Stopped => first | k_is | k_exc)
    (case w_s_NoPlace_Shared => first | k_is | k_exc)
    (case w_s_NoPlace_Tied => first | k_is | k_exc)
    (case w_s_NoPlace_Taken => first | k_is | k_exc)
    (case w_s_NoPlace_Last => first | k_is | k_exc)
    (case w_s_NoPlace_TooMany => first | k_is | k_exc)
    (case w_s_NoPlace_Full => first | k_is | k_exc)
    (case w_t_NoPlace_IndexError => first | k_is | k_exc)
    (case w_t_NoPlace_KeyError => first | k_is | k_exc)
    (case w_t_NoPlace_LookupError => first | k_is | k_exc)
    (case w_t_NoPlace_NotImplementedError => first | k_is | k_exc)
    (case w_t_NoPlace_OverflowError => first | k_is | k_exc)
    (case w_t_NoPlace_RuntimeError => first | k_is | k_exc)
    (case w_t_NoPlace_ValueError => first | k_is | k_exc)
    (case w_f_NoPlace_at => first | k_is | k_exc)
    (case w_nn_NoDeed => first | k_is | k_exc)
    (case w_s_NoDeed_Unlike => first | k_is | k_exc)
    (case w_s_NoDeed_BadText => first | k_is | k_exc)
    (case w_s_NoDeed_BadRow => first | k_is | k_exc)
    (case w_s_NoDeed_Own => first | k_is | k_exc)
    (case w_s_NoDeed_NoName => first | k_is | k_exc)
    (case w_s_NoDeed_NoBook => first | k_is | k_exc)
    (case w_s_NoDeed_NoTie => first | k_is | k_exc)
    (case w_s_NoDeed_NoPlace => first | k_is | k_exc)
    (case w_s_NoDeed_NoDeed => first | k_is | k_exc)
    (case w_s_NoDeed_MayNot => first | k_is | k_exc)
    (case w_s_NoDeed_Barred => first | k_is | k_exc)
    (case w_s_NoDeed_Lost => first | k_is | k_exc)
    (case w_s_NoDeed_Gap => first | k_is | k_exc)
    (case w_s_NoDeed_Apart => first | k_is | k_exc)
    (case w_s_NoDeed_Stopped => first | k_is | k_exc)
    (case w_s_NoDeed_Shared => first | k_is | k_exc)
    (case w_s_NoDeed_Tied => first | k_is | k_exc)
    (case w_s_NoDeed_Taken => first | k_is | k_exc)
    (case w_s_NoDeed_Last => first | k_is | k_exc)
    (case w_s_NoDeed_TooMany => first | k_is | k_exc)
    (case w_s_NoDeed_Full => first | k_is | k_exc)
    (case w_t_NoDeed_IndexError => first | k_is | k_exc)
    (case w_t_NoDeed_KeyError => first | k_is | k_exc)
    (case w_t_NoDeed_LookupError => first | k_is | k_exc)
    (case w_t_NoDeed_NotImplementedError => first | k_is | k_exc)
    (case w_t_NoDeed_OverflowError => first | k_is | k_exc)
    (case w_t_NoDeed_RuntimeError => first | k_is | k_exc)
    (case w_t_NoDeed_ValueError => first | k_is | k_exc)
    (case w_f_NoDeed_many => first | k_is | k_exc)
    (case w_nn_MayNot => first | k_is | k_exc)
    (case w_s_MayNot_Unlike => first | k_is | k_exc)
    (case w_s_MayNot_BadText => first | k_is | k_exc)
    (case w_s_MayNot_BadRow => first | k_is | k_exc)
    (case w_s_MayNot_Own => first | k_is | k_exc)
    (case w_s_MayNot_NoName => first | k_is | k_exc)
    (case w_s_MayNot_NoBook => first | k_is | k_exc)
    (case w_s_MayNot_NoTie => first | k_is | k_exc)
    (case w_s_MayNot_NoPlace => first | k_is | k_exc)
    (case w_s_MayNot_NoDeed => first | k_is | k_exc)
    (case w_s_MayNot_MayNot => first | k_is | k_exc)
    (case w_s_MayNot_Barred => first | k_is | k_exc)
    (case w_s_MayNot_Lost => first | k_is | k_exc)
    (case w_s_MayNot_Gap => first | k_is | k_exc)
    (case w_s_MayNot_Apart => first | k_is | k_exc)
    (case w_s_MayNot_Stopped => first | k_is | k_exc)
    (case w_s_MayNot_Shared => first | k_is | k_exc)
    (case w_s_MayNot_Tied => first | k_is | k_exc)
    (case w_s_MayNot_Taken => first | k_is | k_exc)
    (case w_s_MayNot_Last => first | k_is | k_exc)
    (case w_s_MayNot_TooMany => first | k_is | k_exc)
    (case w_s_MayNot_Full => first | k_is | k_exc)
    (case w_t_MayNot_IndexError => first | k_is | k_exc)
    (case w_t_MayNot_KeyError => first | k_is | k_exc)
    (case w_t_MayNot_LookupError => first | k_is | k_exc)
    (case w_t_MayNot_NotImplementedError => first | k_is | k_exc)
    (case w_t_MayNot_OverflowError => first | k_is | k_exc)
    (case w_t_MayNot_RuntimeError => first | k_is | k_exc)
    (case w_t_MayNot_ValueError => first | k_is | k_exc)
    (case w_f_MayNot_book => first | k_is | k_exc)
    (case w_nn_Barred => first | k_is | k_exc)
    (case w_s_Barred_Unlike => first | k_is | k_exc)
    (case w_s_Barred_BadText => first | k_is | k_exc)
    (case w_s_Barred_BadRow => first | k_is | k_exc)
    (case w_s_Barred_Own => first | k_is | k_exc)
    (case w_s_Barred_NoName => first | k_is | k_exc)
    (case w_s_Barred_NoBook => first | k_is | k_exc)
    (case w_s_Barred_NoTie => first | k_is | k_exc)
    (case w_s_Barred_NoPlace => first | k_is | k_exc)
    (case w_s_Barred_NoDeed => first | k_is | k_exc)
    (case w_s_Barred_MayNot => first | k_is | k_exc)
    (case w_s_Barred_Barred => first | k_is | k_exc)
    (case w_s_Barred_Lost => first | k_is | k_exc)
    (case w_s_Barred_Gap => first | k_is | k_exc)
    (case w_s_Barred_Apart => first | k_is | k_exc)
    (case w_s_Barred_Stopped => first | k_is | k_exc)
    (case w_s_Barred_Shared => first | k_is | k_exc)
    (case w_s_Barred_Tied => first | k_is | k_exc)
    (case w_s_Barred_Taken => first | k_is | k_exc)
    (case w_s_Barred_Last => first | k_is | k_exc)
    (case w_s_Barred_TooMany => first | k_is | k_exc)
    (case w_s_Barred_Full => first | k_is | k_exc)
    (case w_t_Barred_IndexError => first | k_is | k_exc)
    (case w_t_Barred_KeyError => first | k_is | k_exc)
    (case w_t_Barred_LookupError => first | k_is | k_exc)
    (case w_t_Barred_NotImplementedError => first | k_is | k_exc)
    (case w_t_Barred_OverflowError => first | k_is | k_exc)
    (case w_t_Barred_RuntimeError => first | k_is | k_exc)
    (case w_t_Barred_ValueError => first | k_is | k_exc)
    (case w_f_Barred_ring => first | k_is | k_exc)
    (case w_nn_Lost => first | k_is | k_exc)
    (case w_s_Lost_Unlike => first | k_is | k_exc)
    (case w_s_Lost_BadText => first | k_is | k_exc)
    (case w_s_Lost_BadRow => first | k_is | k_exc)
    (case w_s_Lost_Own => first | k_is | k_exc)
    (case w_s_Lost_NoName => first | k_is | k_exc)
    (case w_s_Lost_NoBook => first | k_is | k_exc)
    (case w_s_Lost_NoTie => first | k_is | k_exc)
    (case w_s_Lost_NoPlace => first | k_is | k_exc)
    (case w_s_Lost_NoDeed => first | k_is | k_exc)
    (case w_s_Lost_MayNot => first | k_is | k_exc)
    (case w_s_Lost_Barred => first | k_is | k_exc)
    (case w_s_Lost_Lost => first | k_is | k_exc)
    (case w_s_Lost_Gap => first | k_is | k_exc)
    (case w_s_Lost_Apart => first | k_is | k_exc)
    (case w_s_Lost_Stopped => first | k_is | k_exc)
    (case w_s_Lost_Shared => first | k_is | k_exc)
    (case w_s_Lost_Tied => first | k_is | k_exc)
    (case w_s_Lost_Taken => first | k_is | k_exc)
    (case w_s_Lost_Last => first | k_is | k_exc)
    (case w_s_Lost_TooMany => first | k_is | k_exc)
    (case w_s_Lost_Full => first | k_is | k_exc)
    (case w_t_Lost_IndexError => first | k_is | k_exc)
    (case w_t_Lost_KeyError => first | k_is | k_exc)
    (case w_t_Lost_LookupError => first | k_is | k_exc)
    (case w_t_Lost_NotImplementedError => first | k_is | k_exc)
    (case w_t_Lost_OverflowError => first | k_is | k_exc)
    (case w_t_Lost_RuntimeError => first | k_is | k_exc)
    (case w_t_Lost_ValueError => first | k_is | k_exc)
    (case w_f_Lost_place => first | k_is | k_exc)
    (case w_nn_Gap => first | k_is | k_exc)
    (case w_s_Gap_Unlike => first | k_is | k_exc)
    (case w_s_Gap_BadText => first | k_is | k_exc)
    (case w_s_Gap_BadRow => first | k_is | k_exc)
    (case w_s_Gap_Own => first | k_is | k_exc)
    (case w_s_Gap_NoName => first | k_is | k_exc)
    (case w_s_Gap_NoBook => first | k_is | k_exc)
    (case w_s_Gap_NoTie => first | k_is | k_exc)
    (case w_s_Gap_NoPlace => first | k_is | k_exc)
    (case w_s_Gap_NoDeed => first | k_is | k_exc)
    (case w_s_Gap_MayNot => first | k_is | k_exc)
    (case w_s_Gap_Barred => first | k_is | k_exc)
    (case w_s_Gap_Lost => first | k_is | k_exc)
    (case w_s_Gap_Gap => first | k_is | k_exc)
    (case w_s_Gap_Apart => first | k_is | k_exc)
    (case w_s_Gap_Stopped => first | k_is | k_exc)
    (case w_s_Gap_Shared => first | k_is | k_exc)
    (case w_s_Gap_Tied => first | k_is | k_exc)
    (case w_s_Gap_Taken => first | k_is | k_exc)
    (case w_s_Gap_Last => first | k_is | k_exc)
    (case w_s_Gap_TooMany => first | k_is | k_exc)
    (case w_s_Gap_Full => first | k_is | k_exc)
    (case w_t_Gap_IndexError => first | k_is | k_exc)
    (case w_t_Gap_KeyError => first | k_is | k_exc)
    (case w_t_Gap_LookupError => first | k_is | k_exc)
    (case w_t_Gap_NotImplementedError => first | k_is | k_exc)
    (case w_t_Gap_OverflowError => first | k_is | k_exc)
    (case w_t_Gap_RuntimeError => first | k_is | k_exc)
    (case w_t_Gap_ValueError => first | k_is | k_exc)
    (case w_f_Gap_place => first | k_is | k_exc)
    (case w_f_Gap_ring => first | k_is | k_exc)
    (case w_nn_Apart => first | k_is | k_exc)
    (case w_s_Apart_Unlike => first | k_is | k_exc)
    (case w_s_Apart_BadText => first | k_is | k_exc)
    (case w_s_Apart_BadRow => first | k_is | k_exc)
    (case w_s_Apart_Own => first | k_is | k_exc)
    (case w_s_Apart_NoName => first | k_is | k_exc)
    (case w_s_Apart_NoBook => first | k_is | k_exc)
    (case w_s_Apart_NoTie => first | k_is | k_exc)
    (case w_s_Apart_NoPlace => first | k_is | k_exc)
    (case w_s_Apart_NoDeed => first | k_is | k_exc)
    (case w_s_Apart_MayNot => first | k_is | k_exc)
    (case w_s_Apart_Barred => first | k_is | k_exc)
    (case w_s_Apart_Lost => first | k_is | k_exc)
    (case w_s_Apart_Gap => first | k_is | k_exc)
    (case w_s_Apart_Apart => first | k_is | k_exc)
    (case w_s_Apart_Stopped => first | k_is | k_exc)
    (case w_s_Apart_Shared => first | k_is | k_exc)
    (case w_s_Apart_Tied => first | k_is | k_exc)
    (case w_s_Apart_Taken => first | k_is | k_exc)
    (case w_s_Apart_Last => first | k_is | k_exc)
    (case w_s_Apart_TooMany => first | k_is | k_exc)
    (case w_s_Apart_Full => first | k_is | k_exc)
    (case w_t_Apart_IndexError => first | k_is | k_exc)
    (case w_t_Apart_KeyError => first | k_is | k_exc)
    (case w_t_Apart_LookupError => first | k_is | k_exc)
    (case w_t_Apart_NotImplementedError => first | k_is | k_exc)
    (case w_t_Apart_OverflowError => first | k_is | k_exc)
    (case w_t_Apart_RuntimeError => first | k_is | k_exc)
    (case w_t_Apart_ValueError => first | k_is | k_exc)
    (case w_f_Apart_one => first | k_is | k_exc)
    (case w_f_Apart_other => first | k_is | k_exc)
    (case w_nn_Stopped => first | k_is | k_exc)
    (case w_s_Stopped_Unlike => first | k_is | k_exc)
    (case w_s_Stopped_BadText => first | k_is | k_exc)
    (case w_s_Stopped_BadRow => first | k_is | k_exc)
    (case w_s_Stopped_Own => first | k_is | k_exc)
    (case w_s_Stopped_NoName => first | k_is | k_exc)
    (case w_s_Stopped_NoBook => first | k_is | k_exc)
    (case w_s_Stopped_NoTie => first | k_is | k_exc)
    (case w_s_Stopped_NoPlace => first | k_is | k_exc)
    (case w_s_Stopped_NoDeed => first | k_is | k_exc)
    (case w_s_Stopped_MayNot => first | k_is | k_exc)
    (case w_s_Stopped_Barred => first | k_is | k_exc)
    (case w_s_Stopped_Lost => first | k_is | k_exc)
    (case w_s_Stopped_Gap => first | k_is | k_exc)
    (case w_s_Stopped_Apart => first | k_is | k_exc)
    (case w_s_Stopped_Stopped => first | k_is | k_exc)
    (case w_s_Stopped_Shared => first | k_is | k_exc)
    (case w_s_Stopped_Tied => first | k_is | k_exc)
    (case w_s_Stopped_Taken => first | k_is | k_exc)
    (case w_s_Stopped_Last => first | k_is | k_exc)
    (case w_s_Stopped_TooMany => first | k_is | k_exc)
    (case w_s_Stopped_Full => first | k_is | k_exc)
    (case w_t_Stopped_IndexError => first | k_is | k_exc)
    (case w_t_Stopped_KeyError => first | k_is | k_exc)
    (case w_t_Stopped_LookupError => first | k_is | k_exc)
    (case w_t_Stopped_NotImplementedError => first | k_is | k_exc)
    (case w_t_Stopped_OverflowError => first | k_is | k_exc)
    (case w_t_Stopped_RuntimeError => first | k_is | k_exc)
    (case w_t_Stopped_ValueError => first | k_is | k_exc)
    (case w_f_Stopped_number => first | k_is | k_exc)
    (case w_nn_Shared => first | k_is | k_exc)
    (case w_s_Shared_Unlike => first | k_is | k_exc)
    (case w_s_Shared_BadText => first | k_is | k_exc)
    (case w_s_Shared_BadRow => first | k_is | k_exc)
    (case w_s_Shared_Own => first | k_is | k_exc)
    (case w_s_Shared_NoName => first | k_is | k_exc)
    (case w_s_Shared_NoBook => first | k_is | k_exc)
    (case w_s_Shared_NoTie => first | k_is | k_exc)
    (case w_s_Shared_NoPlace => first | k_is | k_exc)
    (case w_s_Shared_NoDeed => first | k_is | k_exc)
    (case w_s_Shared_MayNot => first | k_is | k_exc)
    (case w_s_Shared_Barred => first | k_is | k_exc)
    (case w_s_Shared_Lost => first | k_is | k_exc)
    (case w_s_Shared_Gap => first | k_is | k_exc)
    (case w_s_Shared_Apart => first | k_is | k_exc)
    (case w_s_Shared_Stopped => first | k_is | k_exc)
    (case w_s_Shared_Shared => first | k_is | k_exc)
    (case w_s_Shared_Tied => first | k_is | k_exc)
    (case w_s_Shared_Taken => first | k_is | k_exc)
    (case w_s_Shared_Last => first | k_is | k_exc)
    (case w_s_Shared_TooMany => first | k_is | k_exc)
    (case w_s_Shared_Full => first | k_is | k_exc)
    (case w_t_Shared_IndexError => first | k_is | k_exc)
    (case w_t_Shared_KeyError => first | k_is | k_exc)
    (case w_t_Shared_LookupError => first | k_is | k_exc)
    (case w_t_Shared_NotImplementedError => first | k_is | k_exc)
    (case w_t_Shared_OverflowError => first | k_is | k_exc)
    (case w_t_Shared_RuntimeError => first | k_is | k_exc)
    (case w_t_Shared_ValueError => first | k_is | k_exc)
    (case w_f_Shared_book => first | k_is | k_exc)
    (case w_nn_Tied => first | k_is | k_exc)
    (case w_s_Tied_Unlike => first | k_is | k_exc)
    (case w_s_Tied_BadText => first | k_is | k_exc)
    (case w_s_Tied_BadRow => first | k_is | k_exc)
    (case w_s_Tied_Own => first | k_is | k_exc)
    (case w_s_Tied_NoName => first | k_is | k_exc)
    (case w_s_Tied_NoBook => first | k_is | k_exc)
    (case w_s_Tied_NoTie => first | k_is | k_exc)
    (case w_s_Tied_NoPlace => first | k_is | k_exc)
    (case w_s_Tied_NoDeed => first | k_is | k_exc)
    (case w_s_Tied_MayNot => first | k_is | k_exc)
    (case w_s_Tied_Barred => first | k_is | k_exc)
    (case w_s_Tied_Lost => first | k_is | k_exc)
    (case w_s_Tied_Gap => first | k_is | k_exc)
    (case w_s_Tied_Apart => first | k_is | k_exc)
    (case w_s_Tied_Stopped => first | k_is | k_exc)
    (case w_s_Tied_Shared => first | k_is | k_exc)
    (case w_s_Tied_Tied => first | k_is | k_exc)
    (case w_s_Tied_Taken => first | k_is | k_exc)
    (case w_s_Tied_Last => first | k_is | k_exc)
    (case w_s_Tied_TooMany => first | k_is | k_exc)
    (case w_s_Tied_Full => first | k_is | k_exc)
    (case w_t_Tied_IndexError => first | k_is | k_exc)
    (case w_t_Tied_KeyError => first | k_is | k_exc)
    (case w_t_Tied_LookupError => first | k_is | k_exc)
    (case w_t_Tied_NotImplementedError => first | k_is | k_exc)
    (case w_t_Tied_OverflowError => first | k_is | k_exc)
    (case w_t_Tied_RuntimeError => first | k_is | k_exc)
    (case w_t_Tied_ValueError => first | k_is | k_exc)
    (case w_f_Tied_pair => first | k_is | k_exc)
    (case w_nn_Taken => first | k_is | k_exc)
    (case w_s_Taken_Unlike => first | k_is | k_exc)
    (case w_s_Taken_BadText => first | k_is | k_exc)
    (case w_s_Taken_BadRow => first | k_is | k_exc)
    (case w_s_Taken_Own => first | k_is | k_exc)
    (case w_s_Taken_NoName => first | k_is | k_exc)
    (case w_s_Taken_NoBook => first | k_is | k_exc)
    (case w_s_Taken_NoTie => first | k_is | k_exc)
    (case w_s_Taken_NoPlace => first | k_is | k_exc)
    (case w_s_Taken_NoDeed => first | k_is | k_exc)
    (case w_s_Taken_MayNot => first | k_is | k_exc)
    (case w_s_Taken_Barred => first | k_is | k_exc)
    (case w_s_Taken_Lost => first | k_is | k_exc)
    (case w_s_Taken_Gap => first | k_is | k_exc)
    (case w_s_Taken_Apart => first | k_is | k_exc)
    (case w_s_Taken_Stopped => first | k_is | k_exc)
    (case w_s_Taken_Shared => first | k_is | k_exc)
    (case w_s_Taken_Tied => first | k_is | k_exc)
    (case w_s_Taken_Taken => first | k_is | k_exc)
    (case w_s_Taken_Last => first | k_is | k_exc)
    (case w_s_Taken_TooMany => first | k_is | k_exc)
    (case w_s_Taken_Full => first | k_is | k_exc)
    (case w_t_Taken_IndexError => first | k_is | k_exc)
    (case w_t_Taken_KeyError => first | k_is | k_exc)
    (case w_t_Taken_LookupError => first | k_is | k_exc)
    (case w_t_Taken_NotImplementedError => first | k_is | k_exc)
    (case w_t_Taken_OverflowError => first | k_is | k_exc)
    (case w_t_Taken_RuntimeError => first | k_is | k_exc)
    (case w_t_Taken_ValueError => first | k_is | k_exc)
    (case w_f_Taken_book => first | k_is | k_exc)
    (case w_nn_Last => first | k_is | k_exc)
    (case w_s_Last_Unlike => first | k_is | k_exc)
    (case w_s_Last_BadText => first | k_is | k_exc)
    (case w_s_Last_BadRow => first | k_is | k_exc)
    (case w_s_Last_Own => first | k_is | k_exc)
    (case w_s_Last_NoName => first | k_is | k_exc)
    (case w_s_Last_NoBook => first | k_is | k_exc)
    (case w_s_Last_NoTie => first | k_is | k_exc)
    (case w_s_Last_NoPlace => first | k_is | k_exc)
    (case w_s_Last_NoDeed => first | k_is | k_exc)
    (case w_s_Last_MayNot => first | k_is | k_exc)
    (case w_s_Last_Barred => first | k_is | k_exc)
    (case w_s_Last_Lost => first | k_is | k_exc)
    (case w_s_Last_Gap => first | k_is | k_exc)
    (case w_s_Last_Apart => first | k_is | k_exc)
    (case w_s_Last_Stopped => first | k_is | k_exc)
    (case w_s_Last_Shared => first | k_is | k_exc)
    (case w_s_Last_Tied => first | k_is | k_exc)
    (case w_s_Last_Taken => first | k_is | k_exc)
    (case w_s_Last_Last => first | k_is | k_exc)
    (case w_s_Last_TooMany => first | k_is | k_exc)
    (case w_s_Last_Full => first | k_is | k_exc)
    (case w_t_Last_IndexError => first | k_is | k_exc)
    (case w_t_Last_KeyError => first | k_is | k_exc)
    (case w_t_Last_LookupError => first | k_is | k_exc)
    (case w_t_Last_NotImplementedError => first | k_is | k_exc)
    (case w_t_Last_OverflowError => first | k_is | k_exc)
    (case w_t_Last_RuntimeError => first | k_is | k_exc)
    (case w_t_Last_ValueError => first | k_is | k_exc)
    (case w_nn_TooMany => first | k_is | k_exc)
    (case w_s_TooMany_Unlike => first | k_is | k_exc)
    (case w_s_TooMany_BadText => first | k_is | k_exc)
    (case w_s_TooMany_BadRow => first | k_is | k_exc)
    (case w_s_TooMany_Own => first | k_is | k_exc)
    (case w_s_TooMany_NoName => first | k_is | k_exc)
    (case w_s_TooMany_NoBook => first | k_is | k_exc)
    (case w_s_TooMany_NoTie => first | k_is | k_exc)
    (case w_s_TooMany_NoPlace => first | k_is | k_exc)
    (case w_s_TooMany_NoDeed => first | k_is | k_exc)
    (case w_s_TooMany_MayNot => first | k_is | k_exc)
    (case w_s_TooMany_Barred => first | k_is | k_exc)
    (case w_s_TooMany_Lost => first | k_is | k_exc)
    (case w_s_TooMany_Gap => first | k_is | k_exc)
    (case w_s_TooMany_Apart => first | k_is | k_exc)
    (case w_s_TooMany_Stopped => first | k_is | k_exc)
    (case w_s_TooMany_Shared => first | k_is | k_exc)
    (case w_s_TooMany_Tied => first | k_is | k_exc)
    (case w_s_TooMany_Taken => first | k_is | k_exc)
    (case w_s_TooMany_Last => first | k_is | k_exc)
    (case w_s_TooMany_TooMany => first | k_is | k_exc)
    (case w_s_TooMany_Full => first | k_is | k_exc)
    (case w_t_TooMany_IndexError => first | k_is | k_exc)
    (case w_t_TooMany_KeyError => first | k_is | k_exc)
    (case w_t_TooMany_LookupError => first | k_is | k_exc)
    (case w_t_TooMany_NotImplementedError => first | k_is | k_exc)
    (case w_t_TooMany_OverflowError => first | k_is | k_exc)
    (case w_t_TooMany_RuntimeError => first | k_is | k_exc)
    (case w_t_TooMany_ValueError => first | k_is | k_exc)
    (case w_f_TooMany_many => first | k_is | k_exc)
    (case w_nn_Full => first | k_is | k_exc)
    (case w_s_Full_Unlike => first | k_is | k_exc)
    (case w_s_Full_BadText => first | k_is | k_exc)
    (case w_s_Full_BadRow => first | k_is | k_exc)
    (case w_s_Full_Own => first | k_is | k_exc)
    (case w_s_Full_NoName => first | k_is | k_exc)
    (case w_s_Full_NoBook => first | k_is | k_exc)
    (case w_s_Full_NoTie => first | k_is | k_exc)
    (case w_s_Full_NoPlace => first | k_is | k_exc)
    (case w_s_Full_NoDeed => first | k_is | k_exc)
    (case w_s_Full_MayNot => first | k_is | k_exc)
    (case w_s_Full_Barred => first | k_is | k_exc)
    (case w_s_Full_Lost => first | k_is | k_exc)
    (case w_s_Full_Gap => first | k_is | k_exc)
    (case w_s_Full_Apart => first | k_is | k_exc)
    (case w_s_Full_Stopped => first | k_is | k_exc)
    (case w_s_Full_Shared => first | k_is | k_exc)
    (case w_s_Full_Tied => first | k_is | k_exc)
    (case w_s_Full_Taken => first | k_is | k_exc)
    (case w_s_Full_Last => first | k_is | k_exc)
    (case w_s_Full_TooMany => first | k_is | k_exc)
    (case w_s_Full_Full => first | k_is | k_exc)
    (case w_t_Full_IndexError => first | k_is | k_exc)
    (case w_t_Full_KeyError => first | k_is | k_exc)
    (case w_t_Full_LookupError => first | k_is | k_exc)
    (case w_t_Full_NotImplementedError => first | k_is | k_exc)
    (case w_t_Full_OverflowError => first | k_is | k_exc)
    (case w_t_Full_RuntimeError => first | k_is | k_exc)
    (case w_t_Full_ValueError => first | k_is | k_exc)
    (case w_f_Full_many => first | k_is | k_exc)
    (case w_nt_IndexError => first | k_is | k_exc)
    (case w_nt_KeyError => first | k_is | k_exc)
    (case w_nt_LookupError => first | k_is | k_exc)
    (case w_nt_NotImplementedError => first | k_is | k_exc)
    (case w_nt_OverflowError => first | k_is | k_exc)
    (case w_nt_RuntimeError => first | k_is | k_exc)
    (case w_nt_ValueError => first | k_is | k_exc)
