import PyProof.Rows.All
import Wide.All
import OpenK.AllK
import Wide.FinOn
import HandS.ForMost
import HandS.ExcCtx
import HandS.Lambda
import KE.GoesEnum
import HandS.ExcOwn
import HandS.Ends
import HandS.Words
import HandS.Wide
import HandS.Zip
import HandS.TupAny
import HandS.TupMul
import HandS.Style
import HandS.Small
import HandS.Deep
import HandS.IsInst
import HandS.Conv
import HandS.Strs
import KE.KIndexOf
import HandS.More
import HandS.WordsDict
import HandS.TupLen
import PyProof.Rows.SortShellAny
import PyProof.TupleOfSeq
import KE.GoesEnumKw
import HandS.RaiseMore
import PyProof.ReprRoads
import PyProof.ReprBulk
import HandS.Defaults
import HandS.ExcIs
import PyProof.ExcBaseAll.ValueError
import KE.KMinKey
import HandS.Nested
import HandS.EndTab
import KE.KLam
import KE.KNestM
import HandS.ExcInit
import HandS.ExcField
import HandS.ExcValue
import PySem.Challenge.RW_burnrank_k04_refusals
set_option Elab.async false
set_option linter.all false
set_option maxRecDepth 100000
set_option maxHeartbeats 4000000
namespace BR
open PySem (Str)

inductive D where
  | non | bl (b : Bool) | int (i : Int) | str (x : Str)
  | tup (xs : List D) | lst (xs : List D) | dct (ks vs : List D) | dcT (ks vs : List D) | ref (a : Nat)
  /-- what the law is handed -/
  | scr (ns : List Int)

inductive Ob where
  | lst (xs : List D) | dct (ks vs : List D) | dcT (ks vs : List D) | ins (c : Nat) (fs : List D)
  /-- a tuple that was made here (its object has no names of its own) -/
  | tpl (xs : List D)
  /-- an exception of class c that was caught -/
  | exo (c : Nat)
  /-- an exception of class c, with one field of its own -/
  | exf (c : Nat) (d : D)

abbrev Hd := List Ob
abbrev Sg := List (Option D)

inductive Res (α : Type) where
  | ok (a : α) (h : Hd) | exc (c : Nat) (xs : List D) (h : Hd) | bad

def Res.bind {α β : Type} (r : Res α) (f : α → Hd → Res β) : Res β :=
  match r with
  | .ok a h => f a h
  | .exc c xs h => .exc c xs h
  | .bad => .bad
@[simp] theorem Res.bind_ok {α β : Type} (a : α) (h : Hd) (f : α → Hd → Res β) : (Res.ok a h).bind f = f a h := rfl
@[simp] theorem Res.bind_bad {α β : Type} (f : α → Hd → Res β) : (Res.bad : Res α).bind f = .bad := rfl
@[simp] theorem Res.bind_exc {α β : Type} (c : Nat) (xs : List D) (h : Hd) (f : α → Hd → Res β) : (Res.exc c xs h : Res α).bind f = .exc c xs h := rfl
theorem Res.bind_eq_ok {α β : Type} {r : Res α} {f : α → Hd → Res β} {b : β} {h' : Hd} (e : r.bind f = .ok b h') : ∃ a h, r = .ok a h ∧ f a h = .ok b h' := by
  cases r with
  | ok a h => exact ⟨a, h, rfl, e⟩
  | exc c xs h => cases e
  | bad => cases e

abbrev EE := Sg → Hd → Res D
abbrev ET := Sg → Hd → Res Bool
abbrev EA := Sg → Hd → Res (List D)
abbrev EF := List D → Hd → Res D
abbrev EG := D → Sg → Hd → Res Sg
/-- where a statement ends -/
inductive Fl where
  | nx (σ : Sg) | rt (d : D) | bk (σ : Sg) | ct (σ : Sg)
abbrev SS := Sg → Hd → Res Fl
/-- what is walked: the items, the changeable lists among what they are read off -/
structure Walked where
  items : List D
  chk : List (Nat × List D)
abbrev EI := Sg → Hd → Res Walked

/-- the most things in one list -/
def LIM : Nat := 1000000

def eVar (i : Nat) : EE := fun σ h => match σ[i]? with
  | some (some d) => .ok d h
  | _ => .bad
def eC (d : D) : EE := fun _ h => .ok d h
def aNil : EA := fun _ h => .ok [] h
def aCons (f : EE) (g : EA) : EA := fun σ h => (f σ h).bind fun d h1 => (g σ h1).bind fun ds h2 => .ok (d :: ds) h2
/-- a value of values: operators, built-ins, calls -/
def eAp (g : EF) (a : EA) : EE := fun σ h => (a σ h).bind g
def eAp1 (g : EF) (a : EE) : EE := eAp g (aCons a aNil)
def eAp2 (g : EF) (a b : EE) : EE := eAp g (aCons a (aCons b aNil))
/-- a test: a truth value -/
def tB (f : EE) : ET := fun σ h => (f σ h).bind fun d h1 => match d with
  | .bl b => .ok b h1
  | _ => .bad
def tAnd (f g : ET) : ET := fun σ h => (f σ h).bind fun b h1 => if b = true then g σ h1 else .ok false h1
def tOr (f g : ET) : ET := fun σ h => (f σ h).bind fun b h1 => if b = true then .ok true h1 else g σ h1
def tNot (f : ET) : ET := fun σ h => (f σ h).bind fun b h1 => .ok (!b) h1
def tTT : ET := fun _ h => .ok true h
def eT (f : ET) : EE := fun σ h => (f σ h).bind fun b h1 => .ok (.bl b) h1
def eIf (c : ET) (f g : EE) : EE := fun σ h => (c σ h).bind fun b h1 => if b = true then f σ h1 else g σ h1

/-- a and b, a or b as values: a a truth value -/
def eAnd (f g : EE) : EE := fun σ h => (f σ h).bind fun d h1 => match d with
  | .bl b => if b = true then g σ h1 else .ok (.bl false) h1
  | _ => .bad
def eOr (f g : EE) : EE := fun σ h => (f σ h).bind fun d h1 => match d with
  | .bl b => if b = true then .ok (.bl true) h1 else g σ h1
  | _ => .bad
def eNot (f : EE) : EE := fun σ h => (f σ h).bind fun d h1 => match d with
  | .bl b => .ok (.bl (!b)) h1
  | _ => .bad
/-- a < b < c -/
def eCh (g g' : EF) (a b c : EE) : EE := fun σ h => (a σ h).bind fun x h1 => (b σ h1).bind fun y h2 => (g [x, y] h2).bind fun z h3 => match z with
  | .bl k => if k = true then (c σ h3).bind fun u h4 => g' [y, u] h4 else .ok (.bl false) h3
  | _ => .bad
/-- a part of a slice -/
def oNo : Sg → Hd → Res (Option Int) := fun _ h => .ok none h
def oP (f : EE) : Sg → Hd → Res (Option Int) := fun σ h => (f σ h).bind fun d h1 => match d with
  | .int i => .ok (some i) h1
  | _ => .bad
def eSl (g : D → Option Int → Option Int → Hd → Res D) (f : EE) (lo hi : Sg → Hd → Res (Option Int)) : EE := fun σ h =>
  (f σ h).bind fun x h1 => (lo σ h1).bind fun l h2 => (hi σ h2).bind fun u h3 => g x l u h3
/-- the items of a list or tuple -/
def seqOf (h : Hd) : D → Option (List D)
  | .tup xs => some xs
  | .lst xs => some xs
  | .ref a => match h[a]? with
    | some (.lst xs) => some xs
    | _ => none
  | _ => none
def lstOf (h : Hd) : D → Option (List D)
  | .lst xs => some xs
  | .ref a => match h[a]? with
    | some (.lst xs) => some xs
    | _ => none
  | _ => none
def chkOf (h : Hd) : D → List (Nat × List D)
  | .ref a => match h[a]? with
    | some (.lst xs) => [(a, xs)]
    | _ => []
  | _ => []

def sNop : SS := fun σ h => .ok (.nx σ) h
def sSeq (s t : SS) : SS := fun σ h => (s σ h).bind fun f h1 => match f with
  | .nx σ1 => t σ1 h1
  | f => .ok f h1
def sEx (f : EE) : SS := fun σ h => (f σ h).bind fun _ h1 => .ok (.nx σ) h1
def sRet (f : EE) : SS := fun σ h => (f σ h).bind fun d h1 => .ok (.rt d) h1
def sIf (c : ET) (s t : SS) : SS := fun σ h => (c σ h).bind fun b h1 => if b = true then s σ h1 else t σ h1
def sBrk : SS := fun σ h => .ok (.bk σ) h
def sCnt : SS := fun σ h => .ok (.ct σ) h
def sAsg (f : EE) (g : EG) : SS := fun σ h => (f σ h).bind fun d h1 => (g d σ h1).bind fun σ1 h2 => .ok (.nx σ1) h2
def gVar (i : Nat) : EG := fun d σ h => .ok (σ.set i (some d)) h
/-- several targets -/
def gAll : List EG → List D → Sg → Hd → Res Sg
  | [], [], σ, h => .ok σ h
  | g :: gs, d :: ds, σ, h => (g d σ h).bind fun σ1 h1 => gAll gs ds σ1 h1
  | _, _, _, _ => .bad
def gTup (gs : List EG) : EG := fun d σ h => match d with
  | .tup xs => gAll gs xs σ h
  | _ => .bad
/-- o[i] = d, by values -/
def gSub (o i : EE) (st : EF) : EG := fun d σ h => (o σ h).bind fun x h1 => (i σ h1).bind fun y h2 => (st [x, y, d] h2).bind fun _ h3 => .ok σ h3
/-- name op= e -/
def sAug (i : Nat) (f : EE) (g : EF) : SS := fun σ h => match σ[i]? with
  | some (some d) => (f σ h).bind fun e h1 => (g [d, e] h1).bind fun r h2 => .ok (.nx (σ.set i (some r))) h2
  | _ => .bad
/-- o[i] op= e -/
def sAugS (o i e : EE) (gt op st : EF) : SS := fun σ h => (o σ h).bind fun x h1 => (i σ h1).bind fun y h2 => (gt [x, y] h2).bind fun old h3 =>
  (e σ h3).bind fun z h4 => (op [old, z] h4).bind fun new h5 => (st [x, y, new] h5).bind fun _ h6 => .ok (.nx σ) h6

def okChk (chk : List (Nat × List D)) (h : Hd) : Prop := ∀ p ∈ chk, h[p.1]? = some (.lst p.2)
@[simp] theorem okChk_nil (h : Hd) : okChk [] h := fun _ hp => nomatch hp

open Classical in
noncomputable def forF (g : EG) (body : SS) (chk : List (Nat × List D)) : List D → Sg → Hd → Res Fl
  | [], σ, h => if okChk chk h then .ok (.nx σ) h else .bad
  | x :: xs, σ, h => if okChk chk h then (g x σ h).bind fun σ1 h1 => (body σ1 h1).bind fun f h2 => match f with
      | .nx σ2 => forF g body chk xs σ2 h2
      | .ct σ2 => forF g body chk xs σ2 h2
      | .bk σ2 => .ok (.nx σ2) h2
      | .rt d => .ok (.rt d) h2
    else .bad
noncomputable def sFor (g : EG) (it : EI) (body : SS) : SS := fun σ h => (it σ h).bind fun I h1 => forF g body I.chk I.items σ h1

def wipe (σ : Sg) : List Nat → Sg
  | [] => σ
  | v :: vs => (wipe σ vs).set v none
open Classical in
noncomputable def lcF (g : EG) (c : ET) (e : Sg → Hd → Res (List D)) (chk : List (Nat × List D)) (σ : Sg) : List D → Hd → Res (List D)
  | [], h => if okChk chk h then .ok [] h else .bad
  | x :: xs, h => if okChk chk h then (g x σ h).bind fun σ1 h1 => (c σ1 h1).bind fun b h2 =>
      if b = true then (e σ1 h2).bind fun ys h3 => (lcF g c e chk σ xs h3).bind fun zs h4 => .ok (ys ++ zs) h4
      else lcF g c e chk σ xs h2
    else .bad
def lcOne (e : EE) : Sg → Hd → Res (List D) := fun σ h => (e σ h).bind fun d h1 => .ok [d] h1
/-- a clause more -/
noncomputable def lcIn (vs : List Nat) (it : EI) (g : EG) (c : ET) (e : Sg → Hd → Res (List D)) : Sg → Hd → Res (List D) := fun σ h =>
  (it σ h).bind fun I h1 => lcF g c e I.chk (wipe σ vs) I.items h1
/-- the list that a comprehension leaves: as a value, or as a list that may change -/
def lcEnd (rf : Bool) (ys : List D) (h1 : Hd) : Res D := if ys.length ≤ LIM then (if rf = true then .ok (.ref h1.length) (h1 ++ [.lst ys]) else .ok (.lst ys) h1) else .bad
noncomputable def eLc (rf : Bool) (vs : List Nat) (it : EI) (g : EG) (c : ET) (e : Sg → Hd → Res (List D)) : EE := fun σ h =>
  (lcIn vs it g c e σ h).bind fun ys h1 => lcEnd rf ys h1
def noRef (n : Nat) : D → Bool
  | .ref a => decide (a < n)
  | .tup xs => go xs
  | .lst xs => go xs
  | .dct ks vs => go ks && go vs
  | .dcT ks vs => go ks && go vs
  | _ => true
where go : List D → Bool
  | [] => true
  | d :: ds => noRef n d && go ds
def obNoRef (n : Nat) : Ob → Bool
  | .lst xs => xs.all (noRef n)
  | .dct ks vs => ks.all (noRef n) && vs.all (noRef n)
  | .dcT ks vs => ks.all (noRef n) && vs.all (noRef n)
  | .ins _ fs => fs.all (noRef n)
  | .tpl xs => xs.all (noRef n)
  | .exo _ => true
  | .exf _ d => noRef n d
/-- what a def hands back, its own lists frozen -/
def frz (h : Hd) (n : Nat) (d : D) : Option D :=
  if noRef n d = true then some d else match d with
    | .ref a => match h[a]? with
      | some (.lst xs) => if xs.all (noRef n) = true then some (.lst xs) else none
      | some (.dct ks vs) => if (ks.all (noRef n) && vs.all (noRef n)) = true then some (.dct ks vs) else none
      | some (.dcT ks vs) => if (ks.all (noRef n) && vs.all (noRef n)) = true then some (.dcT ks vs) else none
      | some (.tpl xs) => if xs.all (noRef n) = true then some (.tup xs) else none
      | _ => none
    | _ => none
/-- the older things are as they were, or bear nothing newer -/
def okOld (h h' : Hd) : Prop := ∀ a, a < h.length → ∃ o, h'[a]? = some o ∧ (h[a]? = some o ∨ obNoRef h.length o = true)
open Classical in
noncomputable def fin (h : Hd) (d : D) (h' : Hd) : Res D := if okOld h h' then match frz h' h.length d with
    | some d' => .ok d' (h'.take h.length)
    | none => .bad
  else .bad
/-- n parameters, m slots -/
noncomputable def fn (n m : Nat) (body : SS) : EF := fun ds h => if ds.length = n then
    (body (ds.map some ++ List.replicate (m - n) none) h).bind fun f h' => match f with
      | .rt d => fin h d h'
      | .nx _ => fin h .non h'
      | _ => .bad
  else .bad
/-- .. whose things stay (an __init__, a method that gives its object new lists) -/
def fnK (n m : Nat) (body : SS) : EF := fun ds h => if ds.length = n then
    (body (ds.map some ++ List.replicate (m - n) none) h).bind fun f h' => match f with
      | .rt d => .ok d h'
      | .nx _ => .ok .non h'
      | _ => .bad
  else .bad
end BR

namespace BR
open PySem L2

/-- the changeable things by number; addresses that nothing may name (a list that a comprehension fills) -/
structure W where
  io : List Addr
  rs : List Addr
/-- the classes: where each stands, the names of its fields in order -/
structure CT where
  ex : Nat → Addr
  cls : Nat → Addr × List Str := fun _ => (0, [])
  tab : List (Addr × Str) := []
  fld : Nat → Str := fun _ => Str.empty
instance : CoeFun CT fun _ => Nat → Addr × List Str := ⟨fun c n => (c.ex n, [])⟩
/-- what may lie at a reserved address -/
def Rsv : HO → Prop
  | .lst _ => True
  | .dK _ => True
  | _ => False

/-- the tables of code objects that lambdas are made of -/
def tabs (ct : CT) : List (Addr × Str) := ct.tab
theorem tabs_upd {T : List (Addr × Str)} {H : Hp} {p : Addr} {o : HO} (t : LamX.Tabs T H) (h1 : ∀ ps, H p ≠ some (.tbl ps)) (h2 : ∀ c q, H p ≠ some (LamX.CodeO c q)) : LamX.Tabs T (upd H p o) := fun x hx => by
  obtain ⟨ps, a1, a2, a3⟩ := t x hx
  refine ⟨ps, by rw [L2.upd_ne (fun z => h1 ps (by rw [← z]; exact a1))]; exact a1, a2, fun pos cv hc => ?_⟩
  obtain ⟨c, e, hq⟩ := a3 pos cv hc
  exact ⟨c, e, by rw [L2.upd_ne (fun z => h2 c x.2 (by rw [← z]; exact hq))]; exact hq⟩
theorem tabs_new {T : List (Addr × Str)} {H : Hp} {p : Addr} {o : HO} (t : LamX.Tabs T H) (hp : H p = none) : LamX.Tabs T (upd H p o) := tabs_upd t (fun _ z => by rw [hp] at z; cases z) (fun _ _ z => by rw [hp] at z; cases z)
/-- what nothing changes: code objects, the dicts of exceptions -/
def Fixd (c : Addr) (u : HO) : Prop := (∃ q, u = LamX.CodeO c q) ∨ ∃ fs, u = .xd fs
theorem fixd_ne {H : Hp} {p : Addr} (h1 : ∀ q, H p ≠ some (LamX.CodeO p q)) (h2 : ∀ fs, H p ≠ some (.xd fs)) : ∀ u, Fixd p u → H p ≠ some u := fun u f => by
  rcases f with ⟨q, rfl⟩ | ⟨fs, rfl⟩
  · exact h1 q
  · exact h2 fs
theorem fixd_of {H : Hp} {p : Addr} {v : HO} (e : H p = some v) (h1 : ∀ φ, v ≠ .ext φ) (h2 : ∀ fs, v ≠ .xd fs) : ∀ u, Fixd p u → H p ≠ some u :=
  fixd_ne (fun q z => by rw [e] at z; have z := Option.some.inj z; unfold LamX.CodeO at z; exact h1 _ z) fun fs z => h2 fs (by rw [e] at z; exact Option.some.inj z)
theorem co_upd {H : Hp} {p c : Addr} {o u : HO} (h : ∀ u, Fixd p u → H p ≠ some u) (f : Fixd c u) (z : H c = some u) : upd H p o c = some u := by
  rw [L2.upd_ne (fun e => h u (by rw [← e]; exact f) (by rw [← e]; exact z))]
  exact z
def keyD : Key → D
  | .inl i => .int i
  | .inr x => .str x
/-- a list of the written part -/
def KL (K : PySem.W.Frag) (a : Addr) (xs : List V) : Prop :=
  ∃ (o : Obj) (its : Array Value) (n : Nat), K.lookup a = some o ∧ o.cls = .type "list" ∧ o.dict = none ∧ o.data = .seq its n ∧ its.size ≤ sizeLine ∧ Vals xs its.toList
theorem SqL.ofKL {K : PySem.W.Frag} {H : Hp} {a : Addr} {xs : List V} (h : KL K a xs) : SqL K H a xs := .inr h
/-- the script -/
def Scr (K : PySem.W.Frag) (H : Hp) (a : Addr) (ns : List Int) : Prop := (∃ o, H a = some (.frz o (.lst (ns.map V.int)))) ∨ KL K a (ns.map V.int)
theorem Scr.seq {K : PySem.W.Frag} {H : Hp} {a : Addr} {ns : List Int} (h : Scr K H a ns) : SqL K H a (ns.map V.int) := by
  rcases h with ⟨o, h⟩ | h
  · exact .inl (.inr ⟨o, h⟩)
  · exact SqL.ofKL h
/-- nothing that may change -/
def Still (w : W) (a : Addr) : Prop := a ∉ w.io ∧ a ∉ w.rs

section
variable (K : PySem.W.Frag) (w : W) (H : Hp)
mutual
def RD : D → V → Prop
  | .non, v => v = .non
  | .bl b, v => v = .bl b
  | .int i, v => v = .int i
  | .str x, v => v = .str x
  | .tup xs, v => ∃ a vs, v = .ref a ∧ SqT K H a vs ∧ RDs xs vs
  | .lst xs, v => ∃ a vs, v = .ref a ∧ (H a = some (.lst vs) ∧ Still w a) ∧ RDs xs vs
  | .scr ns, v => ∃ a, v = .ref a ∧ Scr K H a ns
  | .dct ks us, v => ∃ a, v = .ref a ∧ Still w a ∧ ∃ kvs : List (Key × V), Rd H a (.dK kvs) ∧ ks = kvs.map (fun p => keyD p.1) ∧ RDs us (kvs.map (·.2))
  | .dcT ks us, v => ∃ a, v = .ref a ∧ Still w a ∧ ∃ kvs : List (List Key × V), Rd H a (.dT kvs) ∧ ks = kvs.map (fun p => D.tup (p.1.map keyD)) ∧ RDs us (kvs.map (·.2))
  | .ref n, v => ∃ a, v = .ref a ∧ w.io[n]? = some a
def RDs : List D → List V → Prop
  | [], vs => vs = []
  | d :: ds, vs => ∃ v r, vs = v :: r ∧ RD d v ∧ RDs ds r
end
/-- an exception's object as it lies -/
def excF (cls : Value) (d : Option Addr) (a : Addr) : Heap → Prop := fun h => ∃ oe, h.get? a = some oe ∧ L2N.Zn cls d oe ∧ ∃ vs, oe.data = .fields vs
/-- a changeable thing at its address -/
def RO (ct : CT) : Ob → Addr → Prop
  | .lst xs, a => ∃ vs, H a = some (.lst vs) ∧ RDs K w H xs vs
  | .dct ks us, a => ∃ kvs : List (Key × V), H a = some (.dK kvs) ∧ ks = kvs.map (fun p => keyD p.1) ∧ RDs K w H us (kvs.map (·.2))
  | .dcT ks us, a => ∃ kvs : List (List Key × V), H a = some (.dT kvs) ∧ ks = kvs.map (fun p => D.tup (p.1.map keyD)) ∧ RDs K w H us (kvs.map (·.2))
  | .tpl xs, a => ∃ o vs, H a = some (.frz o (.tup vs)) ∧ o.dict = none ∧ RDs K w H xs vs
  | .exo c, a => H a = some (.ext (excF (.ref (ct c).1) none a))
  | .exf c d, a => ∃ (dd : Addr) (v : V), H a = some (.ext (excF (.ref (ct c).1) (some dd) a)) ∧ H dd = some (.xd [(ct.fld c, v)]) ∧ RD K w H d v
  | .ins c fs, a => ∃ dx gs, H a = some (.ins (ct.cls c).1 dx gs) ∧ gs.map (·.1) = (ct.cls c).2.take fs.length ∧ fs.length ≤ (ct.cls c).2.length ∧ RDs K w H fs (gs.map (·.2))
structure SR (ct : CT) (h : Hd) : Prop where
  len : w.io.length = h.length
  nd : w.io.Nodup
  ap : ∀ a ∈ w.rs, a ∉ w.io
  tr : ∀ a ∈ w.rs, ∃ o, H a = some o ∧ Rsv o
  ob : ∀ (n : Nat) (o : Ob) (a : Addr), h[n]? = some o → w.io[n]? = some a → RO K w H ct o a
  tb : LamX.Tabs (tabs ct) H
def RS (σd : Sg) (σ : St) : Prop := σd.length = σ.length ∧ ∀ (i : Nat) (d : D), σd[i]? = some (some d) → ∃ v, σ[i]? = some (some v) ∧ RD K w H d v
end

section
variable {K : PySem.W.Frag} {w w' w1 w2 : W} {H H' H1 H2 : Hp} {ct : CT} {h h' : Hd} {σd : Sg} {σ : St} {p a : Addr} {o : HO}

mutual
theorem RD.mono (hT : ∀ a xs, SqT K H a xs → SqT K H' a xs) (hF : ∀ a o u, H a = some (.frz o u) → H' a = some (.frz o u)) (hL : ∀ a xs, H a = some (.lst xs) → Still w a → H' a = some (.lst xs) ∧ Still w' a)
    (hD : ∀ a kvs, Rd H a (.dK kvs) → Still w a → Rd H' a (.dK kvs) ∧ Still w' a) (hE : ∀ a kvs, Rd H a (.dT kvs) → Still w a → Rd H' a (.dT kvs) ∧ Still w' a)
    (hI : ∀ (n : Nat) a, w.io[n]? = some a → w'.io[n]? = some a) : ∀ (d : D) (v : V), RD K w H d v → RD K w' H' d v
  | .non, _, e => e
  | .bl _, _, e => e
  | .int _, _, e => e
  | .str _, _, e => e
  | .tup xs, v, ⟨a, vs, e, q, r⟩ => ⟨a, vs, e, hT a vs q, RDs.mono hT hF hL hD hE hI xs vs r⟩
  | .lst xs, v, ⟨a, vs, e, ⟨q, s⟩, r⟩ => ⟨a, vs, e, hL a vs q s, RDs.mono hT hF hL hD hE hI xs vs r⟩
  | .scr ns, v, ⟨a, e, .inl ⟨o, q⟩⟩ => ⟨a, e, .inl ⟨o, hF a o _ q⟩⟩
  | .scr ns, v, ⟨a, e, .inr q⟩ => ⟨a, e, .inr q⟩
  | .dct ks us, v, ⟨a, e, s, ⟨kvs, q, hk, r⟩⟩ => ⟨a, e, (hD a kvs q s).2, ⟨kvs, (hD a kvs q s).1, hk, RDs.mono hT hF hL hD hE hI us _ r⟩⟩
  | .dcT ks us, v, ⟨a, e, s, ⟨kvs, q, hk, r⟩⟩ => ⟨a, e, (hE a kvs q s).2, ⟨kvs, (hE a kvs q s).1, hk, RDs.mono hT hF hL hD hE hI us _ r⟩⟩
  | .ref n, v, ⟨a, e, q⟩ => ⟨a, e, hI n a q⟩
theorem RDs.mono (hT : ∀ a xs, SqT K H a xs → SqT K H' a xs) (hF : ∀ a o u, H a = some (.frz o u) → H' a = some (.frz o u)) (hL : ∀ a xs, H a = some (.lst xs) → Still w a → H' a = some (.lst xs) ∧ Still w' a)
    (hD : ∀ a kvs, Rd H a (.dK kvs) → Still w a → Rd H' a (.dK kvs) ∧ Still w' a) (hE : ∀ a kvs, Rd H a (.dT kvs) → Still w a → Rd H' a (.dT kvs) ∧ Still w' a)
    (hI : ∀ (n : Nat) a, w.io[n]? = some a → w'.io[n]? = some a) : ∀ (ds : List D) (vs : List V), RDs K w H ds vs → RDs K w' H' ds vs
  | [], _, e => e
  | d :: ds, vs, ⟨v, r, e, q, t⟩ => ⟨v, r, e, RD.mono hT hF hL hD hE hI d v q, RDs.mono hT hF hL hD hE hI ds r t⟩
end
theorem RDs.of_rd (f : ∀ d v, RD K w H d v → RD K w' H' d v) : ∀ {ds : List D} {vs : List V}, RDs K w H ds vs → RDs K w' H' ds vs
  | [], _, e => e
  | d :: ds, vs, ⟨v, r, e, q, t⟩ => ⟨v, r, e, f d v q, RDs.of_rd f t⟩
theorem RDs.len : ∀ {ds : List D} {vs : List V}, RDs K w H ds vs → ds.length = vs.length
  | [], _, e => by cases (show _ = [] from e); rfl
  | d :: ds, vs, ⟨v, r, e, q, t⟩ => by subst e; simp [RDs.len t]
theorem RDs.nil : RDs K w H [] [] := rfl
theorem RDs.cons {d : D} {v : V} {ds : List D} {vs : List V} (a : RD K w H d v) (b : RDs K w H ds vs) : RDs K w H (d :: ds) (v :: vs) := ⟨v, vs, rfl, a, b⟩
theorem RDs.append : ∀ {ds es : List D} {vs us : List V}, RDs K w H ds vs → RDs K w H es us → RDs K w H (ds ++ es) (vs ++ us)
  | [], _, _, _, e, t => by cases (show _ = [] from e); exact t
  | d :: ds, es, vs, us, ⟨v, r, e, q, t⟩, z => by subst e; exact .cons q (RDs.append t z)
theorem RDs.get : ∀ {ds : List D} {vs : List V} {i : Nat} {d : D}, RDs K w H ds vs → ds[i]? = some d → ∃ v, vs[i]? = some v ∧ RD K w H d v
  | [], _, _, _, _, e => by simp at e
  | d :: ds, _, 0, _, ⟨v, r, e, q, t⟩, z => by subst e; simp at z; subst z; exact ⟨v, rfl, q⟩
  | d :: ds, _, i + 1, x, ⟨v, r, e, q, t⟩, z => by
    subst e
    obtain ⟨u, h1, h2⟩ := RDs.get (i := i) t (by simpa using z)
    exact ⟨u, by simpa using h1, h2⟩
theorem RDs.take : ∀ {ds : List D} {vs : List V} (n : Nat), RDs K w H ds vs → RDs K w H (ds.take n) (vs.take n)
  | _, _, 0, _ => rfl
  | [], _, n + 1, e => by cases (show _ = [] from e); rfl
  | d :: ds, _, n + 1, ⟨v, r, e, q, t⟩ => by subst e; exact .cons q (RDs.take n t)
theorem RDs.drop : ∀ {ds : List D} {vs : List V} (n : Nat), RDs K w H ds vs → RDs K w H (ds.drop n) (vs.drop n)
  | _, _, 0, e => e
  | [], _, n + 1, e => by cases (show _ = [] from e); rfl
  | d :: ds, _, n + 1, ⟨v, r, e, q, t⟩ => by subst e; exact RDs.drop n t
theorem RDs.set {x : D} {u : V} (q : RD K w H x u) : ∀ {ds : List D} {vs : List V} (i : Nat), RDs K w H ds vs → RDs K w H (ds.set i x) (vs.set i u)
  | [], _, _, e => by cases (show _ = [] from e); rfl
  | d :: ds, _, 0, ⟨v, r, e, z, t⟩ => by subst e; exact .cons q t
  | d :: ds, _, i + 1, ⟨v, r, e, z, t⟩ => by subst e; exact .cons z (RDs.set q i t)
theorem RDs.two {ds : List D} {x y : V} (r : RDs K w H ds [x, y]) : ∃ d e, ds = [d, e] ∧ RD K w H d x ∧ RD K w H e y := by
  match ds, r with
  | [d, e], ⟨_, _, e1, q1, _, _, e2, q2, _⟩ => cases e1; cases e2; exact ⟨d, e, rfl, q1, q2⟩
  | [d], ⟨_, _, e1, _, e2⟩ => cases e1; cases (show _ = [] from e2)
  | [], e => cases (show _ = [] from e)
  | d :: e :: f :: r, ⟨_, _, e1, _, _, _, e2, _, _, _, e3, _⟩ => cases e1; cases e2; cases e3
theorem RDs.one {ds : List D} {x : V} (r : RDs K w H ds [x]) : ∃ d, ds = [d] ∧ RD K w H d x := by
  match ds, r with
  | [d], ⟨_, _, e1, q1, _⟩ => cases e1; exact ⟨d, rfl, q1⟩
  | [], e => cases (show _ = [] from e)
  | d :: e :: r, ⟨_, _, e1, _, _, _, e2, _⟩ => cases e1; cases e2
theorem RDs.zero {ds : List D} (r : RDs K w H ds []) : ds = [] := by
  match ds, r with
  | [], _ => rfl
  | d :: r, ⟨_, _, e1, _⟩ => cases e1
theorem RDs.ints : ∀ {ns : List Int} {vs : List V}, RDs K w H (ns.map D.int) vs → vs = ns.map V.int
  | [], _, e => e
  | n :: ns, vs, ⟨v, r, e, q, t⟩ => by
    subst e
    cases (show v = _ from q)
    rw [RDs.ints t]; rfl
theorem RDs.of_ints : ∀ {ns : List Int}, RDs K w H (ns.map D.int) (ns.map V.int)
  | [] => rfl
  | n :: ns => .cons rfl RDs.of_ints

structure Step (K : PySem.W.Frag) (w : W) (H : Hp) (w' : W) (H' : Hp) : Prop where
  pre : ∃ m, w'.io = w.io ++ m
  rs : w'.rs = w.rs
  kp : ∀ a ∈ w.rs, H' a = H a
  rd : ∀ d v, RD K w H d v → RD K w' H' d v
  co : ∀ c u, Fixd c u → H c = some u → H' c = some u
theorem Step.refl : Step K w H w H := ⟨⟨[], by simp⟩, rfl, fun _ _ => rfl, fun _ _ r => r, fun _ _ _ z => z⟩
theorem Step.trans (a : Step K w H w1 H1) (b : Step K w1 H1 w2 H2) : Step K w H w2 H2 := by
  obtain ⟨m1, e1⟩ := a.pre
  obtain ⟨m2, e2⟩ := b.pre
  exact ⟨⟨m1 ++ m2, by rw [e2, e1, List.append_assoc]⟩, b.rs.trans a.rs, fun c hc => (b.kp c (by rw [a.rs]; exact hc)).trans (a.kp c hc), fun d v r => b.rd d v (a.rd d v r), fun c u f z => b.co c u f (a.co c u f z)⟩
theorem Step.rds (s : Step K w H w' H') {ds : List D} {vs : List V} (r : RDs K w H ds vs) : RDs K w' H' ds vs := RDs.of_rd s.rd r
theorem Step.rsg (s : Step K w H w' H') (r : RS K w H σd σ) : RS K w' H' σd σ := ⟨r.1, fun i d e => by
  obtain ⟨v, h1, h2⟩ := r.2 i d e
  exact ⟨v, h1, s.rd d v h2⟩⟩

theorem SR.tracked (s : SR K w H ct h) (ha : a ∈ w.io) : ∃ u, H a = some u := by
  obtain ⟨n, hn, e⟩ := List.getElem_of_mem ha
  have hn' : n < h.length := by rw [← s.len]; exact hn
  have q := s.ob n h[n] a (by simp [hn']) (by rw [← e]; simp [hn])
  generalize h[n] = ob at q
  cases ob with
  | lst xs => obtain ⟨vs, e, _⟩ := q; exact ⟨_, e⟩
  | dct ks us => obtain ⟨kvs, e, _⟩ := q; exact ⟨_, e⟩
  | dcT ks us => obtain ⟨kvs, e, _⟩ := q; exact ⟨_, e⟩
  | ins c fs => obtain ⟨dx, gs, e, _⟩ := q; exact ⟨_, e⟩
  | tpl xs => obtain ⟨o, vs, e, _⟩ := q; exact ⟨_, e⟩
  | exo c => exact ⟨_, q⟩
  | exf c d => obtain ⟨dd, v, e, _⟩ := q; exact ⟨_, e⟩
/-- a thing that may be written -/
def Soft (h : Hd) (n : Nat) : Prop := ∃ o, h[n]? = some o ∧ (∀ xs, o ≠ .tpl xs) ∧ (∀ c, o ≠ .exo c) ∧ ∀ c d, o ≠ .exf c d
theorem SR.soft {n : Nat} (s : SR K w H ct h) (hn : w.io[n]? = some a) (so : Soft h n) : (∀ xs, H a ≠ some (.tup xs)) ∧ ∀ o u, H a ≠ some (.frz o u) := by
  obtain ⟨ob, e, ne, _⟩ := so
  have q := s.ob n ob a e hn
  cases ob with
  | lst xs => obtain ⟨vs, e, _⟩ := q; rw [e]; exact ⟨(fun _ z => by cases z), fun _ _ z => by cases z⟩
  | dct ks us => obtain ⟨kvs, e, _⟩ := q; rw [e]; exact ⟨(fun _ z => by cases z), fun _ _ z => by cases z⟩
  | dcT ks us => obtain ⟨kvs, e, _⟩ := q; rw [e]; exact ⟨(fun _ z => by cases z), fun _ _ z => by cases z⟩
  | ins c fs => obtain ⟨dx, gs, e, _⟩ := q; rw [e]; exact ⟨(fun _ z => by cases z), fun _ _ z => by cases z⟩
  | tpl xs => exact absurd rfl (ne xs)
  | exo c => rw [show H a = _ from q]; exact ⟨(fun _ z => by cases z), fun _ _ z => by cases z⟩
  | exf c d => obtain ⟨dd, v, e, _⟩ := q; rw [e]; exact ⟨(fun _ z => by cases z), fun _ _ z => by cases z⟩
theorem SR.softT {n : Nat} (s : SR K w H ct h) (hn : w.io[n]? = some a) (so : Soft h n) : (∀ ps, H a ≠ some (.tbl ps)) ∧ (∀ c q, H a ≠ some (LamX.CodeO c q)) ∧ ∀ fs, H a ≠ some (.xd fs) := by
  obtain ⟨ob, e, n1, n2, n3⟩ := so
  have q := s.ob n ob a e hn
  have no : ∀ {u : HO}, H a = some u → (∀ ps, u ≠ .tbl ps) → (∀ f, u ≠ .ext f) → (∀ f, u ≠ .xd f) → (∀ ps, H a ≠ some (.tbl ps)) ∧ (∀ c q, H a ≠ some (LamX.CodeO c q)) ∧ ∀ fs, H a ≠ some (.xd fs) := fun {u} e h1 h2 h3 => by
    rw [e]
    refine ⟨fun ps z => h1 ps (Option.some.inj z), fun c q z => ?_, fun fs z => h3 fs (Option.some.inj z)⟩
    have z := Option.some.inj z
    unfold LamX.CodeO at z
    exact h2 _ z
  cases ob with
  | lst xs => obtain ⟨vs, e, _⟩ := q; exact no e (fun _ z => by cases z) (fun _ z => by cases z) fun _ z => by cases z
  | dct ks us => obtain ⟨kvs, e, _⟩ := q; exact no e (fun _ z => by cases z) (fun _ z => by cases z) fun _ z => by cases z
  | dcT ks us => obtain ⟨kvs, e, _⟩ := q; exact no e (fun _ z => by cases z) (fun _ z => by cases z) fun _ z => by cases z
  | ins c fs => obtain ⟨dx, gs, e, _⟩ := q; exact no e (fun _ z => by cases z) (fun _ z => by cases z) fun _ z => by cases z
  | tpl xs => exact absurd rfl (n1 xs)
  | exo c => exact absurd rfl (n2 c)
  | exf c d => exact absurd rfl (n3 c d)
theorem SR.fresh (s : SR K w H ct h) (hp : H p = none) : Still w p := by
  refine ⟨fun m => ?_, fun m => ?_⟩
  · obtain ⟨u, e⟩ := s.tracked m
    rw [hp] at e; cases e
  · obtain ⟨u, e, _⟩ := s.tr p m
    rw [hp] at e; cases e
theorem Rd.upd_ne {u : HO} (q : Rd H a u) (ne : a ≠ p) : Rd (upd H p o) a u := by
  rcases q with q | ⟨x, q⟩
  · exact .inl (by rw [L2.upd_ne ne]; exact q)
  · exact .inr ⟨x, by rw [L2.upd_ne ne]; exact q⟩
theorem Rd.ne_of_none {u : HO} (q : Rd H a u) (hp : H p = none) : a ≠ p := by
  rintro rfl
  rcases q with q | ⟨x, q⟩ <;> (rw [hp] at q; cases q)
theorem SqT.upd_ne {xs : List V} (q : SqT K H a xs) (ne : a ≠ p ∨ (∀ xs, H p ≠ some (.tup xs)) ∧ ∀ o u, H p ≠ some (.frz o u)) : SqT K (upd H p o) a xs := by
  rcases q with q | q
  · refine .inl (Rd.upd_ne q ?_)
    rcases ne with ne | ⟨n1, n2⟩
    · exact ne
    · rintro rfl
      rcases q with q | ⟨x, q⟩
      · exact n1 _ q
      · exact n2 _ _ q
  · exact .inr q
theorem SR.ne_rs (s : SR K w H ct h) (hp : H p = none) : ∀ a ∈ w.rs, a ≠ p := fun a ha e => by
  obtain ⟨u, q, _⟩ := s.tr a ha
  rw [e, hp] at q; cases q
theorem SR.ne_io (s : SR K w H ct h) (hp : H p = none) : ∀ a ∈ w.io, a ≠ p := fun a ha e => (s.fresh hp).1 (e ▸ ha)
/-- all that was told stays, where the address written is a new one or a changeable thing's -/
theorem rd_upd (hp : (∀ xs, H p ≠ some (.tup xs)) ∧ ∀ o u, H p ≠ some (.frz o u)) (hs : ∀ a, Still w a → a = p → H a = none) (hi : ∀ (n : Nat) a, w.io[n]? = some a → w'.io[n]? = some a) (hw : ∀ a, a ≠ p → Still w a → Still w' a) : ∀ d v, RD K w H d v → RD K w' (upd H p o) d v := by
  have ne : ∀ {a u}, Rd H a u → Still w a → a ≠ p := fun {a u} q s e => Rd.ne_of_none q (hs a s e) rfl
  have nL : ∀ {a u}, H a = some u → Still w a → a ≠ p := fun {a u} q s e => by
    have z := hs a s e
    rw [q] at z; cases z
  exact RD.mono (fun a xs q => SqT.upd_ne q (.inr hp)) (fun a o u q => by rw [L2.upd_ne (fun e => hp.2 o u (by rw [← e]; exact q))]; exact q) (fun a xs q s => ⟨by rw [L2.upd_ne (nL q s)]; exact q, hw a (nL q s) s⟩) (fun a xs q s => ⟨Rd.upd_ne q (ne q s), hw a (ne q s) s⟩) (fun a xs q s => ⟨Rd.upd_ne q (ne q s), hw a (ne q s) s⟩) hi
theorem none_upd (hp : H p = none) : (∀ xs, H p ≠ some (.tup xs)) ∧ ∀ o u, H p ≠ some (.frz o u) := ⟨fun _ e => (by rw [hp] at e; cases e), fun _ _ e => (by rw [hp] at e; cases e)⟩
theorem RO.step {ob : Ob} (rd : ∀ d v, RD K w H d v → RD K w' H' d v) (e : H' a = H a) (fx : ∀ c u, Fixd c u → H c = some u → H' c = some u) (q : RO K w H ct ob a) : RO K w' H' ct ob a := by
  cases ob with
  | lst xs => obtain ⟨vs, q1, q2⟩ := q; exact ⟨vs, e.trans q1, RDs.of_rd rd q2⟩
  | dct ks us => obtain ⟨kvs, q1, q2, q3⟩ := q; exact ⟨kvs, e.trans q1, q2, RDs.of_rd rd q3⟩
  | dcT ks us => obtain ⟨kvs, q1, q2, q3⟩ := q; exact ⟨kvs, e.trans q1, q2, RDs.of_rd rd q3⟩
  | ins c fs => obtain ⟨dx, gs, q1, q2, q3, q4⟩ := q; exact ⟨dx, gs, e.trans q1, q2, q3, RDs.of_rd rd q4⟩
  | tpl xs => obtain ⟨o, vs, q1, q2, q3⟩ := q; exact ⟨o, vs, e.trans q1, q2, RDs.of_rd rd q3⟩
  | exo c => exact e.trans q
  | exf c d => obtain ⟨dd, v, q1, q2, q3⟩ := q; exact ⟨dd, v, e.trans q1, fx dd _ (.inr ⟨_, rfl⟩) q2, rd _ _ q3⟩
/-- a new thing that stays as it is -/
theorem Step.alloc (s : SR K w H ct h) (hp : H p = none) : Step K w H w (upd H p o) :=
  ⟨⟨[], by simp⟩, rfl, fun a ha => L2.upd_ne (s.ne_rs hp a ha), rd_upd (none_upd hp) (fun a _ e => by rw [e]; exact hp) (fun _ _ e => e) fun _ _ x => x, fun c u f z => co_upd (fun u _ z => by rw [hp] at z; cases z) f z⟩
theorem SR.alloc (s : SR K w H ct h) (hp : H p = none) : SR K w (upd H p o) ct h :=
  ⟨s.len, s.nd, s.ap, fun a ha => by rw [L2.upd_ne (s.ne_rs hp a ha)]; exact s.tr a ha,
    fun n ob a e1 e2 => (s.ob n ob a e1 e2).step (Step.alloc s hp).rd (L2.upd_ne (s.ne_io hp a (List.mem_of_getElem? e2))) (Step.alloc s hp).co, tabs_new s.tb hp⟩
/-- a new changeable thing -/
theorem Step.new (s : SR K w H ct h) (hp : H p = none) : Step K w H ⟨w.io ++ [p], w.rs⟩ (upd H p o) :=
  ⟨⟨[p], rfl⟩, rfl, fun a ha => L2.upd_ne (s.ne_rs hp a ha), rd_upd (none_upd hp) (fun a _ e => by rw [e]; exact hp) (fun n a e => by
    show (w.io ++ [p])[n]? = some a
    rw [List.getElem?_append_left (List.getElem?_eq_some_iff.mp e).1]; exact e) fun a ne x => ⟨by
      show a ∉ w.io ++ [p]
      simp only [List.mem_append, List.mem_singleton, not_or]; exact ⟨x.1, ne⟩, x.2⟩, fun c u f z => co_upd (fun u _ z => by rw [hp] at z; cases z) f z⟩
theorem SR.new {ob : Ob} (s : SR K w H ct h) (hp : H p = none) (q : RO K ⟨w.io ++ [p], w.rs⟩ (upd H p o) ct ob p) : SR K ⟨w.io ++ [p], w.rs⟩ (upd H p o) ct (h ++ [ob]) := by
  refine ⟨by simp [s.len], ?_, fun a ha m => ?_, fun a ha => by rw [L2.upd_ne (s.ne_rs hp a ha)]; exact s.tr a ha, fun n o' a e1 e2 => ?_, tabs_new s.tb hp⟩
  · show (w.io ++ [p]).Nodup
    rw [List.nodup_append]
    exact ⟨s.nd, by simp, fun a ha b hb e => by
      have : b = p := by simpa using hb
      exact s.ne_io hp a ha (e.trans this)⟩
  · have m : a ∈ w.io ++ [p] := m
    rcases List.mem_append.mp m with m | m
    · exact s.ap a ha m
    · exact s.ne_rs hp a ha (by simpa using m)
  · have e2 : (w.io ++ [p])[n]? = some a := e2
    by_cases hn : n < h.length
    · rw [List.getElem?_append_left hn] at e1
      rw [List.getElem?_append_left (by rw [s.len]; exact hn)] at e2
      exact (s.ob n o' a e1 e2).step (Step.new s hp).rd (L2.upd_ne (s.ne_io hp a (List.mem_of_getElem? e2))) (Step.new s hp).co
    · have l := s.len
      have hn2 : n = h.length := by
        have := (List.getElem?_eq_some_iff.mp e1).1
        simp at this; omega
      subst hn2
      rw [List.getElem?_append_right (by omega)] at e2
      rw [List.getElem?_append_right (by omega)] at e1
      simp only [Nat.sub_self, List.getElem?_cons_zero, Option.some.injEq] at e1
      have : h.length - w.io.length = 0 := by omega
      rw [this] at e2
      simp only [List.getElem?_cons_zero, Option.some.injEq] at e2
      subst e1; subst e2
      exact q
/-- a changeable thing is changed -/
theorem nd_at : ∀ {l : List Addr}, l.Nodup → ∀ {i j : Nat} {a : Addr}, l[i]? = some a → l[j]? = some a → i = j := fun nd i j a h1 h2 => by
  obtain ⟨l1, e1⟩ := List.getElem?_eq_some_iff.mp h1
  obtain ⟨l2, e2⟩ := List.getElem?_eq_some_iff.mp h2
  exact (List.getElem_inj nd).mp (e1.trans e2.symm)
theorem Step.mut (s : SR K w H ct h) {n : Nat} (hn : w.io[n]? = some p) (so : Soft h n) : Step K w H w (upd H p o) := by
  have hm := List.mem_of_getElem? hn
  exact ⟨⟨[], by simp⟩, rfl, fun a ha => L2.upd_ne fun z => s.ap a ha (z ▸ hm), rd_upd (s.soft hn so) (fun a st z => absurd (z ▸ hm) st.1) (fun _ _ e => e) fun _ _ x => x, fun c u f z => co_upd (fixd_ne ((s.softT hn so).2.1 p) (s.softT hn so).2.2) f z⟩
theorem SR.mut {ob : Ob} (s : SR K w H ct h) {n : Nat} (hn : w.io[n]? = some p) (so : Soft h n) (q : RO K w (upd H p o) ct ob p) : SR K w (upd H p o) ct (h.set n ob) := by
  have hm := List.mem_of_getElem? hn
  refine ⟨by simp [s.len], s.nd, s.ap, fun a ha => by rw [L2.upd_ne (show a ≠ p from fun z => s.ap a ha (z ▸ hm))]; exact s.tr a ha, fun m o' a e1 e2 => ?_, tabs_upd s.tb (s.softT hn so).1 (s.softT hn so).2.1⟩
  by_cases hmn : n = m
  · subst hmn
    rw [hn] at e2; cases e2
    have hl : n < h.length := by rw [← s.len]; exact (List.getElem?_eq_some_iff.mp hn).1
    rw [List.getElem?_set_self hl] at e1
    cases e1
    exact q
  · rw [List.getElem?_set_ne hmn] at e1
    exact (s.ob m o' a e1 e2).step (Step.mut s hn so).rd (L2.upd_ne fun z => hmn (nd_at s.nd hn (z ▸ e2))) (Step.mut s hn so).co

def okR {α β : Type} (K : PySem.W.Frag) (ct : CT) (rel : W → Hp → α → β → Prop) (r : Res α) (w : W) (H : Hp) (Q : β → Hp → Prop) : Prop :=
  match r with
  | .ok a h' => ∀ w' H' b, Step K w H w' H' → SR K w' H' ct h' → rel w' H' a b → Q b H'
  | _ => False
section
variable {α β γ δ : Type} {rel : W → Hp → α → β → Prop} {rel2 : W → Hp → γ → δ → Prop}
theorem okR.step {r : Res α} {Q : β → Hp → Prop} (s : Step K w H w1 H1) (q : okR K ct rel r w H Q) : okR K ct rel r w1 H1 Q := by
  cases r with
  | ok a h' => exact fun w' H' b st sr r => q w' H' b (s.trans st) sr r
  | exc _ _ _ => exact q
  | bad => exact q
theorem okR.bind {r : Res α} {f : α → Hd → Res γ} {Q : δ → Hp → Prop} (q : okR K ct rel2 (r.bind f) w H Q) :
    okR K ct rel r w H fun b H1 => ∃ w1 h1 a, Step K w H w1 H1 ∧ SR K w1 H1 ct h1 ∧ rel w1 H1 a b ∧ okR K ct rel2 (f a h1) w1 H1 Q := by
  cases r with
  | ok a h' => exact fun w' H' b st sr r => ⟨w', h', a, st, sr, r, q.step st⟩
  | exc _ _ _ => exact q
  | bad => exact q
theorem okR.bind0 {r : Res α} {f : α → Hd → Res γ} {Q : δ → Hp → Prop} (q : okR K ct rel2 (r.bind f) w H Q) :
    okR K ct rel r w H fun b H1 => ∃ w1 h1 a, Step K w H w1 H1 ∧ SR K w1 H1 ct h1 ∧ rel w1 H1 a b ∧ okR K ct rel2 (f a h1) w H Q := by
  cases r with
  | ok a h' => exact fun w' H' b st sr r => ⟨w', h', a, st, sr, r, q⟩
  | exc _ _ _ => exact q
  | bad => exact q
theorem okR.imp {r : Res α} {Q Q' : β → Hp → Prop} (q : okR K ct rel r w H Q) (f : ∀ b H', Q b H' → Q' b H') : okR K ct rel r w H Q' := by
  cases r with
  | ok a h' => exact fun w' H' b st sr r => f b H' (q w' H' b st sr r)
  | exc _ _ _ => exact q
  | bad => exact q
theorem okR.here {a : α} {b : β} {Q : β → Hp → Prop} (q : okR K ct rel (.ok a h) w H Q) (s : SR K w H ct h) (r : rel w H a b) : Q b H := q w H b .refl s r
end
abbrev rV (K : PySem.W.Frag) : W → Hp → D → V → Prop := fun w H => RD K w H
abbrev rVs (K : PySem.W.Frag) : W → Hp → List D → List V → Prop := fun w H => RDs K w H
abbrev rB : W → Hp → Bool → Bool → Prop := fun _ _ a b => a = b

def tE (K : PySem.W.Frag) (ct : CT) (f : EE) : TE := fun σ H Q => ∃ w h σd, SR K w H ct h ∧ RS K w H σd σ ∧ okR K ct (rV K) (f σd h) w H Q
def tA (K : PySem.W.Frag) (ct : CT) (f : EA) : TA := fun σ H Q => ∃ w h σd, SR K w H ct h ∧ RS K w H σd σ ∧ okR K ct (rVs K) (f σd h) w H Q
def tT (K : PySem.W.Frag) (ct : CT) (f : ET) : TT := fun σ H Q => ∃ w h σd, SR K w H ct h ∧ RS K w H σd σ ∧ okR K ct rB (f σd h) w H Q
/-- what a value of values asks -/
def rG (K : PySem.W.Frag) (ct : CT) (g : EF) : List V → Hp → VK → Prop := fun vs H Q => ∃ w h ds, SR K w H ct h ∧ RDs K w H ds vs ∧ okR K ct (rV K) (g ds h) w H Q
/-- where a statement ends -/
inductive FlV where
  | nx (σ : St) | rt (v : V) | bk (σ : St) | ct (σ : St)
def rF (K : PySem.W.Frag) : W → Hp → Fl → FlV → Prop := fun w H f p => match f, p with
  | .nx σd, .nx σ => RS K w H σd σ
  | .bk σd, .bk σ => RS K w H σd σ
  | .ct σd, .ct σ => RS K w H σd σ
  | .rt d, .rt v => RD K w H d v
  | _, _ => False
def endOf (E : Ends) : FlV → Hp → Prop
  | .nx σ, H => E.nx σ H
  | .bk σ, H => E.bk σ H
  | .ct σ, H => E.ct σ H
  | .rt v, H => E.rt v H
def tS (K : PySem.W.Frag) (ct : CT) (f : SS) : TS := fun E σ H => ∃ w h σd, SR K w H ct h ∧ RS K w H σd σ ∧ okR K ct (rF K) (f σd h) w H (endOf E)
def tG (K : PySem.W.Frag) (ct : CT) (g : EG) : TG := fun v σ H Q => ∃ w h σd d, SR K w H ct h ∧ RS K w H σd σ ∧ RD K w H d v ∧ okR K ct (fun w H => RS K w H) (g d σd h) w H Q
def tGs (K : PySem.W.Frag) (ct : CT) (gs : List EG) : TGs := fun vs σ H Q => ∃ w h σd ds, SR K w H ct h ∧ RS K w H σd σ ∧ RDs K w H ds vs ∧ okR K ct (fun w H => RS K w H) (gAll gs ds σd h) w H Q
def tO (K : PySem.W.Frag) (ct : CT) (f : Sg → Hd → Res (Option Int)) : TO := fun σ H Q => ∃ w h σd, SR K w H ct h ∧ RS K w H σd σ ∧ okR K ct (fun _ _ a b => a = b) (f σd h) w H Q

section
variable (ct : CT) (X : Cx)
abbrev SE (e : Expr) (f : EE) : Prop := PE X e (tE X.K ct f)
abbrev SA (es : List Expr) (f : EA) : Prop := PA X es (tA X.K ct f)
abbrev ST (e : Expr) (f : ET) : Prop := PT X e (tT X.K ct f)
abbrev SW (e : Expr) (f : ET) : Prop := PW X e (tT X.K ct f)
abbrev SX (s : Stmt) (f : SS) : Prop := PS X s (tS X.K ct f)
abbrev SXs (s : List Stmt) (f : SS) : Prop := PSs X s (tS X.K ct f)
end
theorem pe_imp {X : Cx} {e : Expr} {t t' : TE} (h : PE X e t) (i : ∀ σ H Q, t' σ H Q → t σ H Q) : PE X e t' := ⟨fun pins s σ H Q I q => h.run pins s σ H Q I (i σ H Q q)⟩
theorem pa_imp {X : Cx} {e : List Expr} {t t' : TA} (h : PA X e t) (i : ∀ σ H Q, t' σ H Q → t σ H Q) : PA X e t' := ⟨fun pos pins s σ H Q I q => h.run pos pins s σ H Q I (i σ H Q q)⟩
theorem pt_imp {X : Cx} {e : Expr} {t t' : TT} (h : PT X e t) (i : ∀ σ H Q, t' σ H Q → t σ H Q) : PT X e t' := ⟨fun pins s σ H Q I q => h.run pins s σ H Q I (i σ H Q q)⟩
theorem pw_imp {X : Cx} {e : Expr} {t t' : TT} (h : PW X e t) (i : ∀ σ H Q, t' σ H Q → t σ H Q) : PW X e t' := ⟨fun wh pins s σ H Q I q => h.run wh pins s σ H Q I (i σ H Q q)⟩
theorem ps_imp {X : Cx} {e : Stmt} {t t' : TS} (h : PS X e t) (i : ∀ E σ H, t' E σ H → t E σ H) : PS X e t' := ⟨fun pins s σ H D I q => h.run pins s σ H D I (i D σ H q)⟩
theorem pss_imp {X : Cx} {e : List Stmt} {t t' : TS} (h : PSs X e t) (i : ∀ E σ H, t' E σ H → t E σ H) : PSs X e t' := ⟨fun pins s σ H D I q => h.run pins s σ H D I (i D σ H q)⟩

section
variable {ct : CT} {X : Cx} {a b c e : Expr} {es rest : List Expr} {fa fb fc fe : EE} {ga gb gc : ET} {g : EF} {ha : EA} {pos : Pos}
theorem se_var {i : Nat} {x : Str} (h : PE X (.Name x pos) (tVar i)) : SE ct X (.Name x pos) (eVar i) := pe_imp h fun σ H Q ⟨w, h, σd, sr, rs, q⟩ => by
  unfold eVar at q
  split at q
  · rename_i d e
    obtain ⟨v, h1, h2⟩ := rs.2 i d e
    exact ⟨v, h1, q.here sr h2⟩
  · exact q.elim
theorem se_c {d : D} {v : V} (h : PE X e (tC v)) (r : ∀ w H, RD X.K w H d v) : SE ct X e (eC d) := pe_imp h fun σ H Q ⟨w, h, σd, sr, rs, q⟩ => q.here sr (r w H)
theorem se_int {i j} : SE ct X (.Constant (.int i) j pos) (eC (.int i)) := se_c pe_int fun _ _ => rfl
theorem se_bl {i j} : SE ct X (.Constant (.bool i) j pos) (eC (.bl i)) := se_c pe_bl fun _ _ => rfl
theorem se_str {i j} : SE ct X (.Constant (.str i) j pos) (eC (.str i)) := se_c pe_str fun _ _ => rfl
theorem sa_nil : SA ct X [] aNil := pa_imp pa_nil fun σ H Q ⟨w, h, σd, sr, rs, q⟩ => q.here sr RDs.nil
theorem sa_cons (h1 : SE ct X e fe) (h2 : SA ct X es ha) (hs : starEach (e :: es) X.env = (false, eval e X.env) :: starEach es X.env := by rfl) : SA ct X (e :: es) (aCons fe ha) :=
  pa_imp (pa_cons h1 h2 hs) fun σ H Q ⟨w, h, σd, sr, rs, q⟩ => by
    refine ⟨w, h, σd, sr, rs, (okR.bind (rel := rV X.K) q).imp fun x H1 ⟨w1, h1, d, st1, sr1, r1, q1⟩ => ?_⟩
    refine ⟨w1, h1, σd, sr1, st1.rsg rs, (okR.bind (rel := rVs X.K) q1).imp fun xs H2 ⟨w2, h2, ds, st2, sr2, r2, q2⟩ => ?_⟩
    exact q2.here sr2 (.cons (st2.rd _ _ r1) r2)
theorem eAp2_eq (σ : Sg) (h : Hd) : eAp2 g fa fb σ h = (fa σ h).bind fun x h1 => (fb σ h1).bind fun y h2 => g [x, y] h2 := by
  unfold eAp2 eAp aCons aNil
  cases fa σ h with
  | ok x h1 => simp only [Res.bind_ok]; cases fb σ h1 <;> rfl
  | exc => rfl
  | bad => rfl
theorem eAp1_eq (σ : Sg) (h : Hd) : eAp1 g fa σ h = (fa σ h).bind fun x h1 => g [x] h1 := by
  unfold eAp1 eAp aCons aNil
  cases fa σ h <;> rfl
theorem tOp_of {r : R2} (hr : ∀ x y H Q, rG X.K ct g [x, y] H Q → r x y H Q) {σ : St} {H : Hp} {Q : VK} (q : tE X.K ct (eAp2 g fa fb) σ H Q) : tOp r (tE X.K ct fa) (tE X.K ct fb) σ H Q := by
  obtain ⟨w, h, σd, sr, rs, q⟩ := q
  rw [eAp2_eq] at q
  refine ⟨w, h, σd, sr, rs, (okR.bind (rel := rV X.K) q).imp fun x H1 ⟨w1, h1, d, st1, sr1, r1, q1⟩ => ?_⟩
  refine ⟨w1, h1, σd, sr1, st1.rsg rs, (okR.bind (rel := rV X.K) q1).imp fun y H2 ⟨w2, h2, d2, st2, sr2, r2, q2⟩ => ?_⟩
  exact hr x y H2 Q ⟨w2, h2, [d, d2], sr2, .cons (st2.rd _ _ r1) (.cons r2 .nil), q2⟩
abbrev r2G (K : PySem.W.Frag) (ct : CT) (g : EF) : R2 := fun x y H Q => rG K ct g [x, y] H Q
theorem se_op {op : Operator} (ho : OpR X (binaryOp op) (r2G X.K ct g)) (h1 : SE ct X a fa) (h2 : SE ct X b fb) : SE ct X (.BinOp a op b pos) (eAp2 g fa fb) :=
  pe_imp (pe_op ho h1 h2) fun _ _ _ q => tOp_of (fun _ _ _ _ z => z) q
theorem se_cmp {op : CmpOp} (ho : OpR X (compareOp op) (r2G X.K ct g)) (h1 : SE ct X a fa) (h2 : SE ct X b fb) (hm : behindInMarks op b = false := by first | exact nomark _ (by decide) (by decide) | rfl) : SE ct X (.Compare a [op] [b] pos) (eAp2 g fa fb) :=
  pe_imp (pe_cmpR ho h1 h2 hm) fun _ _ _ q => tOp_of (fun _ _ _ _ z => z) q
theorem tTest_of {t : TE} (ht : ∀ σ H Q, tE X.K ct fa σ H Q → t σ H Q) {σ : St} {H : Hp} {Q : Bool → Hp → Prop} (q : tT X.K ct (tB fa) σ H Q) : t σ H fun x H1 => ∃ k, x = .bl k ∧ Q k H1 := by
  obtain ⟨w, h, σd, sr, rs, q⟩ := q
  refine ht _ _ _ ⟨w, h, σd, sr, rs, (okR.bind (rel := rV X.K) q).imp fun x H1 ⟨w1, h1, d, st1, sr1, r1, q1⟩ => ?_⟩
  cases d with
  | bl k => exact ⟨k, r1, q1.here sr1 rfl⟩
  | _ => exact q1.elim
theorem st_cmp {op : CmpOp} (ho : OpR X (compareOp op) (r2G X.K ct g)) (h1 : SE ct X a fa) (h2 : SE ct X b fb) (hm : behindInMarks op b = false := by first | exact nomark _ (by decide) (by decide) | rfl) : ST ct X (.Compare a [op] [b] pos) (tB (eAp2 g fa fb)) :=
  pt_imp (pt_cmpR ho h1 h2 hm) fun _ _ _ q => tTest_of (fun _ _ _ z => tOp_of (fun _ _ _ _ z => z) z) q
/-- an expression whose value is a truth value, as a test -/
theorem st_val (h : SE ct X e fe) (he : ∀ whole, isTrue e X.env whole = (do let v ← whole; standAt e.pos; holding [v] (truthy v)) := by intro _; rfl) : ST ct X e (tB fe) :=
  pt_imp (pt_val h he) fun _ _ _ q => tTest_of (t := tE X.K ct fe) (fun _ _ _ z => z) q
theorem tT_bind {f : ET} {k : Bool → ET} {σ : St} {H : Hp} {Q : Bool → Hp → Prop} (q : tT X.K ct (fun σ h => (f σ h).bind fun b h1 => k b σ h1) σ H Q) :
    tT X.K ct f σ H fun b H1 => tT X.K ct (k b) σ H1 Q := by
  obtain ⟨w, h, σd, sr, rs, q⟩ := q
  refine ⟨w, h, σd, sr, rs, (okR.bind (rel := rB) q).imp fun b H1 ⟨w1, h1, d, st1, sr1, r1, q1⟩ => ?_⟩
  cases r1
  exact ⟨w1, h1, σd, sr1, st1.rsg rs, q1⟩
theorem tT_ok {b : Bool} {σ : St} {H : Hp} {Q : Bool → Hp → Prop} (q : tT X.K ct (fun _ h => .ok b h) σ H Q) : Q b H := by
  obtain ⟨w, h, σd, sr, rs, q⟩ := q
  exact q.here sr rfl
theorem st_not (h : ST ct X a ga) : ST ct X (.UnaryOp .Not a pos) (tNot ga) := pt_imp (pt_not h) fun σ H Q q => by
  have := tT_bind (k := fun b _ h1 => .ok (!b) h1) q
  obtain ⟨w, h, σd, sr, rs, q⟩ := this
  exact ⟨w, h, σd, sr, rs, q.imp fun b H1 z => tT_ok z⟩
theorem tT_ite {b : Bool} {f k : ET} {σ : St} {H : Hp} {Q : Bool → Hp → Prop} (q : tT X.K ct (fun σ h => if b = true then f σ h else k σ h) σ H Q) : if b = true then tT X.K ct f σ H Q else tT X.K ct k σ H Q := by
  cases b with
  | true => exact q
  | false => exact q
theorem tT_imp {f : ET} {σ : St} {H : Hp} {Q Q' : Bool → Hp → Prop} (q : tT X.K ct f σ H Q) (i : ∀ b H, Q b H → Q' b H) : tT X.K ct f σ H Q' := by
  obtain ⟨w, h, σd, sr, rs, q⟩ := q
  exact ⟨w, h, σd, sr, rs, q.imp i⟩
theorem sw_or1 (h : ST ct X a ga) : SW ct X (.BoolOp .Or [a] pos) ga := pw_or1 h
theorem sw_or (h1 : ST ct X a ga) (h2 : SW ct X (.BoolOp .Or (b :: rest) pos) gb) : SW ct X (.BoolOp .Or (a :: b :: rest) pos) (tOr ga gb) := pw_imp (pw_or h1 h2) fun σ H Q q =>
  tT_imp (tT_bind (k := fun b σ h1 => if b = true then .ok true h1 else gb σ h1) q) fun b H1 z => by
    have z := tT_ite z
    cases b with
    | true => exact tT_ok z
    | false => exact z
theorem st_w (h : SW ct X e ga) : ST ct X e ga := h.pt
theorem se_one {op} {f : EE} (h : SE ct X a f) : SE ct X (.BoolOp op [a] pos) f := pe_one h
end
end
end BR

namespace BR
open PySem L2
section
variable {ct : CT} {X : Cx} {a b c e : Expr} {es rest : List Expr} {fa fb fc fe : EE} {ga gb gc : ET} {g : EF} {ha : EA} {pos : Pos}
theorem se_and (h1 : SE ct X a fa) (h2 : SE ct X (.BoolOp .And (b :: rest) pos) fb) : SE ct X (.BoolOp .And (a :: b :: rest) pos) (eAnd fa fb) := pe_imp (pe_and h1 h2) fun σ H Q ⟨w, h, σd, sr, rs, q⟩ => by
  refine ⟨w, h, σd, sr, rs, (okR.bind (rel := rV X.K) q).imp fun x H1 ⟨w1, h1, d, st1, sr1, r1, q1⟩ => ?_⟩
  cases d with
  | bl k =>
    refine ⟨k, r1, ?_⟩
    cases k with
    | true => exact ⟨w1, h1, σd, sr1, st1.rsg rs, q1⟩
    | false => exact q1.here sr1 rfl
  | _ => exact q1.elim
theorem se_ix (hr : IxR X (r2G X.K ct g)) (h1 : SE ct X a fa) (h2 : SE ct X b fb) (hs : PlainIx b := by exact fun _ _ => rfl) : SE ct X (.Subscript a b pos) (eAp2 g fa fb) :=
  pe_imp (pe_ix hr h1 h2 hs) fun _ _ _ q => tOp_of (fun _ _ _ _ z => z) q
abbrev rSG (K : PySem.W.Frag) (ct : CT) (g : D → Option Int → Option Int → Hd → Res D) : V → Option Int → Option Int → Hp → VK → Prop := fun x lo hi H Q => ∃ w h d, SR K w H ct h ∧ RD K w H d x ∧ okR K ct (rV K) (g d lo hi h) w H Q
abbrev SO (ct : CT) (X : Cx) (o : Option Expr) (f : Sg → Hd → Res (Option Int)) : Prop := PO X o (tO X.K ct f)
theorem po_imp {X : Cx} {e : Option Expr} {t t' : TO} (h : PO X e t) (i : ∀ σ H Q, t' σ H Q → t σ H Q) : PO X e t' := ⟨fun pins s σ H Q I q => h.run pins s σ H Q I (i σ H Q q)⟩
theorem so_no : SO ct X none oNo := po_imp po_none fun σ H Q ⟨w, h, σd, sr, rs, q⟩ => q.here sr rfl
theorem so_p (h1 : SE ct X a fa) : SO ct X (some a) (oP fa) := po_imp (po_some h1) fun σ H Q ⟨w, h, σd, sr, rs, q⟩ => by
  refine ⟨w, h, σd, sr, rs, (okR.bind (rel := rV X.K) q).imp fun x H1 ⟨w1, h1, d, st1, sr1, r1, q1⟩ => ?_⟩
  cases d with
  | int k => exact ⟨k, r1, q1.here sr1 rfl⟩
  | _ => exact q1.elim
theorem se_sl {gs : D → Option Int → Option Int → Hd → Res D} {lo hi : Option Expr} {p2 : Pos} {fl fu : Sg → Hd → Res (Option Int)} (hr : SlR X (rSG X.K ct gs)) (h1 : SE ct X a fa) (h2 : SO ct X lo fl) (h3 : SO ct X hi fu) :
    SE ct X (.Subscript a (.Slice lo hi none p2) pos) (eSl gs fa fl fu) := pe_imp (pe_slice hr h1 h2 h3) fun σ H Q ⟨w, h, σd, sr, rs, q⟩ => by
  refine ⟨w, h, σd, sr, rs, (okR.bind (rel := rV X.K) q).imp fun x H1 ⟨w1, h1, d, st1, sr1, r1, q1⟩ => ?_⟩
  refine ⟨w1, h1, σd, sr1, st1.rsg rs, (okR.bind (rel := fun _ _ a b => a = b) q1).imp fun l H2 ⟨w2, h2, l', st2, sr2, e2, q2⟩ => ?_⟩
  subst e2
  refine ⟨w2, h2, σd, sr2, st2.rsg (st1.rsg rs), (okR.bind (rel := fun _ _ a b => a = b) q2).imp fun u H3 ⟨w3, h3, u', st3, sr3, e3, q3⟩ => ?_⟩
  subst e3
  exact ⟨w3, h3, d, sr3, st3.rd _ _ (st2.rd _ _ r1), q3⟩
theorem tCB_of {σ : St} {H : Hp} {Q : VK} (q : tE X.K ct (eAp g ha) σ H Q) : tCB (rG X.K ct g) (tA X.K ct ha) σ H Q := by
  obtain ⟨w, h, σd, sr, rs, q⟩ := q
  exact ⟨w, h, σd, sr, rs, (okR.bind (rel := rVs X.K) q).imp fun x H1 ⟨w1, h1, ds, st1, sr1, r1, q1⟩ => ⟨w1, h1, ds, sr1, r1, q1⟩⟩
/-- a call of a built-in function or class -/
theorem se_cb {e' : Expr} (h2 : PE X e' (tCB (rG X.K ct g) (tA X.K ct ha))) : SE ct X e' (eAp g ha) := pe_imp h2 fun _ _ _ q => tCB_of q
/-- a display -/
theorem se_tup {x1} (h : SA ct X es ha) : SE ct X (.Tuple es x1 pos) (eAp (fun ds h => if ds.length ≤ LIM then .ok (.tup ds) h else .bad) ha) := pe_imp (pe_tup h) fun σ H Q ⟨w, h, σd, sr, rs, q⟩ => by
  refine ⟨w, h, σd, sr, rs, (okR.bind (rel := rVs X.K) q).imp fun xs H1 ⟨w1, h1, ds, st1, sr1, r1, q1⟩ => ?_⟩
  split at q1
  · rename_i hl
    refine ⟨by rw [← r1.len]; exact Nat.le_trans hl (by rw [sizeLine_eq]; decide), fun p hp => ?_⟩
    exact q1 w1 _ _ (.alloc sr1 hp) (sr1.alloc hp) ⟨p, xs, rfl, SqT.of upd_same, (Step.alloc sr1 hp).rds r1⟩
  · exact q1.elim
theorem se_lst (h : SA ct X es ha) : SE ct X (.List es pos) (eAp (fun ds h => if ds.length ≤ LIM then .ok (.lst ds) h else .bad) ha) := pe_imp (pe_lst h) fun σ H Q ⟨w, h, σd, sr, rs, q⟩ => by
  refine ⟨w, h, σd, sr, rs, (okR.bind (rel := rVs X.K) q).imp fun xs H1 ⟨w1, h1, ds, st1, sr1, r1, q1⟩ => ?_⟩
  split at q1
  · rename_i hl
    refine ⟨by rw [← r1.len]; exact Nat.le_trans hl (by rw [sizeLine_eq]; decide), fun p hp => ?_⟩
    exact q1 w1 _ _ (.alloc sr1 hp) (sr1.alloc hp) ⟨p, xs, rfl, ⟨upd_same, sr1.fresh hp⟩, (Step.alloc sr1 hp).rds r1⟩
  · exact q1.elim
theorem se_lstR (h : SA ct X es ha) : SE ct X (.List es pos) (eAp (fun ds h => if ds.length ≤ LIM then .ok (.ref h.length) (h ++ [.lst ds]) else .bad) ha) := pe_imp (pe_lst h) fun σ H Q ⟨w, h, σd, sr, rs, q⟩ => by
  refine ⟨w, h, σd, sr, rs, (okR.bind (rel := rVs X.K) q).imp fun xs H1 ⟨w1, h1, ds, st1, sr1, r1, q1⟩ => ?_⟩
  split at q1
  · rename_i hl
    refine ⟨by rw [← r1.len]; exact Nat.le_trans hl (by rw [sizeLine_eq]; decide), fun p hp => ?_⟩
    refine q1 _ _ _ (.new sr1 hp) (sr1.new hp ⟨xs, upd_same, (Step.new sr1 hp).rds r1⟩) ⟨p, rfl, ?_⟩
    show (w1.io ++ [p])[h1.length]? = some p
    rw [← sr1.len, List.getElem?_append_right (Nat.le_refl _), Nat.sub_self]; rfl
  · exact q1.elim
variable {s : Stmt} {ss : List Stmt} {f k : SS}
theorem tS_bind {α β : Type} {rel : W → Hp → α → β → Prop} {r : Sg → Hd → Res α} {k : α → SS} {E : Ends} {σ : St} {H : Hp} (q : tS X.K ct (fun σ h => (r σ h).bind fun a h1 => k a σ h1) E σ H) :
    ∃ w h σd, SR X.K w H ct h ∧ RS X.K w H σd σ ∧ okR X.K ct rel (r σd h) w H fun b H1 => ∃ w1 h1 a, SR X.K w1 H1 ct h1 ∧ RS X.K w1 H1 σd σ ∧ rel w1 H1 a b ∧ okR X.K ct (rF X.K) (k a σd h1) w1 H1 (endOf E) := by
  obtain ⟨w, h, σd, sr, rs, q⟩ := q
  exact ⟨w, h, σd, sr, rs, (okR.bind (rel := rel) q).imp fun b H1 ⟨w1, h1, a, st1, sr1, r1, q1⟩ => ⟨w1, h1, a, sr1, st1.rsg rs, r1, q1⟩⟩
theorem ss_nil : SXs ct X [] sNop := pss_imp pss_nil fun E σ H ⟨w, h, σd, sr, rs, q⟩ => okR.here (b := FlV.nx σ) q sr rs
theorem ss_one (h1 : SX ct X s f) : SXs ct X [s] f := pss_one h1
theorem tS_seq {k : SS} {E : Ends} {σ : St} {H : Hp} (q : tS X.K ct (sSeq f k) E σ H) : tS X.K ct f { E with nx := tS X.K ct k E } σ H := by
  obtain ⟨w, h, σd, sr, rs, q⟩ := q
  refine ⟨w, h, σd, sr, rs, (okR.bind (rel := rF X.K) q).imp fun b H1 ⟨w1, h1, fl, st1, sr1, r1, q1⟩ => ?_⟩
  cases fl with
  | nx σ1 => cases b with
    | nx σ2 => exact ⟨w1, h1, σ1, sr1, r1, q1⟩
    | _ => exact r1.elim
  | bk σ1 => cases b with
    | bk σ2 => exact okR.here (K := X.K) (ct := ct) (rel := rF X.K) (a := Fl.bk σ1) (b := FlV.bk σ2) (Q := endOf E) q1 sr1 r1
    | _ => exact r1.elim
  | ct σ1 => cases b with
    | ct σ2 => exact okR.here (K := X.K) (ct := ct) (rel := rF X.K) (a := Fl.ct σ1) (b := FlV.ct σ2) (Q := endOf E) q1 sr1 r1
    | _ => exact r1.elim
  | rt d => cases b with
    | rt v => exact okR.here (K := X.K) (ct := ct) (rel := rF X.K) (a := Fl.rt d) (b := FlV.rt v) (Q := endOf E) q1 sr1 r1
    | _ => exact r1.elim
theorem ss_cons (h1 : SX ct X s f) (h2 : SXs ct X ss k) : SXs ct X (s :: ss) (sSeq f k) := pss_imp (pss_cons h1 h2) fun E σ H q => tS_seq q
theorem sx_ret (h1 : SE ct X e fe) : SX ct X (.Return (some e) pos) (sRet fe) := ps_imp (ps_ret h1) fun E σ H q => by
  obtain ⟨w, h, σd, sr, rs, q⟩ := tS_bind (rel := rV X.K) q
  exact ⟨w, h, σd, sr, rs, q.imp fun b H1 ⟨w1, h1, a, sr1, rs1, r1, q1⟩ => okR.here (b := FlV.rt b) q1 sr1 r1⟩
theorem sx_if {t u : List Stmt} (h1 : ST ct X c gc) (h2 : SXs ct X t f) (h3 : SXs ct X u k) : SX ct X (.If c t u pos) (sIf gc f k) := ps_imp (ps_if h1 h2 h3) fun E σ H q => by
  obtain ⟨w, h, σd, sr, rs, q⟩ := tS_bind (rel := rB) (k := fun b σ h => if b = true then f σ h else k σ h) q
  refine ⟨w, h, σd, sr, rs, q.imp fun b H1 ⟨w1, h1, a, sr1, rs1, r1, q1⟩ => ?_⟩
  cases r1
  cases b with
  | true => exact ⟨w1, h1, σd, sr1, rs1, q1⟩
  | false => exact ⟨w1, h1, σd, sr1, rs1, q1⟩
abbrev SG (ct : CT) (X : Cx) (e : Expr) (g : EG) : Prop := PG X e (tG X.K ct g)
abbrev SGs (ct : CT) (X : Cx) (es : List Expr) (gs : List EG) : Prop := PGs X es (tGs X.K ct gs)
theorem pg_imp {X : Cx} {e : Expr} {t t' : TG} (h : PG X e t) (i : ∀ v σ H Q, t' v σ H Q → t v σ H Q) : PG X e t' := ⟨fun pins s σ H v u Q I r q => h.run pins s σ H v u Q I r (i v σ H Q q)⟩
theorem pgs_imp {X : Cx} {e : List Expr} {t t' : TGs} (h : PGs X e t) (i : ∀ v σ H Q, t' v σ H Q → t v σ H Q) : PGs X e t' := ⟨fun pins s σ H v u Q I r q => h.run pins s σ H v u Q I r (i v σ H Q q)⟩
theorem RS.set {K : PySem.W.Frag} {w : W} {H : Hp} {σd : Sg} {σ : St} (r : RS K w H σd σ) {d : D} {v : V} (q : RD K w H d v) (i : Nat) : RS K w H (σd.set i (some d)) (σ.set i (some v)) := by
  refine ⟨by simp [r.1], fun j x e => ?_⟩
  by_cases hj : i = j
  · subst hj
    by_cases hl : i < σd.length
    · rw [List.getElem?_set_self hl] at e
      cases e
      exact ⟨v, by rw [List.getElem?_set_self (by rw [← r.1]; exact hl)], q⟩
    · rw [List.getElem?_eq_none (by simp; omega)] at e; cases e
  · rw [List.getElem?_set_ne hj] at e
    obtain ⟨u, h1, h2⟩ := r.2 j x e
    exact ⟨u, by rw [List.getElem?_set_ne hj]; exact h1, h2⟩
theorem gName_of {i : Nat} : ∀ v σ H Q, tG X.K ct (gVar i) v σ H Q → gName i v σ H Q := fun v σ H Q ⟨w, h, σd, d, sr, rs, rd, q⟩ => okR.here (b := σ.set i (some v)) q sr (rs.set rd i)
theorem sg_var {i : Nat} {x : Str} (h : PG X (.Name x pos) (gName i)) : SG ct X (.Name x pos) (gVar i) := pg_imp h gName_of
theorem sgs_nil : SGs ct X [] [] := pgs_imp pgs_nil fun vs σ H Q ⟨w, h, σd, ds, sr, rs, rd, q⟩ => by
  cases ds with
  | nil => cases (show vs = [] from rd); exact ⟨rfl, q.here sr rs⟩
  | cons d ds => exact q.elim
theorem sgs_cons {gt : EG} {gts : List EG} (h1 : SG ct X e gt) (h2 : SGs ct X es gts) (hs : (assignEach (e :: es) X.env).map (·.2) = assign e X.env :: (assignEach es X.env).map (·.2) := by rfl) : SGs ct X (e :: es) (gt :: gts) :=
  pgs_imp (pgs_cons h1 h2 hs) fun vs σ H Q ⟨w, h, σd, ds, sr, rs, rd, q⟩ => by
    cases ds with
    | nil => exact q.elim
    | cons d ds =>
      obtain ⟨v, r, rfl, rv, rr⟩ := rd
      refine ⟨v, r, rfl, w, h, σd, d, sr, rs, rv, (okR.bind (rel := fun w H => RS X.K w H) q).imp fun σ1 H1 ⟨w1, h1, σd1, st1, sr1, r1, q1⟩ => ?_⟩
      exact ⟨w1, h1, σd1, ds, sr1, r1, st1.rds rr, q1⟩
theorem gAll_len {K : PySem.W.Frag} {w : W} {H : Hp} {Q : St → Hp → Prop} : ∀ (gs : List EG) (ds : List D) (σ : Sg) (h : Hd), okR K ct (fun w H => RS K w H) (gAll gs ds σ h) w H Q → ds.length = gs.length := by
  intro gs
  induction gs with
  | nil =>
    intro ds σ h q
    cases ds with
    | nil => rfl
    | cons => exact q.elim
  | cons g gs ih =>
    intro ds σ h q
    cases ds with
    | nil => exact q.elim
    | cons d ds =>
      have q : okR K ct (fun w H => RS K w H) ((g d σ h).bind fun σ1 h1 => gAll gs ds σ1 h1) w H Q := q
      cases e : g d σ h with
      | ok σ1 h1 => rw [e] at q; simp only [List.length_cons]; rw [ih ds σ1 h1 q]
      | exc => rw [e] at q; exact q.elim
      | bad => rw [e] at q; exact q.elim
theorem sg_tup {kk n : Nat} {gts : List EG} (hc : X.calm = true) (h1 : SGs ct X es gts) (hl : gts.length = n := by rfl)
    (hn : (assignEach es X.env).length = n := by rfl) (hst : (assignEach es X.env).findIdx? (·.1) = none := by rfl) : SG ct X (.Tuple es kk pos) (gTup gts) := pg_imp (pg_tup hc h1 hn hst) fun v σ H Q ⟨w, h, σd, d, sr, rs, rd, q⟩ => by
  cases d with
  | tup xs =>
    obtain ⟨a, vs, rfl, hq, rr⟩ := rd
    exact ⟨a, vs, rfl, hq, by rw [← rr.len, gAll_len _ _ _ _ q, hl], w, h, σd, xs, sr, rs, rr, q⟩
  | _ => exact q.elim
/-- a store into a thing, by values -/
abbrev rSet (K : PySem.W.Frag) (ct : CT) (g : EF) : TSet := fun o i v H Q => rG K ct g [o, i, v] H fun _ H' => Q H'
theorem sg_sub {o i : Expr} {fo fi : EE} (hs : PSet X (rSet X.K ct g)) (h1 : SE ct X o fo) (h2 : SE ct X i fi)
    (hh : ∀ v, assign (.Subscript o i pos) X.env v = (do
      let ov ← holding [v] (eval o X.env)
      let iv ← holding [v, ov] (eval i X.env)
      standAt pos
      holding [v, ov, iv] (setItem ov iv v)
      release [v, ov, iv] []) := by intro _; rfl) : SG ct X (.Subscript o i pos) (gSub fo fi g) := pg_imp (pg_sub h1 h2 hs hh) fun v σ H Q ⟨w, h, σd, d, sr, rs, rd, q⟩ => by
  refine ⟨w, h, σd, sr, rs, (okR.bind (rel := rV X.K) q).imp fun x H1 ⟨w1, h1, d1, st1, sr1, r1, q1⟩ => ?_⟩
  refine ⟨w1, h1, σd, sr1, st1.rsg rs, (okR.bind (rel := rV X.K) q1).imp fun y H2 ⟨w2, h2, d2, st2, sr2, r2, q2⟩ => ?_⟩
  refine ⟨w2, h2, [d1, d2, d], sr2, .cons (st2.rd _ _ r1) (.cons r2 (.cons (st2.rd _ _ (st1.rd _ _ rd)) .nil)), (okR.bind (rel := rV X.K) q2).imp fun z H3 ⟨w3, h3, d3, st3, sr3, r3, q3⟩ => ?_⟩
  exact okR.here (b := σ) q3 sr3 (st3.rsg (st2.rsg (st1.rsg rs)))
theorem tAsg_of {gt : EG} {tg : TG} (ht : ∀ v σ H Q, tG X.K ct gt v σ H Q → tg v σ H Q) {E : Ends} {σ : St} {H : Hp} (q : tS X.K ct (sAsg fe gt) E σ H) : tAsg (tE X.K ct fe) tg E σ H := by
  obtain ⟨w, h, σd, sr, rs, q⟩ := tS_bind (rel := rV X.K) (k := fun d σ h1 => (gt d σ h1).bind fun σ1 h2 => .ok (.nx σ1) h2) q
  refine ⟨w, h, σd, sr, rs, q.imp fun v H1 ⟨w1, h1, d, sr1, rs1, r1, q1⟩ => ht _ _ _ _ ?_⟩
  exact ⟨w1, h1, σd, d, sr1, rs1, r1, (okR.bind (rel := fun w H => RS X.K w H) q1).imp fun σ1 H2 ⟨w2, h2, σd2, st2, sr2, r2, q2⟩ => okR.here (b := FlV.nx σ1) q2 sr2 r2⟩
theorem sx_asg {tg : Expr} {gt : EG} (h1 : SE ct X e fe) (h2 : SG ct X tg gt) (hs : swapsWithSole [tg] e pos.line X.env = pure false := by rfl) (hw : swappedStores [tg] e X.env = pure none := by rfl)
    (hh : (assignEach [tg] X.env).map (·.2) = [assign tg X.env] := by rfl) : SX ct X (.Assign [tg] e pos) (sAsg fe gt) := ps_imp (ps_asg h1 h2 hs hw hh) fun E σ H q => tAsg_of (fun _ _ _ _ z => z) q
end
end BR

namespace BR
open PySem PySem.Spec PyProof.Rows L2
section
variable {X : Cx} {tg l e : Expr} {tl : TE} {ta : TA}
def IteT (K : PySem.W.Frag) (a : Addr) : L2.It :=
  ⟨fun i H => ∃ (xs : List V) (x : V), SqT K H a xs ∧ xs[i]? = some x, fun i H v H' => ∃ T x, v = .ref T ∧ H T = none ∧ H' = upd H T (.tup [.int (i : Nat), x]) ∧ ∀ xs, SqT K H a xs → xs[i]? = some x, fun i H => ∃ xs : List V, SqT K H a xs ∧ xs.length = i⟩
theorem turn_enumT {P : Program} {w : World} {K : PySem.W.Frag} {elts : List Expr} {kk : Nat} {tpos : Pos} (a e it : Addr) :
    Turn P w K (.Tuple elts kk tpos) (IteT K a) [e, it] e (fun i h => (∃ old, IsEnum h e it ((i : Nat) : Int) old) ∧ h.IsTupleIter it a i ∧ e ≠ it ∧ e ≠ a ∧ it ≠ a) where
  mem := by simp
  obj := fun i h st b hb => by
    obtain ⟨⟨old, he⟩, ⟨o, ho, hc, hd⟩, _⟩ := st
    have e' : b = e ∨ b = it := by simpa using hb
    rcases e' with z | z
    · rw [z]; exact ⟨_, he, fun v q => nomatch q⟩
    · rw [z]; exact ⟨o, ho, fun v q => by rw [hd] at q; cases q⟩
  keep := fun i h h' st k => let ⟨⟨old, he⟩, hi, hne⟩ := st; ⟨⟨old, k e (by simp) _ he⟩, hi.at fun o q => k it (by simp) o q, hne⟩
  item := by
    intro X hP hw hK hc i pins s σ H E I hf st hg
    subst hP hw hK
    obtain ⟨⟨old, he⟩, hit, hne, hea, hia⟩ := st
    obtain ⟨xs, x, hq, hx⟩ := hg
    obtain ⟨its, rv, p, hz⟩ := I.tuple hq
    have p : s.heap.IsTuple a its.toArray := p
    obtain ⟨u, hu, ru⟩ := rv.get hx
    have hel : e < s.heap.objs.size := Heap.lt_size he
    have hil : it < s.heap.objs.size := by obtain ⟨_, q, _⟩ := hit; exact Heap.lt_size q
    have hlt : i < its.toArray.size := by
      have := (List.getElem?_eq_some_iff.mp hu).1
      simpa using this
    refine wpAny_pyNext_enum_itemD (Draws.tuple (A := X.A.in1) (by exact I.ok.hd hc) it a (Ne.symm hia) its.toArray) he ⟨hit, p⟩ hlt hne (by simp [hne, hea]) fun y h' tk hy ho hst' hT hsz hk => ?_
    have : y = u := by
      have hy : its.toArray[i]? = some y := hy
      rw [List.getElem?_toArray, hu] at hy
      exact (Option.some.inj hy).symm
    subst this
    refine ⟨_, rfl, wpAny_letOwnedTupleGo_enum (s := { s with heap := h', toks := tk + 1 }) ho fun h'' he' sb => ?_⟩
    have hT2 : h''.get? s.heap.objs.size = some { cls := .type "tuple", data := .seq #[.int i tk, y] } := (sb.2 _ (Nat.ne_of_gt hel)).trans hT
    have new : ObjOk X.prog X.w (upd H s.heap.objs.size (.tup [.int (i : Nat), x])) h'' s.heap.objs.size (.tup [.int (i : Nat), x]) :=
      ⟨by show 2 ≤ sizeLine; decide, [.int i tk, y], .cons ⟨_, rfl⟩ (.cons ru .nil), ⟨_, hT2, rfl, _, rfl⟩⟩
    have I1 : Inv X pins σ (upd H s.heap.objs.size (.tup [.int (i : Nat), x])) { s with heap := h'', toks := tk + 1 } :=
      I.turnedNew (ch := [e, it]) (fun b ob hb q => (sb.2 b (fun z => hb (by simp [z]))).trans (hk b ob (fun z => hb (by simp [z])) (fun z => hb (by simp [z])) q)) hf (Nat.le_refl _) new
    refine ⟨.ref s.heap.objs.size, _, I1, rfl, ⟨_, x, rfl, I.hok.fresh (Nat.le_refl _), rfl, fun ys hy => by rw [I.tuple_inj hy hq]; exact hx⟩, ⟨⟨y, ?_⟩, hst'.1.at fun o q => (sb.2 it (Ne.symm hne)).trans q, hne, hea, hia⟩, fun b hb => ?_⟩
    · have e1 : ((i + 1 : Nat) : Int) = (i : Int) + 1 := by omega
      rw [e1]; exact he'
    · have hb' : b < s.heap.objs.size := by
        have e' : b = e ∨ b = it := by simpa using hb
        rcases e' with z | z
        · rw [z]; exact hel
        · rw [z]; exact hil
      rw [upd_ne (Nat.ne_of_lt hb')]
      exact (hf b hb).1
  done := by
    intro X hP hw hK hc i pins s σ H E I hf st hg
    subst hP hw hK
    obtain ⟨⟨old, he⟩, hit, hne, hea, hia⟩ := st
    obtain ⟨xs, hq, hx⟩ := hg
    obtain ⟨its, rv, p, hz⟩ := I.tuple hq
    have p : s.heap.IsTuple a its.toArray := p
    obtain ⟨f0, f1, f2, f3, f4, f5⟩ := hf it (by simp)
    have hl := rv.length
    have hn : its.toArray.size = i := by simp; omega
    refine wpAny_pyNext_enum_endD (Draws.tuple (A := X.A.in1) (by exact I.ok.hd hc) it a (Ne.symm hia) its.toArray) he (by rw [hn]; exact ⟨hit, p⟩) fun h' eb => ⟨rfl, I.turned (t' := s.toks) (fun b o hb q => eb b o hb q) f0 f1 f3 f4 f5⟩
  self := fun A i s Q E st h => let ⟨⟨_, he⟩, _⟩ := st; wpAny_pyIter_enum he h
/-- enumerate(list or tuple) -/
def iEnumA (K : PySem.W.Frag) (ta : TA) : TI := fun σ H R => ta σ H fun vs H1 => ∃ a, vs = [.ref a] ∧ (((∃ xs, SqL K H1 a xs) ∧ R (Ite K a) H1) ∨ ((∃ xs, SqT K H1 a xs) ∧ R (IteT K a) H1))
set_option maxHeartbeats 1000000 in
theorem meets_enumB {v : Value} {o : Obj} {H : Heap → Prop} (B : Begins v o H) :
    Meets (Builtin.«enumerate.__new__» ⟨[.type "enumerate", v], []⟩) (fun _ R s => H s.heap ∧
      R (.ok (.ret (.ref (s.heap.push o).objs.size))) { s with heap := (s.heap.push o).push { cls := .type "enumerate", data := .fields #[.none, .bool false, .ref s.heap.objs.size, rawInt 0, .none, .none] } }) :=
  .of_wp fun prog w A R s h => by
    obtain ⟨hp, g, d, tk, os⟩ := s; obtain ⟨h1, h⟩ := h
    have hsub := sub_enumerate
    have q1 : ∀ {A' : Around} {E : Value → Shared → Prop} {Q : Value → Shared → Prop}, Q (.ref hp.objs.size) ⟨hp.push o, g, d, tk, os⟩ → wpAny (model prog w) A' (pyIter v) Q E ⟨hp, g, d, tk, os⟩ :=
      fun q => B.iter prog w _ _ ⟨hp, g, d, tk, os⟩ _ h1 q
    wp_walk using q1
    refine wpAny_stack_any fun st => wpAny_pure ?_
    split
    · rename_i c _ _ _ _ _
      cases (c == Value.type "enumerate")
      · wp_walk using q1
        exact ⟨_, rfl, h⟩
      · wp_walk using q1
        exact ⟨_, rfl, h⟩
    · wp_walk using q1
      exact ⟨_, rfl, h⟩
theorem call_enumT {prog : Program} {w : World} {A : Around} {E : Value → Shared → Prop} {s : Shared} {t : Addr} {items : Array Value} {Q : Value → Shared → Prop} (ht : s.heap.IsTuple t items)
    (h : ∀ h', IsEnum h' (s.heap.objs.size + 1) s.heap.objs.size 0 .none → h'.IsTupleIter s.heap.objs.size t 0 → h'.objs.size = s.heap.objs.size + 2 →
      (∀ b o, s.heap.get? b = some o → h'.get? b = some o) → Q (.ref (s.heap.objs.size + 1)) { s with heap := h' }) :
    wpAny (model prog w) A (call (.type "enumerate") [.ref t]) Q E s := by
  have B := begins_tuple t items
  refine callType_new F.called_enumerate (by decide) (F.typeCall_enumerate_1 _) (F.newCall_enumerate_1 _) (fun obj => F.args_object_init_2 obj _) F.entry_enumerate_new
    (meets_enumB B) ⟨ht, ?_⟩
  generalize ho : ({ cls := .type "tuple_iterator", data := .fields #[.ref t, .int 0 0] } : Obj) = o
  have hf : o.isFreed = false := by rw [← ho]; rfl
  have hz : (s.heap.push o).objs.size = s.heap.objs.size + 1 := Heap.size_push ..
  show _ ∧ _
  rw [hz]
  have he : IsEnum ((s.heap.push o).push { cls := .type "enumerate", data := .fields #[.none, .bool false, .ref s.heap.objs.size, rawInt 0, .none, .none] }) (s.heap.objs.size + 1) s.heap.objs.size 0 .none := by
    have := Heap.get?_push_size (s.heap.push o) (o := { cls := .type "enumerate", data := .fields #[.none, .bool false, .ref s.heap.objs.size, rawInt 0, .none, .none] }) rfl
    rw [hz] at this; exact this
  refine ⟨⟨_, he, rfl⟩, h _ he ⟨o, Heap.get?_push_of_some _ (Heap.get?_push_size _ hf), by rw [← ho], by rw [← ho]; rfl⟩ (by rw [Heap.size_push, hz]) fun b o x => Heap.get?_push_of_some _ (Heap.get?_push_of_some _ x)⟩
theorem pi_enumA {X : Cx} {e : Expr} {ta : TA} {p pos tpos : Pos} {elts : List Expr} {kk : Nat} (hg : Gl X "enumerate") (hm : X.mg "enumerate" = none) (ha : PA X [e] ta) (hs : starEach [e] X.env = [(false, eval e X.env)] := by rfl) :
    PI X (.Tuple elts kk tpos) (.Call (.Name "enumerate" p) [e] [] pos) (iEnumA X.K ta) := by
  refine ⟨fun pins s σ H R I h => ?_⟩
  refine Call_ (ld_blt I hg hm boot_enumerate (PyProof.Rows.callWith_type1 (thn (ha.run pos pins s σ H _ I h) fun us s1 ⟨vs, H1, I1, r1, q1⟩ => ?_) hs rfl))
  obtain ⟨a, ex, q⟩ := q1
  subst ex
  cases r1 with
  | cons r rr =>
    cases rr
    cases r
    have fin : ∀ {b : Addr} {H' : Hp}, b ∈ [s1.heap.objs.size + 1, s1.heap.objs.size] → FpOk X pins H1 b := fun {b H'} hb => by
      have e' : b = s1.heap.objs.size + 1 ∨ b = s1.heap.objs.size := by simpa using hb
      have hle : s1.heap.objs.size ≤ b := by
        rcases e' with z | z
        · rw [z]; exact Nat.le_add_right _ _
        · rw [z]; exact Nat.le_refl _
      exact I1.fpOk hle (I1.hok.fresh hle)
    rcases q with ⟨⟨xs, hq⟩, q⟩ | ⟨⟨xs, hq⟩, q⟩
    · obtain ⟨its, rv, p', hz⟩ := I1.list hq
      refine call_enumerate_list p'.isList fun h' he hit hsz hk => wpAny_pyIter_enum he ?_
      have I2 : Inv X pins σ H1 { s1 with heap := h' } := I1.kept (t' := s1.toks) hk
      exact ⟨s1.heap.objs.size + 1, [s1.heap.objs.size + 1, s1.heap.objs.size], _, _, H1, rfl, I2, turn_enum a (s1.heap.objs.size + 1) s1.heap.objs.size, ⟨⟨.none, he⟩, hit, Nat.succ_ne_self _⟩, fun b hb => fin (H' := H1) hb, q⟩
    · obtain ⟨its, rv, p', hz⟩ := I1.tuple hq
      have p' : s1.heap.IsTuple a its.toArray := p'
      have hlt : a < s1.heap.objs.size := by obtain ⟨o, e, _⟩ := p'; exact Heap.lt_size e
      refine call_enumT p' fun h' he hit hsz hk => wpAny_pyIter_enum he ?_
      have I2 : Inv X pins σ H1 { s1 with heap := h' } := I1.kept (t' := s1.toks) hk
      exact ⟨s1.heap.objs.size + 1, [s1.heap.objs.size + 1, s1.heap.objs.size], _, _, H1, rfl, I2, turn_enumT a (s1.heap.objs.size + 1) s1.heap.objs.size, ⟨⟨.none, he⟩, hit, Nat.succ_ne_self _, Nat.ne_of_gt (Nat.lt_succ_of_lt hlt), Nat.ne_of_gt hlt⟩, fun b hb => fin (H' := H1) hb, q⟩
end
end BR

namespace BR
open PySem PySem.Spec PyProof.Rows L2
section
variable {K : PySem.W.Frag} {ct : CT} {w w' w1 w2 : W} {H H' H1 H2 : Hp} {h h' : Hd}
def Mono (K : PySem.W.Frag) (w : W) (H : Hp) (w' : W) (H' : Hp) : Prop := (∃ m, w'.io = w.io ++ m) ∧ ∀ d v, RD K w H d v → RD K w' H' d v
theorem Step.mono (s : Step K w H w' H') : Mono K w H w' H' := ⟨s.pre, s.rd⟩
theorem Mono.refl : Mono K w H w H := ⟨⟨[], by simp⟩, fun _ _ r => r⟩
theorem Mono.trans (a : Mono K w H w1 H1) (b : Mono K w1 H1 w2 H2) : Mono K w H w2 H2 := by
  obtain ⟨⟨m1, e1⟩, f1⟩ := a
  obtain ⟨⟨m2, e2⟩, f2⟩ := b
  exact ⟨⟨m1 ++ m2, by rw [e2, e1, List.append_assoc]⟩, fun d v r => f2 d v (f1 d v r)⟩
/-- J gives the items of I, in turn -/
def Goes (K : PySem.W.Frag) (ct : CT) (I : Walked) (J : L2.It) (w : W) (H : Hp) : Prop := ∃ G : W → Hp → Prop, G w H ∧ (∀ w1 H1 w2 H2, G w1 H1 → Mono K w1 H1 w2 H2 → G w2 H2) ∧
  ∀ w1 H1 h1, G w1 H1 → SR K w1 H1 ct h1 → okChk I.chk h1 → J.stop I.items.length H1 ∧ ∀ i, i < I.items.length → J.go i H1 ∧ ∀ x H2, J.yld i H1 x H2 → Step K w1 H1 w1 H2 ∧ SR K w1 H2 ct h1 ∧ ∃ d, I.items[i]? = some d ∧ RD K w1 H2 d x
def tI (K : PySem.W.Frag) (ct : CT) (f : EI) : TI := fun σ H R => ∃ w h σd, SR K w H ct h ∧ RS K w H σd σ ∧ okR K ct (fun w H I J => Goes K ct I J w H) (f σd h) w H R

def isTup : D → Bool
  | .tup _ => true
  | _ => false
theorem holds_of {d : D} {v : V} {xs : List D} (sr : SR K w H ct h) (rd : RD K w H d v) (e : seqOf h d = some xs) : ∃ a vs, v = .ref a ∧ RDs K w H xs vs ∧ ((isTup d = false ∧ SqL K H a vs) ∨ (isTup d = true ∧ SqT K H a vs)) := by
  cases d with
  | tup ys =>
    cases e
    obtain ⟨a, vs, e1, e2, e3⟩ := rd
    exact ⟨a, vs, e1, e3, .inr ⟨rfl, e2⟩⟩
  | lst ys =>
    cases e
    obtain ⟨a, vs, e1, e2, e3⟩ := rd
    exact ⟨a, vs, e1, e3, .inl ⟨rfl, SqL.of e2.1⟩⟩
  | ref n =>
    obtain ⟨a, e1, e2⟩ := rd
    unfold seqOf at e
    simp only at e
    split at e
    · rename_i ys q
      cases e
      obtain ⟨vs, q1, q2⟩ := sr.ob n _ a q e2
      exact ⟨a, vs, e1, q2, .inl ⟨rfl, SqL.of q1⟩⟩
    · cases e
  | _ => cases e
end
theorem Step.kept {K : PySem.W.Frag} {w : W} {H : Hp} : Step K w H w H := .refl

section
variable {ct : CT} {X : Cx} {tg l e : Expr} {fe : EE} {ha : EA} {pos : Pos}
abbrev SI (ct : CT) (X : Cx) (tg e : Expr) (f : EI) : Prop := PI X tg e (tI X.K ct f)
theorem pi_imp {X : Cx} {tg e : Expr} {t t' : TI} (h : PI X tg e t) (i : ∀ σ H Q, t' σ H Q → t σ H Q) : PI X tg e t' := ⟨fun pins s σ H Q I q => h.run pins s σ H Q I (i σ H Q q)⟩
/-- a list or a tuple is walked -/
def iVal (f : EE) : EI := fun σ h => (f σ h).bind fun d h1 => match seqOf h1 d with
  | some xs => .ok ⟨xs, chkOf h1 d⟩ h1
  | none => .bad
/-- behind okChk the value holds these items still -/
theorem seqOf_chk {h h1 : Hd} {d : D} {xs : List D} (e : seqOf h d = some xs) (c : okChk (chkOf h d) h1) : seqOf h1 d = some xs := by
  cases d with
  | tup ys => exact e
  | lst ys => exact e
  | ref n =>
    unfold seqOf chkOf at *
    simp only at e c ⊢
    split at e
    · rename_i ys q
      cases e
      rw [q] at c
      have := c (n, xs) (by simp)
      simp only at this
      rw [this]
    · cases e
  | _ => cases e
/-- range(n), range(a, b) -/
def BIG : Int := 1000000000000
def rngItems (lo : Int) (n : Nat) : List D := (List.range n).map fun (i : Nat) => D.int (lo + i)
def iRg1 (a : EA) : EI := fun σ h => (a σ h).bind fun ds h1 => match ds with
  | [.int j] => if -BIG ≤ j ∧ j ≤ BIG then .ok ⟨rngItems 0 j.toNat, []⟩ h1 else .bad
  | _ => .bad
def iRg2 (a : EA) : EI := fun σ h => (a σ h).bind fun ds h1 => match ds with
  | [.int i, .int j] => if (-BIG ≤ i ∧ i ≤ BIG) ∧ -BIG ≤ j ∧ j ≤ BIG then .ok ⟨rngItems i (j - i).toNat, []⟩ h1 else .bad
  | _ => .bad
theorem goes_rng {K : PySem.W.Frag} {w : W} {H : Hp} (lo : Int) (n : Nat) : Goes K ct ⟨rngItems lo n, []⟩ (Itr lo n) w H :=
  ⟨fun _ _ => True, trivial, fun _ _ _ _ _ _ => trivial, fun w1 H1 h1 _ sr _ => ⟨by simp [Itr, rngItems], fun i hi => ⟨by simpa [Itr, rngItems] using hi, fun x H2 ⟨e1, e2⟩ => by
    subst e1; subst e2
    have hi' : i < n := by simpa [rngItems] using hi
    exact ⟨.refl, sr, .int (lo + i), by simp [rngItems, hi'], rfl⟩⟩⟩⟩
theorem si_rg1 {a : Expr} {p pos : Pos} (hg : Gl X "range") (hm : X.mg "range" = none) (h1 : SA ct X [a] ha) (hs : starEach [a] X.env = [(false, eval a X.env)] := by rfl) : SI ct X tg (.Call (.Name "range" p) [a] [] pos) (iRg1 ha) :=
  pi_imp (pi_range1 hg hm h1 hs) fun σ H R ⟨w, h, σd, sr, rs, q⟩ => by
    refine ⟨w, h, σd, sr, rs, (okR.bind (rel := rVs X.K) q).imp fun xs H1 ⟨w1, h1, ds, st1, sr1, r1, q1⟩ => ?_⟩
    split at q1
    · rename_i j
      obtain ⟨v, r, rfl, hv, hr⟩ := r1
      cases (show v = _ from hv)
      cases (show r = [] from hr)
      by_cases hc : -BIG ≤ j ∧ j ≤ BIG
      · rw [if_pos hc] at q1
        unfold BIG at hc
        exact ⟨j, rfl, by omega, by omega, okR.here (K := X.K) (ct := ct) (rel := fun w H I J => Goes X.K ct I J w H) q1 sr1 (goes_rng 0 _)⟩
      · rw [if_neg hc] at q1; exact q1.elim
    · exact q1.elim
/-- enumerate(list or tuple) -/
def enumFrom : Nat → List D → List D
  | _, [] => []
  | i, d :: ds => .tup [.int (i : Nat), d] :: enumFrom (i + 1) ds
theorem enumFrom_len : ∀ (i : Nat) (ds : List D), (enumFrom i ds).length = ds.length
  | _, [] => rfl
  | i, d :: ds => by simp [enumFrom, enumFrom_len (i + 1) ds]
theorem enumFrom_get : ∀ (k : Nat) (ds : List D) (i : Nat) (d : D), ds[i]? = some d → (enumFrom k ds)[i]? = some (.tup [.int ((k + i : Nat) : Int), d])
  | _, [], _, _, e => by simp at e
  | k, d :: ds, 0, x, e => by simp at e; subst e; simp [enumFrom]
  | k, d :: ds, i + 1, x, e => by
    have := enumFrom_get (k + 1) ds i x (by simpa using e)
    simp only [enumFrom, List.getElem?_cons_succ]
    rw [this]
    have : k + 1 + i = k + (i + 1) := by omega
    rw [this]
def iEn (a : EA) : EI := fun σ h => (a σ h).bind fun ds h1 => match ds with
  | [d] => match seqOf h1 d with
    | some xs => .ok ⟨enumFrom 0 xs, chkOf h1 d⟩ h1
    | none => .bad
  | _ => .bad
theorem si_enum {p pos tpos : Pos} {elts : List Expr} {kk : Nat} (hg : Gl X "enumerate") (hm : X.mg "enumerate" = none) (h1 : SA ct X [e] ha) (hs : starEach [e] X.env = [(false, eval e X.env)] := by rfl) :
    SI ct X (.Tuple elts kk tpos) (.Call (.Name "enumerate" p) [e] [] pos) (iEn ha) := pi_imp (pi_enumA hg hm h1 hs) fun σ H R ⟨w, h, σd, sr, rs, q⟩ => by
  refine ⟨w, h, σd, sr, rs, (okR.bind (rel := rVs X.K) q).imp fun vs H1 ⟨w1, h1, ds, st1, sr1, r1, q1⟩ => ?_⟩
  split at q1
  · rename_i d
    obtain ⟨v, r, rfl, hv, hr⟩ := r1
    cases (show r = [] from hr)
    cases e : seqOf h1 d with
    | none => rw [e] at q1; exact q1.elim
    | some xs =>
      rw [e] at q1
      obtain ⟨a, vs, ex, rr, z⟩ := holds_of sr1 hv e
      subst ex
      refine ⟨a, rfl, ?_⟩
      -- one turn
      have turn : ∀ {w2 : W} {H2 : Hp} {h2 : Hd} {us : List V} {i : Nat} {x : V} {H3 : Hp}, SR X.K w2 H2 ct h2 → RDs X.K w2 H2 xs us → i < xs.length → (∃ T y, x = .ref T ∧ H2 T = none ∧ H3 = upd H2 T (.tup [.int (i : Nat), y]) ∧ us[i]? = some y) →
          Step X.K w2 H2 w2 H3 ∧ SR X.K w2 H3 ct h2 ∧ ∃ d, (enumFrom 0 xs)[i]? = some d ∧ RD X.K w2 H3 d x := fun {w2 H2 h2 us i x H3} sr2 rr2 hi ⟨T, y, e1, e2, e3, e4⟩ => by
        subst e1; subst e3
        refine ⟨.alloc sr2 e2, sr2.alloc e2, _, enumFrom_get 0 xs i xs[i] (by simp [hi]), T, _, rfl, SqT.of upd_same, ?_⟩
        obtain ⟨v, q1, q2⟩ := rr2.get (i := i) (d := xs[i]) (by simp [hi])
        rw [e4] at q1; cases q1
        have hz : ((0 + i : Nat) : Int) = (i : Int) := by omega
        rw [hz]
        exact .cons rfl (.cons ((Step.alloc sr2 e2).rd _ _ q2) .nil)
      rcases z with ⟨hk, z⟩ | ⟨hk, z⟩
      · refine .inl ⟨⟨vs, z⟩, okR.here (K := X.K) (ct := ct) (rel := fun w H I J => Goes X.K ct I J w H) (b := Ite X.K a) q1 sr1 ⟨fun w H => RD X.K w H d (.ref a), hv, fun w1 H1 w2 H2 g m => m.2 _ _ g, fun w2 H2 h2 g sr2 ck => ?_⟩⟩
        obtain ⟨a', us, ea, rr2, z2⟩ := holds_of sr2 g (seqOf_chk e ck)
        cases ea
        have hl := rr2.len
        rcases z2 with ⟨_, z2⟩ | ⟨hk2, _⟩
        · refine ⟨⟨us, z2, by show us.length ≤ (enumFrom 0 xs).length; rw [enumFrom_len]; omega⟩, fun i hi => ?_⟩
          replace hi : i < xs.length := by rw [← enumFrom_len 0 xs]; exact hi
          refine ⟨⟨us, us[i]'(by omega), z2, by simp [show i < us.length by omega]⟩, fun x H3 y => ?_⟩
          obtain ⟨T, y, e1, e2, e3, e4⟩ := y
          exact turn sr2 rr2 hi ⟨T, y, e1, e2, e3, e4 us z2⟩
        · rw [hk] at hk2; cases hk2
      · refine .inr ⟨⟨vs, z⟩, okR.here (K := X.K) (ct := ct) (rel := fun w H I J => Goes X.K ct I J w H) (b := IteT X.K a) q1 sr1 ⟨fun w H => RD X.K w H d (.ref a), hv, fun w1 H1 w2 H2 g m => m.2 _ _ g, fun w2 H2 h2 g sr2 ck => ?_⟩⟩
        obtain ⟨a', us, ea, rr2, z2⟩ := holds_of sr2 g (seqOf_chk e ck)
        cases ea
        have hl := rr2.len
        rcases z2 with ⟨hk2, _⟩ | ⟨_, z2⟩
        · rw [hk] at hk2; cases hk2
        · refine ⟨⟨us, z2, by show us.length = (enumFrom 0 xs).length; rw [enumFrom_len]; omega⟩, fun i hi => ?_⟩
          replace hi : i < xs.length := by rw [← enumFrom_len 0 xs]; exact hi
          refine ⟨⟨us, us[i]'(by omega), z2, by simp [show i < us.length by omega]⟩, fun x H3 y => ?_⟩
          obtain ⟨T, y, e1, e2, e3, e4⟩ := y
          exact turn sr2 rr2 hi ⟨T, y, e1, e2, e3, e4 us z2⟩
  · exact q1.elim
theorem sx_for {body : List Stmt} {it : EI} {gt : EG} {f : SS} (hp : PassesOwn (model X.prog X.w) X.A X.env X.xe) (hc : X.calm = true) (h1 : SI ct X tg e it) (h2 : SG ct X tg gt) (h3 : SXs ct X body f)
    (hs : ∀ x, foldedSetIterable e X.env x = pure x := by intro _; rfl) : SX ct X (.For tg e body [] pos) (sFor gt it f) := ps_imp (ps_for hp hc h1 h2 h3 hs) fun E σ H ⟨w, h, σd, sr, rs, q⟩ => by
  refine ⟨w, h, σd, sr, rs, (okR.bind (rel := fun w H I J => Goes X.K ct I J w H) q).imp fun J H1 ⟨w1, h1, I, st1, sr1, r1, q1⟩ => ?_⟩
  obtain ⟨G, g0, gm, gt'⟩ := r1
  refine ⟨fun i m σ H => m = I.items.length - i ∧ i ≤ I.items.length ∧ ∃ w h σd, SR X.K w H ct h ∧ RS X.K w H σd σ ∧ G w H ∧ okR X.K ct (rF X.K) (forF gt f I.chk (I.items.drop i) σd h) w H (endOf E),
    ⟨_, rfl, Nat.zero_le _, w1, h1, σd, sr1, st1.rsg rs, g0, q1⟩, ?_⟩
  rintro i m σ H ⟨rfl, hi, w, h, σd, sr, rs, g, q⟩
  by_cases hlt : i < I.items.length
  · rw [List.drop_eq_getElem_cons hlt] at q
    unfold forF at q
    by_cases ck : okChk I.chk h
    · rw [if_pos ck] at q
      obtain ⟨_, go⟩ := gt' w H h g sr ck
      obtain ⟨hgo, hy⟩ := go i hlt
      refine .inr ⟨hgo, fun σ' H' => ∃ w h σd, SR X.K w H' ct h ∧ RS X.K w H' σd σ' ∧ G w H' ∧ okR X.K ct (rF X.K) (forF gt f I.chk (I.items.drop (i + 1)) σd h) w H' (endOf E), fun σ' H' z => ⟨I.items.length - (i + 1), by omega, rfl, hlt, z⟩, fun x H2 y => ?_⟩
      obtain ⟨st2, sr2, d, hd, rd⟩ := hy x H2 y
      have hd' : d = I.items[i] := by simpa [hlt] using hd.symm
      subst hd'
      refine ⟨w, h, σd, _, sr2, st2.rsg rs, rd, (okR.bind (rel := fun w H => RS X.K w H) (q.step st2)).imp fun σ3 H3 ⟨w3, h3, σd3, st3, sr3, r3, q3⟩ => ?_⟩
      refine ⟨w3, h3, σd3, sr3, r3, (okR.bind (rel := rF X.K) q3).imp fun b H4 ⟨w4, h4, fl, st4, sr4, r4, q4⟩ => ?_⟩
      have g4 : G w4 H4 := gm _ _ _ _ g ((st2.trans (st3.trans st4)).mono)
      cases fl with
      | nx σ1 => cases b with
        | nx σ2 => exact ⟨w4, h4, σ1, sr4, r4, g4, q4⟩
        | _ => exact r4.elim
      | ct σ1 => cases b with
        | ct σ2 => exact ⟨w4, h4, σ1, sr4, r4, g4, q4⟩
        | _ => exact r4.elim
      | bk σ1 => cases b with
        | bk σ2 => exact okR.here (K := X.K) (ct := ct) (rel := rF X.K) (a := Fl.nx σ1) (b := FlV.nx σ2) (Q := endOf E) q4 sr4 r4
        | _ => exact r4.elim
      | rt d => cases b with
        | rt v => exact okR.here (K := X.K) (ct := ct) (rel := rF X.K) (a := Fl.rt d) (b := FlV.rt v) (Q := endOf E) q4 sr4 r4
        | _ => exact r4.elim
    · rw [if_neg ck] at q; exact q.elim
  · have e : i = I.items.length := by omega
    subst e
    rw [List.drop_length] at q
    unfold forF at q
    by_cases ck : okChk I.chk h
    · rw [if_pos ck] at q
      exact .inl ⟨(gt' w H h g sr ck).1, okR.here (K := X.K) (ct := ct) (rel := rF X.K) (a := Fl.nx σd) (b := FlV.nx σ) (Q := endOf E) q sr rs⟩
    · rw [if_neg ck] at q; exact q.elim
end
end BR

namespace BR
open PySem PySem.Spec PyProof.Rows L2
theorem wipe_wipe (σ : L2.St) : ∀ vs us : List Nat, (∀ v ∈ vs, v ∈ us) → L2.wipe (L2.wipe σ vs) us = L2.wipe σ us := by
  have get : ∀ (vs : List Nat) (σ : L2.St) (i : Nat), (L2.wipe σ vs)[i]? = if i ∈ vs then (σ[i]?).map (fun _ => none) else σ[i]? := by
    intro vs
    induction vs with
    | nil => intro σ i; simp [L2.wipe]
    | cons v vs ih =>
      intro σ i
      show ((L2.wipe σ vs).set v none)[i]? = _
      by_cases hv : v = i
      · subst hv
        rw [List.getElem?_set, if_pos rfl]
        have e := L2.wipe_length σ vs
        by_cases hl : v < σ.length
        · rw [if_pos (by rw [e]; exact hl)]; simp [hl]
        · rw [if_neg (by rw [e]; exact hl)]; simp [hl]
      · rw [List.getElem?_set_ne hv, ih]
        simp [Ne.symm hv]
  intro vs us h
  refine List.ext_getElem? fun i => ?_
  rw [get us, get us, get vs]
  by_cases hu : i ∈ us
  · simp only [if_pos hu]
    by_cases hv : i ∈ vs
    · simp only [if_pos hv, Option.map_map]; rfl
    · simp [hv]
  · have hv : i ∉ vs := fun z => hu (h i z)
    simp [hu, hv]
theorem wipe_set {σ : L2.St} {i : Nat} {x : Option V} {vs : List Nat} (h : i ∈ vs) : L2.wipe (σ.set i x) vs = L2.wipe σ vs := by
  induction vs with
  | nil => cases h
  | cons v vs ih =>
    show (L2.wipe (σ.set i x) vs).set v none = (L2.wipe σ vs).set v none
    by_cases hm : i ∈ vs
    · rw [ih hm]
    · have hv : i = v := by
        rcases List.mem_cons.mp h with e | e
        · exact e
        · exact absurd e hm
      subst hv
      have out : ∀ (us : List Nat), i ∉ us → L2.wipe (σ.set i x) us = (L2.wipe σ us).set i x := by
        intro us
        induction us with
        | nil => intro _; rfl
        | cons u us ih2 =>
          intro hu
          show (L2.wipe (σ.set i x) us).set u none = ((L2.wipe σ us).set u none).set i x
          rw [ih2 fun z => hu (List.mem_cons_of_mem _ z), List.set_comm _ _ (fun e => hu (by rw [e]; exact List.mem_cons_self))]
      rw [out vs hm, List.set_set]
section
variable {K : PySem.W.Frag} {ct : CT} {w w' w1 w2 : W} {H H' H1 H2 : Hp} {h h' : Hd} {σd : Sg} {σ : L2.St}
theorem RS.wipe (r : RS K w H σd σ) : ∀ vs : List Nat, RS K w H (BR.wipe σd vs) (L2.wipe σ vs) := by
  intro vs
  induction vs with
  | nil => exact r
  | cons v vs ih =>
    refine ⟨?_, fun i d e => ?_⟩
    · show ((BR.wipe σd vs).set v none).length = ((L2.wipe σ vs).set v none).length
      simp [ih.1]
    · replace e : ((BR.wipe σd vs).set v none)[i]? = some (some d) := e
      by_cases hv : v = i
      · subst hv
        rw [List.getElem?_set, if_pos rfl] at e
        split at e <;> cases e
      · rw [List.getElem?_set_ne hv] at e
        obtain ⟨u, h1, h2⟩ := ih.2 i d e
        exact ⟨u, by show ((L2.wipe σ vs).set v none)[i]? = _; rw [List.getElem?_set_ne hv]; exact h1, h2⟩
/-- a target whose names are vs' -/
def tGw (K : PySem.W.Frag) (ct : CT) (vs : List Nat) (g : EG) : TG := fun v σ H Q => ∃ w h σd d, SR K w H ct h ∧ RS K w H σd σ ∧ RD K w H d v ∧ okR K ct (fun w H σd' σ' => RS K w H σd' σ' ∧ L2.wipe σ' vs = L2.wipe σ vs) (g d σd h) w H Q
def tGsw (K : PySem.W.Frag) (ct : CT) (ws : List Nat) (gs : List EG) : TGs := fun vs σ H Q => ∃ w h σd ds, SR K w H ct h ∧ RS K w H σd σ ∧ RDs K w H ds vs ∧ okR K ct (fun w H σd' σ' => RS K w H σd' σ' ∧ L2.wipe σ' ws = L2.wipe σ ws) (gAll gs ds σd h) w H Q
theorem co_lst {H : Hp} {p c : Addr} {o u : HO} {xs : List V} (h : H p = some (.lst xs)) (f : Fixd c u) (z : H c = some u) : upd H p o c = some u := co_upd (fixd_of h (fun _ z => by cases z) fun _ z => by cases z) f z
theorem co_none {H : Hp} {p c : Addr} {o u : HO} (h : H p = none) (f : Fixd c u) (z : H c = some u) : upd H p o c = some u := co_upd (fun u _ z => by rw [h] at z; cases z) f z
/-- the list that is filled: reserved -/
theorem rsv_rd {D : Addr} {l l' : List V} (hD : D ∈ w.rs) (e : H D = some (.lst l)) : ∀ d v, RD K w H d v → RD K w (upd H D (.lst l')) d v :=
  rd_upd ⟨fun xs z => (by rw [e] at z; cases z), fun o u z => (by rw [e] at z; cases z)⟩ (fun a st z => absurd hD (z ▸ st.2)) (fun _ _ q => q) fun _ _ q => q
theorem rsv_sr {D : Addr} {l l' : List V} (s : SR K w H ct h) (hD : D ∈ w.rs) (e : H D = some (.lst l)) : SR K w (upd H D (.lst l')) ct h :=
  ⟨s.len, s.nd, s.ap, fun a ha => by
    by_cases z : a = D
    · subst z; exact ⟨_, upd_same, True.intro⟩
    · rw [L2.upd_ne z]; exact s.tr a ha,
   fun n ob a e1 e2 => (s.ob n ob a e1 e2).step (rsv_rd hD e) (L2.upd_ne (show a ≠ D from fun z => s.ap D hD (z ▸ List.mem_of_getElem? e2))) (fun c u f z => co_lst e f z), tabs_upd s.tb (fun _ z => by rw [e] at z; cases z) (fun _ _ z => by rw [e] at z; unfold LamX.CodeO at z; cases z)⟩
/-- it begins -/
theorem rsv_new_rd {D : Addr} {o : HO} (s : SR K w H ct h) (hp : H D = none) : ∀ d v, RD K w H d v → RD K ⟨w.io, D :: w.rs⟩ (upd H D o) d v :=
  rd_upd (none_upd hp) (fun a _ z => by rw [z]; exact hp) (fun _ _ q => q) fun a ne st => ⟨st.1, by simp only [List.mem_cons, not_or]; exact ⟨ne, st.2⟩⟩
theorem rsv_new {D : Addr} {o : HO} (s : SR K w H ct h) (hp : H D = none) (ho : Rsv o := by exact True.intro) : SR K ⟨w.io, D :: w.rs⟩ (upd H D o) ct h :=
  ⟨s.len, s.nd, fun a ha m => by
    rcases List.mem_cons.mp ha with z | z
    · subst z; exact s.ne_io hp a m rfl
    · exact s.ap a z m,
   fun a ha => by
    by_cases z : a = D
    · subst z; exact ⟨_, upd_same, ho⟩
    · rw [L2.upd_ne z]
      rcases List.mem_cons.mp ha with q | q
      · exact absurd q z
      · exact s.tr a q,
   fun n ob a e1 e2 => (s.ob n ob a e1 e2).step (rsv_new_rd s hp) (L2.upd_ne (s.ne_io hp a (List.mem_of_getElem? e2))) (fun c u f z => co_none hp f z), tabs_new s.tb hp⟩
/-- it ends -/
theorem rsv_end_rd {D : Addr} {rs : List Addr} (e : w.rs = D :: rs) : ∀ d v, RD K w H d v → RD K ⟨w.io, rs⟩ H d v := by
  have hs : ∀ a, Still w a → Still ⟨w.io, rs⟩ a := fun a st => ⟨st.1, fun m => st.2 (by rw [e]; exact List.mem_cons_of_mem _ m)⟩
  exact RD.mono (fun _ _ q => q) (fun _ _ _ q => q) (fun a _ q st => ⟨q, hs a st⟩) (fun a _ q st => ⟨q, hs a st⟩) (fun a _ q st => ⟨q, hs a st⟩) fun _ _ q => q
theorem rsv_end {D : Addr} {rs : List Addr} (s : SR K w H ct h) (e : w.rs = D :: rs) : SR K ⟨w.io, rs⟩ H ct h :=
  ⟨s.len, s.nd, fun a ha => s.ap a (by rw [e]; exact List.mem_cons_of_mem _ ha), fun a ha => s.tr a (by rw [e]; exact List.mem_cons_of_mem _ ha),
   fun n ob a e1 e2 => (s.ob n ob a e1 e2).step (rsv_end_rd e) rfl (fun _ _ _ z => z), s.tb⟩

/-- a turn of lcF -/
theorem lcF_cons {g : EG} {c : ET} {e : Sg → Hd → Res (List D)} {chk : List (Nat × List D)} {σ : Sg} {x : D} {xs : List D} {h hE : Hd} {zs : List D} (q : lcF g c e chk σ (x :: xs) h = .ok zs hE) :
    okChk chk h ∧ ∃ σ1 h1 b h2, g x σ h = .ok σ1 h1 ∧ c σ1 h1 = .ok b h2 ∧ ((b = false ∧ lcF g c e chk σ xs h2 = .ok zs hE) ∨
      (b = true ∧ ∃ ys h3 us, e σ1 h2 = .ok ys h3 ∧ lcF g c e chk σ xs h3 = .ok us hE ∧ zs = ys ++ us)) := by
  unfold lcF at q
  by_cases ck : okChk chk h
  · rw [if_pos ck] at q
    obtain ⟨σ1, h1, e1, q⟩ := Res.bind_eq_ok q
    obtain ⟨b, h2, e2, q⟩ := Res.bind_eq_ok q
    refine ⟨ck, σ1, h1, b, h2, e1, e2, ?_⟩
    cases b with
    | false => exact .inl ⟨rfl, q⟩
    | true =>
      simp only [if_true] at q
      obtain ⟨ys, h3, e3, q⟩ := Res.bind_eq_ok q
      obtain ⟨us, h4, e4, q⟩ := Res.bind_eq_ok q
      cases q
      exact .inr ⟨rfl, ys, h3, us, e3, e4, rfl⟩
  · rw [if_neg ck] at q; cases q
theorem lcF_nil {g : EG} {c : ET} {e : Sg → Hd → Res (List D)} {chk : List (Nat × List D)} {σ : Sg} {h hE : Hd} {zs : List D} (q : lcF g c e chk σ [] h = .ok zs hE) : okChk chk h ∧ zs = [] ∧ h = hE := by
  unfold lcF at q
  by_cases ck : okChk chk h
  · rw [if_pos ck] at q; cases q; exact ⟨ck, rfl, rfl⟩
  · rw [if_neg ck] at q; cases q
theorem okR_eq {α β : Type} {rel : W → Hp → α → β → Prop} {r : Res α} {a : α} {Q : β → Hp → Prop} (e : r = .ok a h') (f : ∀ w' H' b, Step K w H w' H' → SR K w' H' ct h' → rel w' H' a b → Q b H') : okR K ct rel r w H Q := by
  subst e; exact f
theorem okR_ok {α β : Type} {rel : W → Hp → α → β → Prop} {r : Res α} {Q : β → Hp → Prop} (q : okR K ct rel r w H Q) : ∃ a h', r = .ok a h' := by
  cases r with
  | ok a h' => exact ⟨a, h', rfl⟩
  | exc => exact q.elim
  | bad => exact q.elim
end
section
variable {K : PySem.W.Frag} {ct : CT} {w w' w0 w1 w2 : W} {H H' H0 H1 H2 : Hp} {h h' : Hd} {σd : Sg} {σ : L2.St}
/-- the list at p is being filled: acc so far; (w0, H0) where it began -/
structure Fill (K : PySem.W.Frag) (ct : CT) (w0 : W) (H0 : Hp) (p : Addr) (w : W) (H : Hp) (h : Hd) (acc : List D) (av : List V) : Prop where
  sr : SR K w H ct h
  ers : w.rs = p :: w0.rs
  eio : ∃ m, w.io = w0.io ++ m
  at_ : H p = some (.lst av)
  ra : RDs K w H acc av
  up : ∀ d v, RD K w0 H0 d v → RD K w H d v
  kp : ∀ a ∈ w0.rs, H a = H0 a
  co : ∀ c u, Fixd c u → H0 c = some u → H c = some u
def Kq (rs : List Addr) (H0 H : Hp) : Prop := (∀ a ∈ rs, H a = H0 a) ∧ ∀ c u, Fixd c u → H0 c = some u → H c = some u
variable {p : Addr} {acc : List D} {av : List V}
theorem Fill.mem (F : Fill K ct w0 H0 p w H h acc av) : p ∈ w.rs := by rw [F.ers]; exact List.mem_cons_self
theorem Fill.step (F : Fill K ct w0 H0 p w H h acc av) (st : Step K w H w' H') (sr : SR K w' H' ct h') : Fill K ct w0 H0 p w' H' h' acc av := by
  obtain ⟨m1, f1⟩ := F.eio
  obtain ⟨m2, f2⟩ := st.pre
  exact ⟨sr, st.rs.trans F.ers, ⟨m1 ++ m2, by rw [f2, f1, List.append_assoc]⟩, (st.kp p F.mem).trans F.at_, st.rds F.ra, fun d v r => st.rd _ _ (F.up d v r), fun a ha => (st.kp a (by rw [F.ers]; exact List.mem_cons_of_mem _ ha)).trans (F.kp a ha), fun c u f z => st.co c u f (F.co c u f z)⟩
theorem Fill.start (sr : SR K w0 H0 ct h) (hp : H0 p = none) : Fill K ct w0 H0 p ⟨w0.io, p :: w0.rs⟩ (upd H0 p (.lst [])) h [] [] :=
  ⟨rsv_new sr hp, rfl, ⟨[], by simp⟩, upd_same, rfl, rsv_new_rd sr hp, (fun a ha => L2.upd_ne (sr.ne_rs hp a ha)), fun c u f z => co_none hp f z⟩
theorem Fill.fin (F : Fill K ct w0 H0 p w H h acc av) (nd : p ∉ w0.rs) : Step K w0 H0 ⟨w.io, w0.rs⟩ H ∧ SR K ⟨w.io, w0.rs⟩ H ct h ∧ RD K ⟨w.io, w0.rs⟩ H (.lst acc) (.ref p) :=
  ⟨⟨F.eio, rfl, F.kp, (fun d v r => rsv_end_rd F.ers d v (F.up d v r)), F.co⟩, rsv_end F.sr F.ers, p, av, rfl, ⟨F.at_, fun m => F.sr.ap p F.mem m, nd⟩, RDs.of_rd (rsv_end_rd F.ers) F.ra⟩
theorem Fill.len (F : Fill K ct w0 H0 p w H h acc av) : acc.length = av.length := F.ra.len
theorem Fill.rsg (F : Fill K ct w0 H0 p w H h acc av) (r : RS K w0 H0 σd σ) : RS K w H σd σ := ⟨r.1, fun i d e => by
  obtain ⟨v, h1, h2⟩ := r.2 i d e
  exact ⟨v, h1, F.up d v h2⟩⟩
theorem Fill.upR (F : Fill K ct w0 H0 p w H h acc av) : ∀ d v, RD K w H d v → RD K ⟨w.io ++ [p], w0.rs⟩ H d v := by
  have st : ∀ a, Still w a → Still ⟨w.io ++ [p], w0.rs⟩ a := fun a s => by
    have s2 := s.2
    rw [F.ers] at s2
    refine ⟨?_, fun m => s2 (List.mem_cons_of_mem _ m)⟩
    show a ∉ w.io ++ [p]
    rw [List.mem_append, List.mem_singleton]
    rintro (m | e)
    · exact s.1 m
    · exact s2 (e ▸ List.mem_cons_self)
  exact RD.mono (fun _ _ q => q) (fun _ _ _ q => q) (fun a _ q s => ⟨q, st a s⟩) (fun a _ q s => ⟨q, st a s⟩) (fun a _ q s => ⟨q, st a s⟩) fun n a e => by
    show (w.io ++ [p])[n]? = some a
    rw [List.getElem?_append_left (List.getElem?_eq_some_iff.mp e).1]; exact e
theorem Fill.finR (F : Fill K ct w0 H0 p w H h acc av) (nd : p ∉ w0.rs) : Step K w0 H0 ⟨w.io ++ [p], w0.rs⟩ H ∧ SR K ⟨w.io ++ [p], w0.rs⟩ H ct (h ++ [.lst acc]) ∧ RD K ⟨w.io ++ [p], w0.rs⟩ H (.ref h.length) (.ref p) := by
  obtain ⟨m, e⟩ := F.eio
  have hl := F.sr.len
  refine ⟨⟨⟨m ++ [p], by show w.io ++ [p] = _; rw [e, List.append_assoc]⟩, rfl, F.kp, (fun d v r => F.upR d v (F.up d v r)), F.co⟩, ⟨by simp [hl], ?_, fun a ha z => ?_, fun a ha => F.sr.tr a (by rw [F.ers]; exact List.mem_cons_of_mem _ ha), fun n o a e1 e2 => ?_, F.sr.tb⟩, p, rfl, ?_⟩
  · show (w.io ++ [p]).Nodup
    rw [List.nodup_append]
    exact ⟨F.sr.nd, by simp, fun a ha b hb e => F.sr.ap p F.mem (by
      have : b = p := by simpa using hb
      rw [← this, ← e]; exact ha)⟩
  · have z : a ∈ w.io ++ [p] := z
    rcases List.mem_append.mp z with z | z
    · exact F.sr.ap a (by rw [F.ers]; exact List.mem_cons_of_mem _ ha) z
    · have : a = p := by simpa using z
      exact nd (this ▸ ha)
  · have e2 : (w.io ++ [p])[n]? = some a := e2
    by_cases hn : n < h.length
    · rw [List.getElem?_append_left hn] at e1
      rw [List.getElem?_append_left (by rw [hl]; exact hn)] at e2
      exact (F.sr.ob n o a e1 e2).step F.upR rfl (fun _ _ _ z => z)
    · have hn2 : n = h.length := by
        have := (List.getElem?_eq_some_iff.mp e1).1
        simp at this; omega
      subst hn2
      rw [List.getElem?_append_right (by omega)] at e2
      rw [List.getElem?_append_right (by omega)] at e1
      simp only [Nat.sub_self, List.getElem?_cons_zero, Option.some.injEq] at e1
      have : h.length - w.io.length = 0 := by omega
      rw [this] at e2
      simp only [List.getElem?_cons_zero, Option.some.injEq] at e2
      subst e1; subst e2
      exact ⟨av, F.at_, RDs.of_rd F.upR F.ra⟩
  · show (w.io ++ [p])[h.length]? = some p
    rw [← hl, List.getElem?_append_right (Nat.le_refl _), Nat.sub_self]; rfl
/-- the list is full -/
theorem Fill.endE {rf : Bool} {Q : VK} (F : Fill K ct w0 H0 p w H h acc av) (nd : p ∉ w0.rs) (q : okR K ct (rV K) (lcEnd rf acc h) w0 H0 Q) : Q (.ref p) H := by
  unfold lcEnd at q
  by_cases hl : acc.length ≤ LIM
  · rw [if_pos hl] at q
    cases rf with
    | true =>
      obtain ⟨f1, f2, f3⟩ := F.finR nd
      exact q _ H _ f1 f2 f3
    | false =>
      obtain ⟨f1, f2, f3⟩ := F.fin nd
      exact q _ H _ f1 f2 f3
  · rw [if_neg hl] at q; exact q.elim
end
section
variable {ct : CT} {X : Cx} {e : Expr} {es : List Expr} {pos : Pos} {vs : List Nat}
abbrev SGw (ct : CT) (X : Cx) (vs : List Nat) (e : Expr) (g : EG) : Prop := PG X e (tGw X.K ct vs g)
abbrev SGsw (ct : CT) (X : Cx) (vs : List Nat) (es : List Expr) (gs : List EG) : Prop := PGs X es (tGsw X.K ct vs gs)
theorem sw_var {i : Nat} {x : Str} (hi : i ∈ vs) (h : PG X (.Name x pos) (gName i)) : SGw ct X vs (.Name x pos) (gVar i) := pg_imp h fun v σ H Q ⟨w, h, σd, d, sr, rs, rd, q⟩ =>
  okR.here (K := X.K) (ct := ct) (rel := fun w H σd' σ' => RS X.K w H σd' σ' ∧ L2.wipe σ' vs = L2.wipe σ vs) (b := σ.set i (some v)) q sr ⟨rs.set rd i, wipe_set hi⟩
theorem sws_nil : SGsw ct X vs [] [] := pgs_imp pgs_nil fun us σ H Q ⟨w, h, σd, ds, sr, rs, rd, q⟩ => by
  cases ds with
  | nil => cases (show us = [] from rd); exact ⟨rfl, okR.here (K := X.K) (ct := ct) (rel := fun w H σd' σ' => RS X.K w H σd' σ' ∧ L2.wipe σ' vs = L2.wipe σ vs) (b := σ) q sr ⟨rs, rfl⟩⟩
  | cons d ds => exact q.elim
theorem sws_cons {gt : EG} {gts : List EG} (h1 : SGw ct X vs e gt) (h2 : SGsw ct X vs es gts) (hs : (assignEach (e :: es) X.env).map (·.2) = assign e X.env :: (assignEach es X.env).map (·.2) := by rfl) : SGsw ct X vs (e :: es) (gt :: gts) :=
  pgs_imp (pgs_cons h1 h2 hs) fun us σ H Q ⟨w, h, σd, ds, sr, rs, rd, q⟩ => by
    cases ds with
    | nil => exact q.elim
    | cons d ds =>
      obtain ⟨v, r, rfl, rv, rr⟩ := rd
      refine ⟨v, r, rfl, w, h, σd, d, sr, rs, rv, (okR.bind (rel := fun w H σd' σ' => RS X.K w H σd' σ' ∧ L2.wipe σ' vs = L2.wipe σ vs) q).imp fun σ1 H1 ⟨w1, h1, σd1, st1, sr1, ⟨r1, ew⟩, q1⟩ => ?_⟩
      refine ⟨w1, h1, σd1, ds, sr1, r1, st1.rds rr, ?_⟩
      rw [ew]
      exact q1
theorem sw_tup {kk n : Nat} {gts : List EG} (hc : X.calm = true) (h1 : SGsw ct X vs es gts) (hl : gts.length = n := by rfl)
    (hn : (assignEach es X.env).length = n := by rfl) (hst : (assignEach es X.env).findIdx? (·.1) = none := by rfl) : SGw ct X vs (.Tuple es kk pos) (gTup gts) := pg_imp (pg_tup hc h1 hn hst) fun v σ H Q ⟨w, h, σd, d, sr, rs, rd, q⟩ => by
  cases d with
  | tup xs =>
    obtain ⟨a, us, rfl, hq, rr⟩ := rd
    have q' : okR X.K ct (fun w H => RS X.K w H) (gAll gts xs σd h) w H fun _ _ => True := by
      obtain ⟨a, h', e⟩ := okR_ok q
      exact okR_eq (show gAll gts xs σd h = _ from e) fun _ _ _ _ _ _ => trivial
    exact ⟨a, us, rfl, hq, by rw [← rr.len, gAll_len _ _ _ _ q', hl], w, h, σd, xs, sr, rs, rr, q⟩
  | _ => exact q.elim
abbrev STs (ct : CT) (X : Cx) (es : List Expr) (f : ET) : Prop := PTs X es (tT X.K ct f)
theorem pts_imp {X : Cx} {e : List Expr} {t t' : TT} (h : PTs X e t) (i : ∀ σ H Q, t' σ H Q → t σ H Q) : PTs X e t' := ⟨fun pins s σ H Q I q => h.run pins s σ H Q I (i σ H Q q)⟩
theorem sts_nil : STs ct X [] tTT := pts_imp pts_nil fun σ H Q q => tT_ok q
theorem lc1_core {rf : Bool} {it : EI} {gt : EG} {c : ET} {fe : EE} {σ : L2.St} {H : Hp} {Q : VK} {w : W} {h : Hd} {σd : Sg} (sr : SR X.K w H ct h) (rs : RS X.K w H σd σ) (q : okR X.K ct (rV X.K) (eLc rf vs it gt c (lcOne fe) σd h) w H Q) :
    tLc (fun _ H R => okR X.K ct (fun w H I J => Goes X.K ct I J w H) (it σd h) w H R) (tGw X.K ct vs gt) (tT X.K ct c) (tE X.K ct fe) vs σ H Q := by
  unfold eLc lcIn at q
  -- the walk, then the whole list
  unfold tLc
  cases eI : it σd h with
  | exc => rw [eI] at q; exact q.elim
  | bad => rw [eI] at q; exact q.elim
  | ok I h0 =>
  rw [eI] at q
  simp only [Res.bind_ok] at q
  cases eL : lcF gt c (lcOne fe) I.chk (BR.wipe σd vs) I.items h0 with
  | exc => rw [eL] at q; exact q.elim
  | bad => rw [eL] at q; exact q.elim
  | ok total hE =>
  rw [eL] at q
  simp only [Res.bind_ok] at q
  have hlim : total.length ≤ LIM := Classical.byContradiction fun z => by
    unfold lcEnd at q
    rw [if_neg z] at q
    exact q.elim
  intro w1 H1 J st1 sr1 gs dd hD
  obtain ⟨G, g0, gm, gt'⟩ := gs
  have q1 := okR.step st1 q
  have rsw : RS X.K w1 H1 (BR.wipe σd vs) (L2.wipe σ vs) := (st1.rsg rs).wipe vs
  have D0 : dd ∉ w1.rs := fun m => sr1.ne_rs hD dd m rfl
  refine ⟨fun i m H => m = I.items.length - i ∧ i ≤ I.items.length ∧ ∃ (w : W) (h : Hd) (acc : List D) (av : List V) (rest : List D), SR X.K w H ct h ∧ w.rs = dd :: w1.rs ∧ (∃ m, w.io = w1.io ++ m) ∧ H dd = some (.lst av) ∧ RDs X.K w H acc av ∧
      (∀ d v, RD X.K w1 H1 d v → RD X.K w H d v) ∧ Kq w1.rs H1 H ∧ G w H ∧ lcF gt c (lcOne fe) I.chk (BR.wipe σd vs) (I.items.drop i) h = .ok rest hE ∧ acc ++ rest = total,
    ⟨_, rfl, Nat.zero_le _, ⟨w1.io, dd :: w1.rs⟩, h0, [], [], total, rsv_new sr1 hD, rfl, ⟨[], by simp⟩, upd_same, rfl, rsv_new_rd sr1 hD, ⟨(fun a ha => L2.upd_ne (fun z => D0 (z ▸ ha))), fun c u f z => co_none hD f z⟩, gm _ _ _ _ g0 ⟨⟨[], by simp⟩, rsv_new_rd sr1 hD⟩, eL, rfl⟩, ?_⟩
  rintro i m H ⟨rfl, hi, w, h, acc, av, rest, sr, ers, eio, eD, ra, up, kp, g, ef, et⟩
  have mD : dd ∈ w.rs := by rw [ers]; exact List.mem_cons_self
  by_cases hlt : i < I.items.length
  · rw [List.drop_eq_getElem_cons hlt] at ef
    obtain ⟨ck, σ1, h1, b, h2, e1, e2, alt⟩ := lcF_cons ef
    obtain ⟨_, go⟩ := gt' w H h g sr ck
    obtain ⟨hgo, hy⟩ := go i hlt
    refine .inr ⟨hgo, fun H => i + 1 ≤ I.items.length ∧ ∃ (w : W) (h : Hd) (acc : List D) (av : List V) (rest : List D), SR X.K w H ct h ∧ w.rs = dd :: w1.rs ∧ (∃ m, w.io = w1.io ++ m) ∧ H dd = some (.lst av) ∧ RDs X.K w H acc av ∧
      (∀ d v, RD X.K w1 H1 d v → RD X.K w H d v) ∧ Kq w1.rs H1 H ∧ G w H ∧ lcF gt c (lcOne fe) I.chk (BR.wipe σd vs) (I.items.drop (i + 1)) h = .ok rest hE ∧ acc ++ rest = total,
      fun H' z => ⟨I.items.length - (i + 1), by omega, rfl, z⟩, fun x H2 y => ?_⟩
    obtain ⟨st2, sr2, d, hd, rd⟩ := hy x H2 y
    have hd' : d = I.items[i] := by simpa [hlt] using hd.symm
    subst hd'
    refine ⟨w, h, _, _, sr2, ((RS.wipe (σd := σd) (σ := σ) ⟨rs.1, fun j d e => ?_⟩ vs)), rd, okR_eq e1 fun w3 H3 σ3 st3 sr3 ⟨r3, ew⟩ => ⟨?_, w3, h1, σ1, sr3, r3, okR_eq e2 fun w4 H4 b' st4 sr4 eb => ?_⟩⟩
    · obtain ⟨v, q1, q2⟩ := rs.2 j d e
      exact ⟨v, q1, st2.rd _ _ (up _ _ (st1.rd _ _ q2))⟩
    · rw [ew, wipe_wipe σ vs vs fun _ z => z]
    · cases eb
      have st24 := st2.trans (st3.trans st4)
      have fin : ∀ {w5 : W} {H5 : Hp}, Step X.K w H w5 H5 → w5.rs = dd :: w1.rs ∧ (∃ m, w5.io = w1.io ++ m) ∧ H5 dd = some (.lst av) ∧ RDs X.K w5 H5 acc av ∧ (∀ d v, RD X.K w1 H1 d v → RD X.K w5 H5 d v) ∧ Kq w1.rs H1 H5 ∧ G w5 H5 := fun {w5 H5} st => by
        obtain ⟨m1, f1⟩ := eio
        obtain ⟨m2, f2⟩ := st.pre
        exact ⟨st.rs.trans ers, ⟨m1 ++ m2, by rw [f2, f1, List.append_assoc]⟩, (st.kp dd mD).trans eD, st.rds ra, fun d v r => st.rd _ _ (up d v r), ⟨(fun a ha => (st.kp a (by rw [ers]; exact List.mem_cons_of_mem _ ha)).trans (kp.1 a ha)), fun c u f z => st.co c u f (kp.2 c u f z)⟩, gm _ _ _ _ g st.mono⟩
      rcases alt with ⟨rfl, ef2⟩ | ⟨rfl, ys, h3, us, e3, ef2, ez⟩
      · obtain ⟨f1, f2, f3, f4, f5, f6, f7⟩ := fin st24
        exact ⟨hlt, w4, h2, acc, av, rest, sr4, f1, f2, f3, f4, f5, f6, f7, ef2, et⟩
      · simp only [if_true]
        unfold lcOne at e3
        obtain ⟨dy, h3', e4, e5⟩ := Res.bind_eq_ok e3
        cases e5
        refine ⟨w4, h2, σ1, sr4, st4.rsg r3, okR_eq e4 fun w5 H5 yv st5 sr5 r5 => ?_⟩
        obtain ⟨f1, f2, f3, f4, f5, f6, f7⟩ := fin (st24.trans st5)
        have mD5 : dd ∈ w5.rs := by rw [f1]; exact List.mem_cons_self
        subst ez
        have hal : acc.length = av.length := ra.len
        have htl : (acc ++ ([dy] ++ us)).length ≤ LIM := by rw [et]; exact hlim
        refine ⟨av, f3, ?_, hlt, w5, h3, acc ++ [dy], av ++ [yv], us, rsv_sr sr5 mD5 f3, f1, f2, upd_same, ?_, fun d v r => rsv_rd mD5 f3 d v (f5 d v r), ⟨fun a ha => ?_, fun c u fx z => co_lst f3 fx (f6.2 c u fx z)⟩, gm _ _ _ _ f7 ⟨⟨[], by simp⟩, rsv_rd mD5 f3⟩, ef2, ?_⟩
        · simp only [List.length_append, List.length_cons, List.length_nil] at htl
          rw [sizeLine_eq]
          unfold LIM at htl
          omega
        · exact RDs.append (RDs.of_rd (rsv_rd mD5 f3) f4) (.cons (rsv_rd mD5 f3 _ _ r5) .nil)
        · rw [L2.upd_ne (show a ≠ dd from fun z => D0 (z ▸ ha))]; exact f6.1 a ha
        · rw [← et]; simp
  · have e : i = I.items.length := by omega
    subst e
    rw [List.drop_length] at ef
    obtain ⟨ck, er, eh⟩ := lcF_nil ef
    subst er; subst eh
    have et' : acc = total := by simpa using et
    subst et'
    refine .inl ⟨(gt' w H h g sr ck).1, ?_⟩
    have F : Fill X.K ct w1 H1 dd w H h acc av := ⟨sr, ers, eio, eD, ra, up, kp.1, kp.2⟩
    exact F.endE D0 q1
theorem lc1_of {rf : Bool} {it : EI} {gt : EG} {c : ET} {fe : EE} {σ : L2.St} {H : Hp} {Q : VK} (q : tE X.K ct (eLc rf vs it gt c (lcOne fe)) σ H Q) :
    tLc (tI X.K ct it) (tGw X.K ct vs gt) (tT X.K ct c) (tE X.K ct fe) vs σ H Q := by
  obtain ⟨w, h, σd, sr, rs, q⟩ := q
  exact ⟨w, h, σd, sr, rs, lc1_core sr rs q⟩
/-- a list comprehension of one clause -/
theorem se_lc1 {elt tg iter : Expr} {ifs : List Expr} {scope : Scope} {rf : Bool} {it : EI} {gt : EG} {c : ET} {fe : EE}
    (h : PE X (.ListComp elt [⟨tg, iter, ifs, 0⟩] scope pos) (tLc (tI X.K ct it) (tGw X.K ct vs gt) (tT X.K ct c) (tE X.K ct fe) vs)) : SE ct X (.ListComp elt [⟨tg, iter, ifs, 0⟩] scope pos) (eLc rf vs it gt c (lcOne fe)) := pe_imp h fun _ _ _ q => lc1_of q
end
end BR

namespace BR
open PySem PySem.Spec PyProof.Rows L2
section
variable {ct : CT} {X : Cx} {vs vs1 : List Nat}
end
end BR

namespace BR
open PySem PySem.Spec PyProof.Rows L2
/-- room, and no guard -/
structure Rm (k : Nat) (A : Around) : Prop where
  rm : Room k A
  gd : A.guards = some []
theorem Rm.mono {j k : Nat} {A : Around} (r : Rm k A) (h : j ≤ k) : Rm j A := ⟨r.rm.mono h, r.gd⟩
theorem Rm.units {k : Nat} {A : Around} (r : Rm k A) : A.units + 64 < cLine := r.rm.units
theorem Rm.deeper {k : Nat} {A : Around} (r : Rm (k + 1) A) (env : Env) : Rm k (A.deeper env) := ⟨r.rm.deeper env, r.gd⟩
theorem Rm.hu {k : Nat} {A : Around} (r : Rm k A) : A.units + 1 < cLine := hu_of r.rm
/-- what a def promises where no guard stands -/
structure FnG (P : Program) (wd : World) (K : PySem.W.Frag) (mg : Str → Option Value) (base : Heap) (CX : CXT) (k : Nat) (f : Addr) (fd : FuncData) (ps : List Str) (sp : Sp) : Prop where
  lg : ∀ as H Q E, sp as H Q E → as.length = ps.length
  go : ∀ (A : Around) (up : List Env) (s : Shared) (H : Hp) (ar : Args) (us : List Value) (as : List V) (Q : VK) (E : XK),
    Rm k A → Env0 P wd K mg base A up s H → BindsTo s fd ar (ps.zip us) → Vals as us → sp as H Q E → codeAny (model P wd) A (.call (.ref f) ar) (CR CX up P wd H s Q E) s
section
variable {P : Program} {wd : World} {K : PySem.W.Frag} {mg : Str → Option Value} {base : Heap} {CX : CXT} {j k : Nat} {f : Addr} {fd : FuncData} {ps : List Str} {sp sp' : Sp}
theorem FnG.mono (F : FnG P wd K mg base CX j f fd ps sp) (h : j ≤ k) : FnG P wd K mg base CX k f fd ps sp := ⟨F.lg, fun A up s H ar us as Q E r => F.go A up s H ar us as Q E (r.mono h)⟩
theorem FnG.imp (F : FnG P wd K mg base CX k f fd ps sp) (h : ∀ as H Q E, sp' as H Q E → sp as H Q E) : FnG P wd K mg base CX k f fd ps sp' :=
  ⟨fun as H Q E q => F.lg as H Q E (h _ _ _ _ q), fun A up s H ar us as Q E r e0 b v q => F.go A up s H ar us as Q E r e0 b v (h _ _ _ _ q)⟩
/-- by its body -/
theorem fnG_of {x qual : Str} {st : Stmt} {N : List Str} (F : Fun K x qual st f fd) (S : FnScope N ps (defScope st)) (lg : ∀ as H Q E, sp as H Q E → as.length = ps.length)
    (hb : ∀ (cdv : Value) (A : Around) (up : List Env) (s : Shared) (H : Hp) (as : List V) (Q : VK) (E : XK), Rm k (A.deeper (envOfC qual (defScope st) s.heap.objs.size f cdv)) → sp as H Q E →
      ∃ t, PSs (cxOf CX P wd K mg base N qual (defScope st) f cdv A up s H E) (defBody st) t ∧ t { nx := fun _ G => Q .non G, rt := Q } (start N as) H) : FnG P wd K mg base CX (k + 1) f fd ps sp := by
  obtain ⟨oc, od, kV, doc, pm, an, cdv, ct', osl, rfl, lk, cdi⟩ := F.ex
  refine ⟨lg, fun A up s H ar us as Q E rr e0 bi va hsp => ?_⟩
  have KI : K.In s.heap := e0.mod.kin.keeps (fun b o z => (e0.bs b o z).1)
  have nl : s.heap.NoLimit := e0.mod.nolimit.keeps (fun b o z => (e0.bs b o z).1)
  have kinds : ∀ y ∈ ps.zip us, (defScope st).names.lookup y.1 = some .local ∨ ((defScope st).names.lookup y.1 = some .cell ∧ ((cellsFrom (s.heap.objs.size + 1) (defScope st).names []).lookup y.1).isSome = true) := by
    rintro ⟨n, v⟩ hy
    refine (S.par n (List.of_mem_zip hy).1).imp id fun q => ⟨q, ?_⟩
    exact PySem.W.cellsFrom_some _ _ _ (.inl q)
  refine codeAny_call_function rr.rm.depth (KI _ _ lk) rfl S.co S.gen rfl (PySem.W.codeRec_of KI cdi) (bi _ _ _ _ (wpAny_newFunctionEnv_cells S.kind kinds fun env he s1 z => ?_))
  subst he
  refine ⟨nl.keeps z.toInCall.keep, codeAny_func ?_⟩
  obtain ⟨t, T, q⟩ := hb cdv A up s H as Q E (rr.deeper _) hsp
  have J := inv_start (CX := CX) (P := P) (w := wd) (E := E) S rr.rm.hd e0 (lg _ _ _ _ hsp) va z
  refine wpAny_mono (T.run [] s1 (start N as) H _ J q) (fun fl s2 hz => ?_) (fun e s2 hz => hz)
  cases fl with
  | ret u => obtain ⟨v, σ2, H2, J2, rv, q2⟩ := hz; exact ⟨v, H2, J2.os, J2.bare, J2.base, J2.hok, rv, q2⟩
  | next => obtain ⟨σ2, H2, J2, q2⟩ := hz; exact ⟨.non, H2, J2.os, J2.bare, J2.base, J2.hok, rfl, q2⟩
  | brk => exact hz.elim fun _ z => z.elim fun _ z => False.elim z.2
  | cont => exact hz.elim fun _ z => z.elim fun _ z => False.elim z.2
end
section
variable {X : Cx} {CX : CXT} {k : Nat} {f : Addr} {fd : FuncData} {ps : List Str} {sp : Sp} {dvs : List V} {ds : List Value} {x : Str} {p pos : Pos} {e : Expr} {es : List Expr} {t : TA}
theorem run_fnG {pins : List (Addr × Obj)} {σ : L2.St} {H : Hp} {s : Shared} {Q : VK} {E : XK} {us : List Value} {as : List V} (F : FnG X.prog X.w X.K X.mg X.base CX k f fd ps sp) (rr : Rm k X.A) (bi : Binds X.K fd ps ds) (hd : Vals dvs ds)
    (px : ∀ (u : Value) (s2 : Shared), CX X.stack H s E u s2 → X.xe u s2) (I : Inv X pins σ H s) (va : Vals as us) (q : sp (as ++ dvs) H Q E) : wpAny (model X.prog X.w) X.A (call (.ref f) us) (EP X pins σ Q) X.xe s := by
  have vv := va.append hd
  have ll : (us ++ ds).length = ps.length := vv.length ▸ F.lg _ _ _ _ q
  refine wpAny_call (codeAny_mono (F.go X.A X.stack s H ⟨us, []⟩ _ _ Q E rr I.env0 (bi s us I.kIn ll) vv q) ?_)
  rintro (u | fl) s2 z
  · exact px u s2 z
  · cases fl <;> first | exact I.after z | exact False.elim z
theorem pe_callG {E : L2.St → XK} (F : FnG X.prog X.w X.K X.mg X.base CX k f fd ps sp) (rr : Rm k X.A) (hg : Gl X x) (hm : X.mg x = some (.ref f)) (kp : PySem.W.keepIn X.K (.ref f) = true) (bi : Binds X.K fd ps ds) (hd : Vals dvs ds) (px : ∀ σ, PassesAt CX X σ (E σ))
    (ha : PA X (e :: es) t) (hdb : (x == ("__debug__" : Str)) = false := by decide) (he : starEach (e :: es) X.env = (false, eval e X.env) :: starEach es X.env := by rfl) (hpl : (backTo pos (starEach es X.env)).any (·.1) = false := by rfl) :
    PE X (.Call (.Name x p) (e :: es) [] pos) (fun σ H Q => t σ H fun as G => sp (as ++ dvs) G Q (E σ)) := by
  constructor
  intro pins s σ H Q I q
  refine wpAny_Call_Name_kw (ld_glob I hg hm (PySem.W.callWith_K (h₀ := X.base) I.ok.mod.kin kp (thn (ha.run pos pins s σ H _ I q) ?_) he hpl) hdb)
  rintro us s1 ⟨as, H1, I1, va, q1⟩
  exact ⟨I1.kIn, run_fnG F rr bi hd (fun u s2 z => px σ pins H1 s1 u s2 I1 z) I1 va q1⟩
end
theorem law_callG {P : Program} {wd : World} {K : PySem.W.Frag} {mg mb : Str → Option Value} {k : Nat} {fa a : Addr} {fd : FuncData} {x : Str} {sp : Sp} {s1 : Shared} {us : List Value} {ns : List Int}
    (KI : K.In s1.heap) (hn : s1.heap.Ns mainGlobals mg) (hb : s1.heap.Ns builtinsNs mb) (hbb : ∀ y : Str, y ≠ "__name__" → mb y = bootBuiltins y) (nl : s1.heap.NoLimit) (hg : s1.gens = #[])
    (ha : s1.heap.get? a = some { cls := .type "list", data := .seq us.toArray }) (hi : IntsAre us ns) (hl : ns.length ≤ sizeLine) (rr : Rm k callerA)
    (F : ∀ base : Heap, K.In base → base.Ns mainGlobals mg → FnG P wd K mg base CX0 k fa fd [x] sp) (bi : ∀ (s : Shared) (u : Value), BindsTo s fd ⟨[u], []⟩ [(x, u)])
    (q : ∀ H : Hp, Only H → SqL K H a (ns.map V.int) → sp [.ref a] H (fun v _ => v = .bl true) fun _ _ _ => False) :
    codeAny (model P wd) callerA (.call (.ref fa) ⟨[.ref a], []⟩) (fun r s2 => r = .ok (.ret (.bool true)) ∧ OldK s1.heap s2.heap ∧ s2.os = s1.os ∧ AllBare s2.gens) s1 := by
  have vi := vals_ints hi
  have li := hi.length
  suffices go : ∀ H : Hp, Only H → SqL K H a (ns.map V.int) → HOk P wd H s1.heap → (∀ b, H b ≠ none → b = a) → (H a ≠ none → K.lookup a = none) →
      codeAny (model P wd) callerA (.call (.ref fa) ⟨[.ref a], []⟩) (fun r s2 => r = .ok (.ret (.bool true)) ∧ OldK s1.heap s2.heap ∧ s2.os = s1.os ∧ AllBare s2.gens) s1 by
    cases hk : K.lookup a with
    | some o =>
      have e := (ha.symm.trans (KI a o hk))
      cases e
      refine go (fun _ => none) (fun _ => .inl rfl) (.inr ⟨_, us.toArray, _, hk, rfl, rfl, rfl, ?_, by simpa using vi⟩) (fun b u z => nomatch z) (fun b z => absurd rfl z) (fun z => absurd rfl z)
      rw [List.size_toArray, li]; exact hl
    | none =>
      let H0 : Hp := fun b => if b = a then some (.frz { cls := .type "list", data := .seq us.toArray } (.lst (ns.map V.int))) else none
      have same : H0 a = some (.frz { cls := .type "list", data := .seq us.toArray } (.lst (ns.map V.int))) := if_pos rfl
      have other : ∀ b, b ≠ a → H0 b = none := fun b z => if_neg z
      refine go H0 (fun b => ?_) (.inl (.inr ⟨_, same⟩)) (fun b u z => ?_) (fun b z => Classical.byContradiction fun y => z (other b y)) (fun _ => hk)
      · by_cases y : b = a
        · subst y; exact .inr ⟨_, _, same⟩
        · exact .inl (other b y)
      · by_cases y : b = a
        · subst y
          rw [same] at z; cases z
          exact ⟨ha, by rw [List.length_map]; exact hl, us, _, vi, ha⟩
        · rw [other b y] at z; cases z
  intro H hO hS hok hA hK
  have un : ∀ {b : Addr} {o : Obj}, s1.heap.get? b = some o → (b = a → False) → (hidT s1.heap H).get? b = some o := fun {b o} e z => hidT_get e (by
    cases y : H b with
    | none => rfl
    | some u => exact (z (hA b (by rw [y]; simp))).elim)
  have nsk : ∀ {b : Addr} {m : Str → Option Value}, s1.heap.Ns b m → (hidT s1.heap H).Ns b m := by
    rintro b m ⟨o, es, ep, e, d, r⟩
    refine ⟨o, es, ep, un e fun z => ?_, d, r⟩
    subst z
    rw [ha] at e; cases e
    exact nomatch d
  have kin : K.In (hidT s1.heap H) := fun b o e => by
    cases y : H b with
    | none => exact hidT_get (KI b o e) y
    | some u =>
      have z := hA b (by rw [y]; simp)
      subst z
      rw [hK (by rw [y]; simp)] at e; cases e
  have md : Mod K mg (hidT s1.heap H) := ⟨kin, nsk hn, ⟨mb, nsk hb, hbb⟩, nl.imp fun mc z => ⟨nsk z.1, z.2⟩⟩
  have fr : ∀ b ∈ frs ([] : List Env), H b = none := fun b z => absurd z (by simp [frs])
  have e0 : Env0 P wd K mg (hidT s1.heap H) callerA [] s1 H := by
    constructor <;> first | rfl | exact md | exact fun b o e => of_hidT e | exact Nat.le_of_eq (hidT_size _ _) | trivial | exact fr | exact hok | exact .of_eq hg
  refine codeAny_mono ((F _ kin (nsk hn)).go callerA [] s1 H ⟨[.ref a], []⟩ [.ref a] [.ref a] _ _ rr e0 (bi s1 (.ref a)) (.cons rfl .nil) (q H hO hS)) ?_
  rintro (e | fl) s2 z
  · exact z.elim
  · cases fl with
    | ret u =>
      obtain ⟨v, H2, os, br, un2, hok2, rv, rfl⟩ := z
      obtain rfl : u = Value.bool true := rv
      refine ⟨rfl, .of_keep fun b o e => ?_, os, br⟩
      cases y : H b with
      | none => exact un2.keep b o e y (fun z => nomatch z) (by simp)
      | some w =>
        rcases hO b with z | ⟨ob', xs', z⟩
        · rw [y] at z; cases z
        · have h2 := (hok2 b _ (un2.frzs b ob' _ z)).1
          have h1 := (hok b _ z).1
          rw [e] at h1; cases h1
          exact h2
    | _ => exact False.elim z
/-- the walk's end -/
theorem walk_endG {l : PySem.W.OpenLaw} {k : Nat} {x : Str} {q : Program} {loose : List Str} {XP : (Str → Option Value) → Heap → Prop} {YP : World → Heap → Prop} {d : DefRec} {K : Params → PySem.W.Frag} {sp : World → Sp} (hn : l.most = some 63) (hdf : d.params.defaults = []) (hk : k ≤ 100)
    (hY : ∀ (w : World) (h : Heap), YP w h → (K w.params).In h)
    (F : ∀ (w : World) (mg : Str → Option Value) (fa : Addr) (h : Heap), (K w.params).In h → h.Ns mainGlobals mg → mg d.name = some (.ref fa) →
      ∃ fd : FuncData, (∀ (s : Shared) (u : Value), BindsTo s fd ⟨[u], []⟩ [(x, u)]) ∧ ∀ base : Heap, (K w.params).In base → base.Ns mainGlobals mg → FnG l.prog w (K w.params) mg base CX0 k fa fd [x] (sp w))
    (hs : ∀ (w : World) (H : Hp) (a : Addr) (ns : List Int), ns.length ≤ 63 → Only H → SqL (K w.params) H a (ns.map V.int) → sp w [.ref a] H (fun v _ => v = .bl true) fun _ _ _ => False) :
    PySem.W.WalkO q loose XP YP l.row.toRowW d [] (fun f vs => PySem.call f vs) := by
  refine Att.attach_call hn hdf ?_
  intro w s0 s1 mg mb fa o pm cd doc a vs ns G Y ho hd hcd hmg hobj hints hlen hg
  obtain ⟨fd, bi, hF⟩ := F w mg fa _ (hY w _ Y) G.T.g hmg
  have rr : Rm k callerA := ⟨(⟨rfl, by decide, by decide⟩ : Room 100 callerA).mono hk, rfl⟩
  exact law_callG (hY w _ Y) G.T.g G.T.b G.T.builtins G.T.nolimit hg hobj hints (Nat.le_trans hlen (by decide)) rr hF bi (fun H hO hS => hs w H a ns hlen hO hS)
end BR

namespace BR
open PySem PySem.Spec PyProof.Rows L2
section
variable {n : Nat}
theorem key1 {β : Type} : ∀ kvs : List (Key × β), noRef.go n (kvs.map fun p => keyD p.1) = true
  | [] => rfl
  | (.inl i, _) :: r => by
    show (true && noRef.go n (r.map fun p => keyD p.1)) = true
    rw [key1 r]; rfl
  | (.inr i, _) :: r => by
    show (true && noRef.go n (r.map fun p => keyD p.1)) = true
    rw [key1 r]; rfl
theorem key0 : ∀ ks : List Key, noRef.go n (ks.map keyD) = true
  | [] => rfl
  | .inl i :: r => by
    show (true && noRef.go n (r.map keyD)) = true
    rw [key0 r]; rfl
  | .inr i :: r => by
    show (true && noRef.go n (r.map keyD)) = true
    rw [key0 r]; rfl
theorem key2 {β : Type} : ∀ kvs : List (List Key × β), noRef.go n (kvs.map fun p => D.tup (p.1.map keyD)) = true
  | [] => rfl
  | p :: r => by
    show (noRef.go n (p.1.map keyD) && noRef.go n (r.map fun p => D.tup (p.1.map keyD))) = true
    rw [key0, key2 r]; rfl
end
section
variable {K : PySem.W.Frag} {ct : CT} {w w' w0 w1 w2 : W} {H H' H0 H1 H2 : Hp} {h h' : Hd}
mutual
theorem noRef_of : ∀ (d : D) (v : V), RD K w H d v → noRef w.io.length d = true
  | .non, _, _ => rfl
  | .bl _, _, _ => rfl
  | .int _, _, _ => rfl
  | .str _, _, _ => rfl
  | .tup xs, _, ⟨_, vs, _, _, r⟩ => noRefs_of xs vs r
  | .lst xs, _, ⟨_, vs, _, _, r⟩ => noRefs_of xs vs r
  | .scr _, _, _ => rfl
  | .dct ks us, _, ⟨_, _, _, ⟨kvs, _, hk, r⟩⟩ => by
    show (noRef.go _ ks && noRef.go _ us) = true
    rw [noRefs_of us _ r, Bool.and_true, hk]
    exact key1 kvs
  | .dcT ks us, _, ⟨_, _, _, ⟨kvs, _, hk, r⟩⟩ => by
    show (noRef.go _ ks && noRef.go _ us) = true
    rw [noRefs_of us _ r, Bool.and_true, hk]
    exact key2 kvs
  | .ref m, _, ⟨a, _, e⟩ => by
    have := (List.getElem?_eq_some_iff.mp e).1
    show decide (m < w.io.length) = true
    exact decide_eq_true this
theorem noRefs_of : ∀ (ds : List D) (vs : List V), RDs K w H ds vs → noRef.go w.io.length ds = true
  | [], _, _ => rfl
  | d :: ds, _, ⟨v, r, _, a, b⟩ => by
    show (noRef _ d && noRef.go _ ds) = true
    rw [noRef_of d v a, noRefs_of ds r b]; rfl
end
theorem go_all {n : Nat} : ∀ ds : List D, noRef.go n ds = ds.all (noRef n)
  | [] => rfl
  | d :: ds => by show (noRef n d && noRef.go n ds) = _; rw [go_all ds]; rfl
mutual
theorem narrow {m : List Addr} (e : w1.io = w.io ++ m) (er : w1.rs = w.rs) : ∀ (d : D) (v : V), RD K w1 H d v → noRef w.io.length d = true → RD K w H d v
  | .non, _, r, _ => r
  | .bl _, _, r, _ => r
  | .int _, _, r, _ => r
  | .str _, _, r, _ => r
  | .tup xs, _, ⟨a, vs, e1, e2, r⟩, q => ⟨a, vs, e1, e2, narrows e er xs vs r q⟩
  | .lst xs, _, ⟨a, vs, e1, ⟨e2, s⟩, r⟩, q => ⟨a, vs, e1, ⟨e2, still_narrow e er s⟩, narrows e er xs vs r q⟩
  | .scr _, _, r, _ => r
  | .dct ks us, _, ⟨a, e1, s, ⟨kvs, e2, hk, r⟩⟩, q => ⟨a, e1, still_narrow e er s, ⟨kvs, e2, hk, narrows e er us _ r (by
      have q : (noRef.go _ ks && noRef.go _ us) = true := q
      exact (Bool.and_eq_true_iff.mp q).2)⟩⟩
  | .dcT ks us, _, ⟨a, e1, s, ⟨kvs, e2, hk, r⟩⟩, q => ⟨a, e1, still_narrow e er s, ⟨kvs, e2, hk, narrows e er us _ r (by
      have q : (noRef.go _ ks && noRef.go _ us) = true := q
      exact (Bool.and_eq_true_iff.mp q).2)⟩⟩
  | .ref k, _, ⟨a, e1, e2⟩, q => ⟨a, e1, by
      have q : decide (k < w.io.length) = true := q
      have q := of_decide_eq_true q
      rw [e, List.getElem?_append_left q] at e2
      exact e2⟩
theorem narrows {m : List Addr} (e : w1.io = w.io ++ m) (er : w1.rs = w.rs) : ∀ (ds : List D) (vs : List V), RDs K w1 H ds vs → noRef.go w.io.length ds = true → RDs K w H ds vs
  | [], _, r, _ => r
  | d :: ds, _, ⟨v, r, e1, a, b⟩, q => by
    have q : (noRef _ d && noRef.go _ ds) = true := q
    have q := Bool.and_eq_true_iff.mp q
    exact ⟨v, r, e1, narrow e er d v a q.1, narrows e er ds r b q.2⟩
theorem still_narrow {m : List Addr} {a : Addr} (e : w1.io = w.io ++ m) (er : w1.rs = w.rs) (s : Still w1 a) : Still w a :=
  ⟨fun q => s.1 (by rw [e]; exact List.mem_append_left _ q), fun q => s.2 (by rw [er]; exact q)⟩
end
theorem narrow_all {m : List Addr} (e : w1.io = w.io ++ m) (er : w1.rs = w.rs) {ds : List D} {vs : List V} (r : RDs K w1 H ds vs) (q : ds.all (noRef w.io.length) = true) : RDs K w H ds vs := narrows e er ds vs r (by rw [go_all]; exact q)
theorem ob_noRef {ob : Ob} {a : Addr} (r : RO K w H ct ob a) : obNoRef w.io.length ob = true := by
  cases ob with
  | lst xs => obtain ⟨vs, _, r⟩ := r; show xs.all _ = true; rw [← go_all]; exact noRefs_of xs vs r
  | dct ks us =>
    show (ks.all _ && us.all _) = true
    obtain ⟨kvs, _, hk, r⟩ := r
    rw [← go_all, ← go_all, noRefs_of us _ r, hk, key1]; rfl
  | dcT ks us =>
    show (ks.all _ && us.all _) = true
    obtain ⟨kvs, _, hk, r⟩ := r
    rw [← go_all, ← go_all, noRefs_of us _ r, hk, key2]; rfl
  | ins c fs => obtain ⟨dx, gs, _, _, _, r⟩ := r; show fs.all _ = true; rw [← go_all]; exact noRefs_of fs _ r
  | tpl xs => obtain ⟨o, vs, _, _, r⟩ := r; show xs.all _ = true; rw [← go_all]; exact noRefs_of xs vs r
  | exo c => rfl
  | exf c d => obtain ⟨dd, v, _, _, r⟩ := r; exact noRef_of d v r
theorem ro_narrow {m : List Addr} (e : w1.io = w.io ++ m) (er : w1.rs = w.rs) {ob : Ob} {a : Addr} (r : RO K w1 H ct ob a) (q : obNoRef w.io.length ob = true) : RO K w H ct ob a := by
  cases ob with
  | lst xs => obtain ⟨vs, h1, r⟩ := r; exact ⟨vs, h1, narrow_all e er r q⟩
  | dct ks us =>
    have q : (ks.all (noRef w.io.length) && us.all (noRef w.io.length)) = true := q
    have q := (Bool.and_eq_true_iff.mp q).2
    obtain ⟨kvs, h1, hk, r⟩ := r
    exact ⟨kvs, h1, hk, narrow_all e er r q⟩
  | dcT ks us =>
    have q : (ks.all (noRef w.io.length) && us.all (noRef w.io.length)) = true := q
    have q := (Bool.and_eq_true_iff.mp q).2
    obtain ⟨kvs, h1, hk, r⟩ := r
    exact ⟨kvs, h1, hk, narrow_all e er r q⟩
  | ins c fs => obtain ⟨dx, gs, h1, h2, h3, r⟩ := r; exact ⟨dx, gs, h1, h2, h3, narrow_all e er r q⟩
  | tpl xs => obtain ⟨o, vs, h1, h2, r⟩ := r; exact ⟨o, vs, h1, h2, narrow_all e er r q⟩
  | exo c => exact r
  | exf c d => obtain ⟨dd, v, h1, h2, r⟩ := r; exact ⟨dd, v, h1, h2, narrow e er d v r q⟩
/-- a def is left: its own things are frozen or gone -/
theorem fin_ok {d d' : D} {v : V} (sr : SR K w H ct h) (st : Step K w H w1 H1) (sr1 : SR K w1 H1 ct h') (rd : RD K w1 H1 d v) (ho : okOld h h') (hf : frz h' h.length d = some d') :
    Step K w H w H1 ∧ SR K w H1 ct (h'.take h.length) ∧ RD K w H1 d' v := by
  obtain ⟨m, e⟩ := st.pre
  have hl := sr.len
  have back : ∀ d v, RD K w H d v → RD K w H1 d v := fun d v r => narrow e st.rs d v (st.rd d v r) (noRef_of d v r)
  have hlen1 : w1.io.length = h'.length := sr1.len
  have hle : h.length ≤ h'.length := by rw [← hl, ← hlen1, e]; simp
  refine ⟨⟨⟨[], by simp⟩, rfl, st.kp, back, st.co⟩, ⟨by rw [List.length_take, hl]; omega, sr.nd, sr.ap, fun a ha => ?_, fun k o a e1 e2 => ?_, sr1.tb⟩, ?_⟩
  · obtain ⟨xs, q, qr⟩ := sr.tr a ha
    exact ⟨xs, (st.kp a ha).trans q, qr⟩
  · have hk : k < h.length := by
      have := (List.getElem?_eq_some_iff.mp e1).1
      rw [List.length_take] at this
      omega
    rw [List.getElem?_take, if_pos hk] at e1
    have e2' : w1.io[k]? = some a := by rw [e, List.getElem?_append_left (by rw [hl]; exact hk)]; exact e2
    have ro := sr1.ob k o a e1 e2'
    obtain ⟨o', q1, q2⟩ := ho k hk
    rw [e1] at q1; cases q1
    refine ro_narrow e st.rs ro ?_
    rcases q2 with q2 | q2
    · exact ob_noRef (sr.ob k o a q2 e2)
    · rw [hl]; exact q2
  · unfold frz at hf
    split at hf
    · rename_i hn
      cases hf
      exact narrow e st.rs d v rd (by rw [hl]; exact hn)
    · rename_i hn
      split at hf
      · rename_i a
        obtain ⟨p, e1, e2⟩ := rd
        have ha : ¬ a < h.length := fun z => hn (decide_eq_true z)
        have hst : Still w p := by
          refine ⟨fun q => ?_, fun q => sr1.ap p (by rw [st.rs]; exact q) (List.mem_of_getElem? e2)⟩
          obtain ⟨j, hj, ej⟩ := List.getElem_of_mem q
          have : w1.io[j]? = some p := by rw [e, List.getElem?_append_left hj]; simp [hj, ej]
          have := nd_at sr1.nd this e2
          omega
        split at hf
        · rename_i xs q
          split at hf
          · rename_i hx
            cases hf
            obtain ⟨vs, r1, r2⟩ := sr1.ob a _ p q e2
            exact ⟨p, vs, e1, ⟨r1, hst⟩, narrow_all e st.rs r2 (by rw [hl]; exact hx)⟩
          · cases hf
        · rename_i ks us q
          split at hf
          · rename_i hx
            cases hf
            have hx := (Bool.and_eq_true_iff.mp hx).2
            obtain ⟨kvs, r1, hk, r2⟩ := sr1.ob a _ p q e2
            exact ⟨p, e1, hst, ⟨kvs, .inl r1, hk, narrow_all e st.rs r2 (by rw [hl]; exact hx)⟩⟩
          · cases hf
        · rename_i ks us q
          split at hf
          · rename_i hx
            cases hf
            have hx := (Bool.and_eq_true_iff.mp hx).2
            obtain ⟨kvs, r1, hk, r2⟩ := sr1.ob a _ p q e2
            exact ⟨p, e1, hst, ⟨kvs, .inl r1, hk, narrow_all e st.rs r2 (by rw [hl]; exact hx)⟩⟩
          · cases hf
        · rename_i xs q
          split at hf
          · rename_i hx
            cases hf
            obtain ⟨o, vs, r1, _, r2⟩ := sr1.ob a _ p q e2
            exact ⟨p, vs, e1, .inl (.inr ⟨o, r1⟩), narrow_all e st.rs r2 (by rw [hl]; exact hx)⟩
          · cases hf
        · cases hf
      · cases hf
theorem RS.start {N : Nat} {ds : List D} {vs : List V} (r : RDs K w H ds vs) : RS K w H (ds.map some ++ List.replicate N none) (vs.map some ++ List.replicate N none) := by
  have hl := r.len
  refine ⟨by simp [hl], fun i d e => ?_⟩
  by_cases hi : i < ds.length
  · rw [List.getElem?_append_left (by simpa using hi)] at e
    rw [List.getElem?_append_left (by simp; omega)]
    rw [List.getElem?_map] at e ⊢
    cases q : ds[i]? with
    | none => rw [q] at e; cases e
    | some x =>
      rw [q] at e; cases e
      obtain ⟨v, h1, h2⟩ := r.get q
      exact ⟨v, by rw [h1]; rfl, h2⟩
  · rw [List.getElem?_append_right (by simp; omega)] at e
    rw [List.getElem?_replicate] at e
    split at e <;> cases e
end

/-- what a def promises: as g reckons -/
def spF (K : PySem.W.Frag) (ct : CT) (n : Nat) (g : EF) : Sp := fun vs H Q _ => vs.length = n ∧ rG K ct g vs H Q
section
variable {P : Program} {wd : World} {K : PySem.W.Frag} {mg : Str → Option Value} {base : Heap} {ct : CT}
theorem ok_fn {x qual : Str} {st : Stmt} {f : Addr} {fd : FuncData} {N ps : List Str} {k n m : Nat} {body : SS} (F : Fun K x qual st f fd) (S : FnScope N ps (defScope st)) (hn : ps.length = n) (hm : N.length = m)
    (hb : ∀ (cdv : Value) (A : Around) (outer : List Env) (s : Shared) (H : Hp) (E : XK), Rm k (A.deeper (envOfC qual (defScope st) s.heap.objs.size f cdv)) →
      SXs ct (cxOf CX0 P wd K mg base N qual (defScope st) f cdv A outer s H E).nox (defBody st) body) : FnG P wd K mg base CX0 (k + 1) f fd ps (spF K ct n (fn n m body)) := by
  refine fnG_of F S (fun vs H Q E h => by rw [h.1, hn]) fun cdv A outer s H vs Q E hr h => ?_
  obtain ⟨hl, w, hd, ds, sr, rd, q⟩ := h
  refine ⟨_, (hb cdv A outer s H E hr).nox, w, hd, ds.map some ++ List.replicate (m - n) none, sr, ?_, ?_⟩
  · have e : L2.start N vs = vs.map some ++ List.replicate (m - n) none := by unfold L2.start; rw [hl, hm]
    rw [e]; exact RS.start rd
  · have hdl : ds.length = n := by rw [rd.len, hl]
    unfold fn at q
    rw [if_pos hdl] at q
    refine (okR.bind0 (rel := rF K) q).imp fun b H1 ⟨w1, h1, fl, st1, sr1, r1, q1⟩ => ?_
    have go : ∀ (d : D) (v : V), RD K w1 H1 d v → okR K ct (rV K) (fin hd d h1) w H Q → Q v H1 := fun d v rd q => by
      unfold fin at q
      by_cases ho : okOld hd h1
      · rw [if_pos ho] at q
        cases hf : frz h1 hd.length d with
        | none => rw [hf] at q; exact q.elim
        | some d' =>
          rw [hf] at q
          obtain ⟨f1, f2, f3⟩ := fin_ok sr st1 sr1 rd ho hf
          exact q w H1 v f1 f2 f3
      · rw [if_neg ho] at q; exact q.elim
    cases fl with
    | nx σ1 => cases b with
      | nx σ2 => exact go .non .non rfl q1
      | _ => exact r1.elim
    | rt d => cases b with
      | rt v => exact go d v r1 q1
      | _ => exact r1.elim
    | bk σ1 => exact q1.elim
    | ct σ1 => exact q1.elim
theorem ok_fnK {x qual : Str} {st : Stmt} {f : Addr} {fd : FuncData} {N ps : List Str} {k n m : Nat} {body : SS} (F : Fun K x qual st f fd) (S : FnScope N ps (defScope st)) (hn : ps.length = n) (hm : N.length = m)
    (hb : ∀ (cdv : Value) (A : Around) (outer : List Env) (s : Shared) (H : Hp) (E : XK), Rm k (A.deeper (envOfC qual (defScope st) s.heap.objs.size f cdv)) →
      SXs ct (cxOf CX0 P wd K mg base N qual (defScope st) f cdv A outer s H E).nox (defBody st) body) : FnG P wd K mg base CX0 (k + 1) f fd ps (spF K ct n (fnK n m body)) := by
  refine fnG_of F S (fun vs H Q E h => by rw [h.1, hn]) fun cdv A outer s H vs Q E hr h => ?_
  obtain ⟨hl, w, hd, ds, sr, rd, q⟩ := h
  refine ⟨_, (hb cdv A outer s H E hr).nox, w, hd, ds.map some ++ List.replicate (m - n) none, sr, ?_, ?_⟩
  · have e : L2.start N vs = vs.map some ++ List.replicate (m - n) none := by unfold L2.start; rw [hl, hm]
    rw [e]; exact RS.start rd
  · have hdl : ds.length = n := by rw [rd.len, hl]
    unfold fnK at q
    rw [if_pos hdl] at q
    refine (okR.bind (rel := rF K) q).imp fun b H1 ⟨w1, h1, fl, st1, sr1, r1, q1⟩ => ?_
    cases fl with
    | nx σ1 => cases b with
      | nx σ2 => exact okR.here (K := K) (ct := ct) (rel := rV K) (a := D.non) (b := V.non) q1 sr1 rfl
      | _ => exact r1.elim
    | rt d => cases b with
      | rt v => exact okR.here (K := K) (ct := ct) (rel := rV K) (a := d) (b := v) q1 sr1 r1
      | _ => exact r1.elim
    | bk σ1 => exact q1.elim
    | ct σ1 => exact q1.elim
/-- a def that may be called by its name, as g reckons -/
structure Kn (P : Program) (wd : World) (K : PySem.W.Frag) (mg : Str → Option Value) (base : Heap) (ct : CT) (k : Nat) (x : Str) (n : Nat) (g : EF) : Prop where
  ex : ∃ (f : Addr) (fd : FuncData) (ps : List Str), FnG P wd K mg base CX0 k f fd ps (spF K ct n g) ∧ mg x = some (.ref f) ∧ PySem.W.keepIn K (.ref f) = true ∧ Binds K fd ps []
end
section
variable {ct : CT} {X : Cx} {e : Expr} {es : List Expr} {pos p : Pos} {x : Str} {k j n : Nat} {g : EF} {ha : EA}
theorem se_call (c : Kn X.prog X.w X.K X.mg X.base ct k x n g) (hg' : ∀ ds h, ds.length ≠ n → g ds h = .bad) (hr : Rm j X.A) (hk : k ≤ j) (hg : Gl X x) (h1 : SA ct X (e :: es) ha)
    (hdb : (x == ("__debug__" : Str)) = false := by decide) (he : starEach (e :: es) X.env = (false, eval e X.env) :: starEach es X.env := by rfl) (hpl : (backTo pos (starEach es X.env)).any (·.1) = false := by rfl) :
    SE ct X (.Call (.Name x p) (e :: es) [] pos) (eAp g ha) := by
  obtain ⟨f, fd, ps, F, hm, kp, b⟩ := c.ex
  refine pe_imp (pe_callG (E := fun _ _ _ _ => False) F (hr.mono hk) hg hm kp b .nil (fun _ _ _ _ _ _ _ z => z.elim) h1 hdb he hpl) fun σ H Q ⟨w, h, σd, sr, rs, q⟩ => ?_
  refine ⟨w, h, σd, sr, rs, (okR.bind (rel := rVs X.K) q).imp fun vs H1 ⟨w1, h1, ds, st1, sr1, r1, q1⟩ => ?_⟩
  rw [List.append_nil]
  by_cases hl : ds.length = n
  · exact ⟨by rw [← r1.len, hl], w1, h1, ds, sr1, r1, q1⟩
  · rw [hg' ds h1 hl] at q1; exact q1.elim
theorem fn_bad {n m : Nat} {body : SS} (ds : List D) (h : Hd) (e : ds.length ≠ n) : fn n m body ds h = .bad := by unfold fn; rw [if_neg e]
theorem fnK_bad {n m : Nat} {body : SS} (ds : List D) (h : Hd) (e : ds.length ≠ n) : fnK n m body ds h = .bad := by unfold fnK; rw [if_neg e]
end
end BR

namespace BR
open PySem PySem.Spec PyProof.Rows L2

def gAdd : EF := fun ds h => match ds with
  | [.int i, .int j] => .ok (.int (i + j)) h
  | [.tup xs, .tup ys] => if xs.length + ys.length ≤ LIM then .ok (.tup (xs ++ ys)) h else .bad
  | [.lst xs, .lst ys] => if xs.length + ys.length ≤ LIM then .ok (.lst (xs ++ ys)) h else .bad
  | [.ref a, .lst ys] => match h[a]? with
    | some (.lst xs) => if xs.length + ys.length ≤ LIM then .ok (.lst (xs ++ ys)) h else .bad
    | _ => .bad
  | [.lst xs, .ref b] => match h[b]? with
    | some (.lst ys) => if xs.length + ys.length ≤ LIM then .ok (.lst (xs ++ ys)) h else .bad
    | _ => .bad
  | _ => .bad
def gSubt : EF := fun ds h => match ds with
  | [.int i, .int j] => .ok (.int (i - j)) h
  | _ => .bad
/-- the bits that numbers may have -/
def mulOk (i j : Int) : Prop := (-(2 ^ 64) < i ∧ i < 2 ^ 64) ∨ (-(2 ^ 64) < j ∧ j < 2 ^ 64) ∨ i.natAbs.log2 + j.natAbs.log2 < 1000000
open Classical in
noncomputable def gMul : EF := fun ds h => match ds with
  | [.int i, .int j] => if mulOk i j then .ok (.int (i * j)) h else .bad
  | [.lst xs, .int k] => if k ≤ BIG ∧ -BIG ≤ k ∧ xs.length * k.toNat ≤ LIM then .ok (.lst (List.replicate k.toNat xs).flatten) h else .bad
  | [.tup xs, .int k] => if k ≤ 1000 ∧ -BIG ≤ k ∧ xs.length ≤ 1000 then .ok (.tup (List.replicate k.toNat xs).flatten) h else .bad
  | _ => .bad
def gFdv : EF := fun ds h => match ds with
  | [.int i, .int j] => if j ≠ 0 ∧ j.natAbs.log2 < 9000 then .ok (.int (i.fdiv j)) h else .bad
  | _ => .bad
def gMod : EF := fun ds h => match ds with
  | [.int i, .int j] => if j ≠ 0 then .ok (.int (i.fmod j)) h else .bad
  | _ => .bad
def gPow : EF := fun ds h => match ds with
  | [.int i, .int j] => if 0 ≤ j ∧ j ≤ 1000000 ∧ i.natAbs < 2 ^ 64 then .ok (.int (i ^ j.toNat)) h else .bad
  | _ => .bad
def gNeg : EF := fun ds h => match ds with
  | [.int i] => .ok (.int (-i)) h
  | _ => .bad
def gLt : EF := fun ds h => match ds with
  | [.int i, .int j] => .ok (.bl (decide (i < j))) h
  | _ => .bad
def gLe : EF := fun ds h => match ds with
  | [.int i, .int j] => .ok (.bl (decide (i ≤ j))) h
  | _ => .bad
def gGt : EF := fun ds h => match ds with
  | [.int i, .int j] => .ok (.bl (decide (j < i))) h
  | _ => .bad
def gGe : EF := fun ds h => match ds with
  | [.int i, .int j] => .ok (.bl (decide (j ≤ i))) h
  | _ => .bad
def gIs : EF := fun ds h => match ds with
  | [.bl i, .bl j] => .ok (.bl (decide (i = j))) h
  | _ => .bad
def gIsn : EF := fun ds h => match ds with
  | [.bl i, .bl j] => .ok (.bl (!decide (i = j))) h
  | _ => .bad

mutual
def toPy (h : Hd) : D → Option PyData
  | .non => some .none
  | .bl b => some (.bool b)
  | .int i => some (.int i)
  | .str x => some (.str x)
  | .tup xs => (toPys h xs).map .tuple
  | .lst xs => (toPys h xs).map .list
  | _ => none
def toPys (h : Hd) : List D → Option (List PyData)
  | [] => some []
  | d :: ds => match toPy h d, toPys h ds with
    | some a, some b => some (a :: b)
    | _, _ => none
end
def toPyR (h : Hd) : D → Option PyData
  | .ref a => match h[a]? with
    | some (.lst xs) => (toPys h xs).map .list
    | _ => none
  | d => toPy h d
/-- Python's == -/
def strOf : D → Option Str
  | .str x => some x
  | _ => none
def eqD (h : Hd) (d e : D) : Option Bool := match strOf d, strOf e with
  | some a, some b => some (decide (a = b))
  | _, _ => match toPyR h d, toPyR h e with
    | some a, some b => if SeqAt.shaped a = true ∧ SeqAt.shaped b = true then some (PyData.eqv a b) else none
    | _, _ => none
def gEq : EF := fun ds h => match ds with
  | [d, e] => match eqD h d e with
    | some b => .ok (.bl b) h
    | none => .bad
  | _ => .bad
def gNe : EF := fun ds h => match ds with
  | [d, e] => match eqD h d e with
    | some b => .ok (.bl (!b)) h
    | none => .bad
  | _ => .bad

section
variable {K : PySem.W.Frag} {ct : CT} {w : W} {H : Hp} {h : Hd} {Q : VK}
theorem LIM_line {n : Nat} (e : n ≤ LIM) : n ≤ sizeLine := Nat.le_trans e (by rw [sizeLine_eq]; decide)
theorem put_tup {xs : List D} {vs : List V} (q : okR K ct (rV K) (.ok (.tup xs) h) w H Q) (sr : SR K w H ct h) (r : RDs K w H xs vs) {p : Addr} (hp : H p = none) : Q (.ref p) (upd H p (.tup vs)) :=
  q w _ _ (.alloc sr hp) (sr.alloc hp) ⟨p, vs, rfl, SqT.of upd_same, (Step.alloc sr hp).rds r⟩
theorem put_lst {xs : List D} {vs : List V} (q : okR K ct (rV K) (.ok (.lst xs) h) w H Q) (sr : SR K w H ct h) (r : RDs K w H xs vs) {p : Addr} (hp : H p = none) : Q (.ref p) (upd H p (.lst vs)) :=
  q w _ _ (.alloc sr hp) (sr.alloc hp) ⟨p, vs, rfl, ⟨upd_same, sr.fresh hp⟩, (Step.alloc sr hp).rds r⟩
theorem put_ref {xs : List D} {vs : List V} (q : okR K ct (rV K) (.ok (.ref h.length) (h ++ [.lst xs])) w H Q) (sr : SR K w H ct h) (r : RDs K w H xs vs) {p : Addr} (hp : H p = none) : Q (.ref p) (upd H p (.lst vs)) := by
  refine q _ _ _ (.new sr hp) (sr.new hp ⟨vs, upd_same, (Step.new sr hp).rds r⟩) ⟨p, rfl, ?_⟩
  show (w.io ++ [p])[h.length]? = some p
  rw [← sr.len, List.getElem?_append_right (Nat.le_refl _), Nat.sub_self]; rfl
theorem put_mut {a : Nat} {p : Addr} {xs : List D} {vs : List V} {d : D} {v : V} (q : okR K ct (rV K) (.ok d (h.set a (.lst xs))) w H Q) (sr : SR K w H ct h) (hp : w.io[a]? = some p) (so : Soft h a) (r : RDs K w H xs vs)
    (rd : RD K w H d v) : Q v (upd H p (.lst vs)) :=
  q w _ _ (.mut sr hp so) (sr.mut hp so ⟨vs, upd_same, (Step.mut sr hp so).rds r⟩) ((Step.mut sr hp so).rd _ _ rd)
/-- a list's items, where it stands -/
theorem lst_at {d : D} {v : V} {xs : List D} (sr : SR K w H ct h) (rd : RD K w H d v) (e : lstOf h d = some xs) : ∃ a vs, v = .ref a ∧ H a = some (.lst vs) ∧ RDs K w H xs vs := by
  cases d with
  | lst ys => cases e; obtain ⟨a, vs, e1, e2, r⟩ := rd; exact ⟨a, vs, e1, e2.1, r⟩
  | ref n =>
    obtain ⟨a, e1, e2⟩ := rd
    unfold lstOf at e
    simp only at e
    split at e
    · rename_i q
      cases e
      obtain ⟨vs, q1, q2⟩ := sr.ob n _ a q e2
      exact ⟨a, vs, e1, q1, q2⟩
    · cases e
  | _ => cases e
theorem rep_rds {xs : List D} {vs : List V} (r : RDs K w H xs vs) : ∀ n : Nat, RDs K w H (List.replicate n xs).flatten (List.replicate n vs).flatten
  | 0 => rfl
  | n + 1 => by
    simp only [List.replicate_succ, List.flatten_cons]
    exact RDs.append r (rep_rds r n)
end
section
variable {ct : CT} {X : Cx}
theorem op_cat2 {d e : D} {x y : V} {xs ys : List D} {w : W} {H : Hp} {h : Hd} {Q : VK} (sr : SR X.K w H ct h) (rx : RD X.K w H d x) (ry : RD X.K w H e y) (e1 : lstOf h d = some xs) (e2 : lstOf h e = some ys)
    (q : okR X.K ct (rV X.K) (if xs.length + ys.length ≤ LIM then .ok (.lst (xs ++ ys)) h else .bad) w H Q) : rCat x y H Q := by
  split at q
  · rename_i hl
    obtain ⟨a, vs, rfl, ha, r1⟩ := lst_at sr rx e1
    obtain ⟨b, us, rfl, hb, r2⟩ := lst_at sr ry e2
    refine ⟨a, b, vs, us, rfl, rfl, ha, hb, LIM_line (by rw [← r1.len, ← r2.len]; exact hl), fun p hp => put_lst q sr (r1.append r2) hp⟩
  · exact q.elim
theorem or_add : OpR X (binaryOp .Add) (r2G X.K ct gAdd) := by
  intro pins s σ H x y v u Q I rx ry ⟨w, h, ds, sr, rd, q⟩
  obtain ⟨d, e, rfl, r1, r2⟩ := rd.two
  unfold gAdd at q
  split at q
  · rename_i i j e
    cases e
    exact op_add pins s σ H x y v u Q I rx ry ⟨i, j, r1, r2, q.here sr rfl⟩
  · rename_i xs ys e
    cases e
    split at q
    · rename_i hl
      obtain ⟨a, vs, rfl, ha, ra⟩ := r1
      obtain ⟨b, us, rfl, hb, rb⟩ := r2
      refine op_catA pins s σ H _ _ v u Q I rx ry ⟨a, b, vs, us, rfl, rfl, ha, hb, LIM_line (by rw [← ra.len, ← rb.len]; exact hl), fun e => ?_, fun e1 e2 => ?_, fun _ _ p hp => put_tup q sr (ra.append rb) hp⟩
      · subst e
        cases ra.zero
        exact q.here sr ⟨b, us, rfl, hb, rb⟩
      · subst e2
        cases rb.zero
        rw [List.append_nil] at q
        exact q.here sr ⟨a, vs, rfl, ha, ra⟩
    · exact q.elim
  · rename_i xs ys e
    cases e
    exact op_cat pins s σ H x y v u Q I rx ry (op_cat2 sr r1 r2 rfl rfl q)
  · rename_i a ys e
    cases e
    split at q
    · rename_i xs hx
      exact op_cat pins s σ H x y v u Q I rx ry (op_cat2 sr r1 r2 (by simp [lstOf, hx]) rfl q)
    · exact q.elim
  · rename_i xs b e
    cases e
    split at q
    · rename_i ys hx
      exact op_cat pins s σ H x y v u Q I rx ry (op_cat2 sr r1 r2 rfl (by simp [lstOf, hx]) q)
    · exact q.elim
  · exact q.elim
/-- two ints -/
theorem int2 {g : EF} {f : Value → Value → Sem Value} {C : Int → Int → Prop} {k : Int → Int → V} {kd : Int → Int → D} (ho : OpR X f (rI C k)) (hg : ∀ (ds : List D) (h : Hd) (d : D) (h' : Hd), g ds h = .ok d h' → ∃ i j, ds = [.int i, .int j] ∧ C i j ∧ d = kd i j ∧ h' = h)
    (hk : ∀ K w H i j, RD K w H (kd i j) (k i j)) : OpR X f (r2G X.K ct g) := by
  intro pins s σ H x y v u Q I rx ry ⟨w, h, ds, sr, rd, q⟩
  obtain ⟨d, h', e⟩ := okR_ok q
  obtain ⟨i, j, rfl, c, e1, e2⟩ := hg _ _ _ _ e
  subst e1; subst e2
  obtain ⟨_, _, e3, r1, r2⟩ := rd.two
  cases e3
  rw [e] at q
  exact ho pins s σ H x y v u Q I rx ry ⟨i, j, r1, r2, c, q.here sr (hk _ _ _ i j)⟩
theorem rI0_rI {f : Value → Value → Sem Value} {k : Int → Int → V} (ho : OpR X f (rI0 k)) : OpR X f (rI (fun _ _ => True) k) := fun pins s σ H x y v u Q I rx ry ⟨i, j, e1, e2, _, q⟩ => ho pins s σ H x y v u Q I rx ry ⟨i, j, e1, e2, q⟩
theorem or_lt : OpR X (compareOp .Lt) (r2G X.K ct gLt) := int2 (kd := fun i j => .bl (decide (i < j))) (rI0_rI op_lt) (fun ds h d h' e => by
  unfold gLt at e; split at e <;> cases e; exact ⟨_, _, rfl, trivial, rfl, rfl⟩) fun _ _ _ _ _ => rfl
theorem or_gt : OpR X (compareOp .Gt) (r2G X.K ct gGt) := int2 (kd := fun i j => .bl (decide (j < i))) (rI0_rI op_gt) (fun ds h d h' e => by
  unfold gGt at e; split at e <;> cases e; exact ⟨_, _, rfl, trivial, rfl, rfl⟩) fun _ _ _ _ _ => rfl
theorem or_ge : OpR X (compareOp .GtE) (r2G X.K ct gGe) := int2 (kd := fun i j => .bl (decide (j ≤ i))) (rI0_rI op_ge) (fun ds h d h' e => by
  unfold gGe at e; split at e <;> cases e; exact ⟨_, _, rfl, trivial, rfl, rfl⟩) fun _ _ _ _ _ => rfl
theorem or_pow : OpR X (binaryOp .Pow) (r2G X.K ct gPow) := int2 (kd := fun i j => .int (i ^ j.toNat)) op_pow (fun ds h d h' e => by
  unfold gPow at e; split at e
  · split at e
    · rename_i c; cases e; exact ⟨_, _, rfl, c, rfl, rfl⟩
    · cases e
  · cases e) fun _ _ _ _ _ => rfl
theorem or_mod : OpR X (binaryOp .Mod) (r2G X.K ct gMod) := int2 (kd := fun i j => .int (i.fmod j)) op_modN (fun ds h d h' e => by
  unfold gMod at e; split at e
  · split at e
    · rename_i c; cases e; exact ⟨_, _, rfl, c, rfl, rfl⟩
    · cases e
  · cases e) fun _ _ _ _ _ => rfl
/-- //, by a divisor of any sign -/
theorem op_fdivA : OpR X (binaryOp .FloorDiv) (rI (fun _ j => j ≠ 0 ∧ j.natAbs.log2 < 9000) fun i j => .int (i.fdiv j)) :=
  opI fun _ _ _ _ _ _ _ hc q => floordiv_int hc.1 q (.inl (PyProof.noPylong_of_log2 hc.2))
theorem or_fdv : OpR X (binaryOp .FloorDiv) (r2G X.K ct gFdv) := int2 (kd := fun i j => .int (i.fdiv j)) op_fdivA (fun ds h d h' e => by
  unfold gFdv at e; split at e
  · split at e
    · rename_i c; cases e; exact ⟨_, _, rfl, c, rfl, rfl⟩
    · cases e
  · cases e) fun _ _ _ _ _ => rfl
end
end BR

namespace BR
open PySem PySem.Spec PyProof.Rows L2
theorem tuple_mul1 (l : Addr) (items : Array Value) (n : Nat) (dd : Option Addr) (sl : Array (Option Value)) (x : Int) (u : Tok) (c0 : (decide (x < -(2 ^ 63)) || decide (x ≥ 2 ^ 63)) = false) (c1 : (items.isEmpty || x == 1) = true) :
    Meets (Builtin.«tuple.__mul__» ⟨[.ref l, .int x u], []⟩) (fun _ R s => s.heap.get? l = some { cls := .type "tuple", dict := dd, data := .seq items n, slots := sl } ∧ R (.ok (.ret (Value.ref l))) s) :=
  .of_wp fun prog w A R s h => by
    obtain ⟨hp, g, d, tk, os⟩ := s
    obtain ⟨hl, h⟩ := h
    have f1 := AutoSeq1.idx_int
    wp_walk using wpAny_loadPart' hl
    repeat (first
      | (refine wpAny_ite_false (decide_eq_false (by rw [c0]; exact Bool.false_ne_true)) ?_; wp_walk using wpAny_loadPart' hl)
      | (refine wpAny_ite_true (decide_eq_true c1) ?_; wp_walk using wpAny_loadPart' hl))
    exact ⟨_, rfl, h⟩
theorem tuple_mul0 (l : Addr) (items : Array Value) (n : Nat) (dd : Option Addr) (sl : Array (Option Value)) (x : Int) (u : Tok) (c0 : (decide (x < -(2 ^ 63)) || decide (x ≥ 2 ^ 63)) = false) (c1 : (items.isEmpty || x == 1) = false) (c2 : (decide (x ≤ 0) || items.isEmpty) = true) :
    Meets (Builtin.«tuple.__mul__» ⟨[.ref l, .int x u], []⟩) (fun _ R s => s.heap.get? l = some { cls := .type "tuple", dict := dd, data := .seq items n, slots := sl } ∧
      R (.ok (.ret (Value.ref s.heap.objs.size))) { s with heap := s.heap.push { cls := Value.type "tuple", data := Data.seq #[] }, toks := s.toks }) :=
  .of_wp fun prog w A R s h => by
    obtain ⟨hp, g, d, tk, os⟩ := s
    obtain ⟨hl, h⟩ := h
    have f1 := AutoSeq1.idx_int
    wp_walk using wpAny_loadPart' hl
    repeat (first
      | (refine wpAny_ite_false (decide_eq_false (by rw [c0]; exact Bool.false_ne_true)) ?_; wp_walk using wpAny_loadPart' hl)
      | (refine wpAny_ite_false (decide_eq_false (by rw [c1]; exact Bool.false_ne_true)) ?_; wp_walk using wpAny_loadPart' hl)
      | (refine wpAny_ite_true (decide_eq_true c2) ?_; wp_walk using wpAny_loadPart' hl))
    exact ⟨_, rfl, h⟩
def rRepA (K : PySem.W.Frag) : R2 := fun x y H Q => ∃ l k xs, x = .ref l ∧ y = .int k ∧ SqT K H l xs ∧ -BIG ≤ k ∧ k ≤ 1000 ∧ xs.length ≤ 1000 ∧
  ((xs = [] ∨ k = 1) → Q (.ref l) H) ∧ (xs ≠ [] → k ≠ 1 → ∀ p, H p = none → Q (.ref p) (upd H p (.tup (List.replicate k.toNat xs).flatten)))
theorem op_repA {X : Cx} : OpR X (binaryOp .Mult) (rRepA X.K) := by
  intro pins s σ H x y v u Q I rx ry h
  obtain ⟨l, k, xs, rfl, rfl, hT, hb, h2, hz, q1, q2⟩ := h
  by_cases hbig : xs ≠ [] ∧ 2 ≤ k
  · exact op_repT pins s σ H _ _ v u Q I rx ry ⟨l, k, xs, rfl, rfl, hT, hbig.1, hbig.2, h2, hz, q2 hbig.1 (by omega)⟩
  unfold BIG at hb
  cases rx
  obtain ⟨t, rfl⟩ := ry
  obtain ⟨its, r, ⟨⟨cls, dd, data, sl⟩, ho, hc, n, hd⟩, hs⟩ := I.tuple hT
  simp only at hc hd
  subst hc hd
  have hle : its.length = xs.length := r.length.symm
  have c0 : (decide (k < -(2 ^ 63)) || decide (k ≥ 2 ^ 63)) = false := by
    rw [decide_eq_false (by omega), decide_eq_false (by omega)] <;> rfl
  by_cases h1 : xs = [] ∨ k = 1
  · have c1 : (its.toArray.isEmpty || k == 1) = true := by
      rcases h1 with h1 | h1
      · subst h1
        have : its = [] := List.eq_nil_of_length_eq_zero hle
        subst this; rfl
      · subst h1; simp
    refine wpAny_binaryOp_repeat_ref (T := "tuple") (U := "int") (by decide) ⟨_, ho, rfl⟩ (fun s' => typeIs_int s' k t) noFill_tuple_mul F.fills_int_mul F.slot_int_rmul repeat_tuple F.slot_int_index.lookup
      (call_meets F.slot_int_rmul (typeIs_int s k t) F.entry_int_rmul (F.args_int_rmul_2 _ _) (int_rmul_tuple k t l its.toArray n dd sl)
        ⟨ho, rfl, ⟨_, ho, rfl⟩, call_meets F.slot_tuple_mul ⟨_, ho, rfl⟩ F.entry_tuple_mul (F.args_tuple_mul_2 _ _) (tuple_mul1 l its.toArray n dd sl k t c0 c1) ⟨ho, ?_⟩⟩)
    exact ⟨.ref l, H, I, rfl, q1 h1⟩
  · have hx : xs ≠ [] := fun e => h1 (.inl e)
    have hk1 : k ≠ 1 := fun e => h1 (.inr e)
    have hk0 : k ≤ 0 := by
      by_cases hk : 2 ≤ k
      · exact absurd ⟨hx, hk⟩ hbig
      · omega
    have hi : its.toArray.isEmpty = false := by
      cases its with
      | nil => exact absurd (List.eq_nil_of_length_eq_zero hle.symm) hx
      | cons a b => rfl
    have c1 : (its.toArray.isEmpty || k == 1) = false := by
      rw [hi, Bool.false_or]
      exact beq_eq_false_iff_ne.mpr hk1
    have c2 : (decide (k ≤ 0) || its.toArray.isEmpty) = true := by rw [decide_eq_true hk0]; rfl
    refine wpAny_binaryOp_repeat_ref (T := "tuple") (U := "int") (by decide) ⟨_, ho, rfl⟩ (fun s' => typeIs_int s' k t) noFill_tuple_mul F.fills_int_mul F.slot_int_rmul repeat_tuple F.slot_int_index.lookup
      (call_meets F.slot_int_rmul (typeIs_int s k t) F.entry_int_rmul (F.args_int_rmul_2 _ _) (int_rmul_tuple k t l its.toArray n dd sl)
        ⟨ho, rfl, ⟨_, ho, rfl⟩, call_meets F.slot_tuple_mul ⟨_, ho, rfl⟩ F.entry_tuple_mul (F.args_tuple_mul_2 _ _) (tuple_mul0 l its.toArray n dd sl k t c0 c1 c2) ⟨ho, ?_⟩⟩)
    have e0 : (List.replicate k.toNat xs).flatten = [] := by
      have : k.toNat = 0 := by omega
      rw [this]; rfl
    have q2 := q2 hx hk1
    rw [e0] at q2
    refine ⟨.ref s.heap.objs.size, _, I.laid (t' := s.toks) (o := .tup []) (fun b ob q => Heap.get?_push_of_some _ q) (Nat.le_refl _) ?_, rfl, q2 _ (I.hok.fresh (Nat.le_refl _))⟩
    exact ⟨Nat.zero_le _, [], .nil, IsTup.new _ _⟩
section
variable {ct : CT} {X : Cx}
theorem or_mul : OpR X (binaryOp .Mult) (r2G X.K ct gMul) := by
  intro pins s σ H x y v u Q I rx ry ⟨w, h, ds, sr, rd, q⟩
  obtain ⟨d, e, rfl, r1, r2⟩ := rd.two
  unfold gMul at q
  split at q
  · rename_i i j e
    cases e
    split at q
    · rename_i hm
      rcases hm with hm | hm | hm
      · exact op_mul pins s σ H x y v u Q I rx ry ⟨i, j, r1, r2, .inl hm, q.here sr rfl⟩
      · exact op_mul pins s σ H x y v u Q I rx ry ⟨i, j, r1, r2, .inr hm, q.here sr rfl⟩
      · exact op_mulW pins s σ H x y v u Q I rx ry ⟨i, j, r1, r2, hm, q.here sr rfl⟩
    · exact q.elim
  · rename_i xs k e
    cases e
    split at q
    · rename_i hm
      obtain ⟨a, vs, rfl, ha, ra⟩ := r1
      have hl := ra.len
      unfold BIG at hm
      refine op_rep pins s σ H _ y v u Q I rx ry ⟨a, k, vs, rfl, r2, ha.1, by omega, by omega, LIM_line (by rw [← hl]; exact hm.2.2), fun p hp => put_lst q sr (rep_rds ra _) hp⟩
    · exact q.elim
  · rename_i xs k e
    cases e
    split at q
    · rename_i hm
      obtain ⟨a, vs, rfl, ha, ra⟩ := r1
      have hl := ra.len
      refine op_repA pins s σ H _ y v u Q I rx ry ⟨a, k, vs, rfl, r2, ha, hm.2.1, hm.1, by omega, fun h1 => ?_, fun _ _ p hp => put_tup q sr (rep_rds ra _) hp⟩
      rcases h1 with h1 | h1
      · subst h1
        have e0 : xs = [] := ra.zero
        subst e0
        have e1 : (List.replicate k.toNat ([] : List D)).flatten = [] := by simp
        rw [e1] at q
        exact q.here sr ⟨a, [], rfl, ha, ra⟩
      · subst h1
        have e1 : (List.replicate (1 : Int).toNat xs).flatten = xs := by simp
        rw [e1] at q
        exact q.here sr ⟨a, vs, rfl, ha, ra⟩
    · exact q.elim
  · exact q.elim
end
section
variable {prog : Program} {w : World} {A : Around} {E : Value → Shared → Prop} {s : Shared} {l : Addr} {xs : Array (Int × Tok)}
variable {its : List Value} {ns : List Int}
end
/-- the ints of a list -/
def intsOf : List D → Option (List Int)
  | [] => some []
  | .int i :: ds => (intsOf ds).map (i :: ·)
  | _ => none
theorem intsOf_map : ∀ ns : List Int, intsOf (ns.map D.int) = some ns
  | [] => rfl
  | n :: ns => by show (intsOf (ns.map D.int)).map (n :: ·) = _; rw [intsOf_map ns]; rfl
def gInts (k : List Int → Hd → Res D) : EF := fun ds h => match ds with
  | [d] => match seqOf h d with
    | some xs => match intsOf xs with
      | some ns => k ns h
      | none => .bad
    | none => .bad
  | _ => .bad
def gSum : EF := gInts fun ns h => .ok (.int ns.sum) h
def gLen : EF := fun ds h => match ds with
  | [d] => match d with
    | .str x => if x.length ≤ LIM then .ok (.int x.length) h else .bad
    | .dct ks _ => .ok (.int ks.length) h
    | .dcT ks _ => .ok (.int ks.length) h
    | .ref a => match h[a]? with
      | some (.lst xs) => .ok (.int xs.length) h
      | some (.dct ks _) => .ok (.int ks.length) h
      | some (.dcT ks _) => .ok (.int ks.length) h
      | _ => .bad
    | .tup xs => .ok (.int xs.length) h
    | .lst xs => .ok (.int xs.length) h
    | _ => .bad
  | _ => .bad
def gInt : EF := fun ds h => match ds with
  | [.int i] => .ok (.int i) h
  | [.bl b] => .ok (.int (if b then 1 else 0)) h
  | _ => .bad
def gTuple : EF := fun ds h => match ds with
  | [d] => match seqOf h d with
    | some xs => .ok (.tup xs) h
    | none => .bad
  | _ => .bad
def gListR : EF := fun ds h => match ds with
  | [d] => match seqOf h d with
    | some xs => .ok (.ref h.length) (h ++ [.lst xs])
    | none => .bad
  | _ => .bad
section
variable {ct : CT} {X : Cx}
theorem seq_arg {w : W} {h : Hd} {H : Hp} {d : D} {v : V} {xs : List D} (sr : SR X.K w H ct h) (rd : RD X.K w H d v) (e : seqOf h d = some xs) : ∃ a vs, v = .ref a ∧ RDs X.K w H xs vs ∧ (SqL X.K H a vs ∨ SqT X.K H a vs) := by
  obtain ⟨a, vs, e1, e2, z | z⟩ := holds_of sr rd e
  · exact ⟨a, vs, e1, e2, .inl z.2⟩
  · exact ⟨a, vs, e1, e2, .inr z.2⟩
theorem cr_listR : CallR X (.type "list") (rG X.K ct gListR) := by
  intro pins s σ H vs us Q I r ⟨w, h, ds, sr, rd, q⟩
  unfold gListR at q
  split at q
  · rename_i d
    obtain ⟨v, rr, rfl, hv, hr⟩ := rd
    cases (show rr = [] from hr)
    split at q
    · rename_i xs e
      obtain ⟨a, ws, rfl, ra, z⟩ := seq_arg sr hv e
      exact call_list_of pins s σ H _ us Q I r ⟨a, ws, rfl, z, fun p hp => put_ref q sr ra hp⟩
    · exact q.elim
  · exact q.elim
end
end BR

namespace BR
open PySem PySem.Spec PyProof.Rows L2
def flatD : D → Bool
  | .non => true
  | .bl _ => true
  | .int _ => true
  | .str _ => true
  | _ => false
def eqF : D → D → Bool
  | .non, .non => true
  | .bl a, .bl b => a == b
  | .bl a, .int b => (if a then 1 else 0) == b
  | .int a, .bl b => a == (if b then 1 else 0)
  | .int a, .int b => a == b
  | .str a, .str b => a == b
  | _, _ => false
/-- x in a list or tuple of plain things -/
def inF (neg : Bool) : EF := fun ds h => match ds with
  | [x, d] => match seqOf h d with
    | some xs => if (flatD x && xs.all flatD) = true then .ok (.bl (if neg then !(xs.any fun y => eqF y x) else xs.any fun y => eqF y x)) h else .bad
    | none => .bad
  | _ => .bad
def gIx : EF := fun ds h => match ds with
  | [d, .int i] => match seqOf h d with
    | some xs => match atI xs i with
      | some x => .ok x h
      | none => .bad
    | none => .bad
  | _ => .bad
/-- o[i] = x -/
def gSet : EF := fun ds h => match ds with
  | [.ref a, .int i, x] => match h[a]? with
    | some (.lst xs) => match ixN xs.length i with
      | some j => .ok .non (h.set a (.lst (xs.set j x)))
      | none => .bad
    | some (.dct ks vs) => match intsOf ks with
      | some ns => if ns.length < LIM then
          (if i ∈ ns then (if ns.Nodup then .ok .non (h.set a (.dct ks (vs.set (ns.idxOf i) x))) else .bad) else .ok .non (h.set a (.dct (ks ++ [.int i]) (vs ++ [x])))) else .bad
      | none => .bad
    | _ => .bad
  | _ => .bad
def cutD (xs : List D) (lo hi : Option Int) : List D := (xs.drop (HT.sIx xs.length 0 lo)).take (HT.sIx xs.length xs.length hi - HT.sIx xs.length 0 lo)
def gCut : D → Option Int → Option Int → Hd → Res D := fun d lo hi h => match d with
  | .tup xs => .ok (.tup (cutD xs lo hi)) h
  | .lst xs => .ok (.lst (cutD xs lo hi)) h
  | .ref a => match h[a]? with
    | some (.lst xs) => .ok (.lst (cutD xs lo hi)) h
    | _ => .bad
  | .scr ns => .ok (.lst (cutD (ns.map D.int) lo hi)) h
  | _ => .bad
def tyOf (h : Hd) : D → Option String
  | .non => some "NoneType"
  | .bl _ => some "bool"
  | .int _ => some "int"
  | .str _ => some "str"
  | .tup _ => some "tuple"
  | .lst _ => some "list"
  | .ref a => match h[a]? with
    | some (.lst _) => some "list"
    | _ => none
  | _ => none
def subTy (a b : String) : Bool := a == b || (a == "bool" && b == "int")
def eIs (tys : List String) (f : EE) : EE := fun σ h => (f σ h).bind fun d h1 => match tyOf h1 d with
  | some t => .ok (.bl (tys.any fun b => subTy t b)) h1
  | none => .bad
theorem kit_tab : ∀ a ∈ ["NoneType", "bool", "int", "str", "tuple", "list"], ∀ b ∈ ["int", "bool", "str", "tuple", "list"], kitB a b = some (subTy a b) := by decide +kernel
section
variable {ct : CT} {X : Cx}
theorem cr_len : CallR X (.builtin "len") (rG X.K ct gLen) := by
  intro pins s σ H vs us Q I r ⟨w, h, ds, sr, rd, q⟩
  unfold gLen at q
  split at q
  · rename_i d
    obtain ⟨v, rr, rfl, hv, hr⟩ := rd
    cases (show rr = [] from hr)
    have hs : ∀ xs, seqOf h d = some xs → okR X.K ct (rV X.K) (.ok (.int xs.length) h) w H Q → wpAny (model X.prog X.w) X.A (call (.builtin "len") us) (EP X pins σ Q) X.xe s := fun xs e q => by
      obtain ⟨a, ws, rfl, ra, z⟩ := seq_arg sr hv e
      exact call_len_seq pins s σ H _ us Q I r ⟨a, ws, rfl, z, q.here sr (by rw [ra.len]; rfl)⟩
    have hd : ∀ (ks : List D) (a : Addr), v = .ref a → ((∃ kvs : List (Key × V), Rd H a (.dK kvs) ∧ ks = kvs.map (fun p => keyD p.1)) ∨ (∃ kvs : List (List Key × V), Rd H a (.dT kvs) ∧ ks = kvs.map (fun p => D.tup (p.1.map keyD)))) → okR X.K ct (rV X.K) (.ok (.int ks.length) h) w H Q →
        wpAny (model X.prog X.w) X.A (call (.builtin "len") us) (EP X pins σ Q) X.xe s := fun ks a e z q => by
      subst e
      obtain ⟨u, rfl, ru⟩ := vals1 r
      cases ru
      rcases z with ⟨kvs, hk, e⟩ | ⟨kvs, hk, e⟩
      · exact d_len I hk fun t s' I' => ⟨.int kvs.length, H, I', ⟨t, rfl⟩, q.here sr (by rw [e, List.length_map]; rfl)⟩
      · obtain ⟨z, hd, ys, rel, dd⟩ := dt_rd I.hok hk
        have hl : kvs.length = ys.length := Paired.length rel
        refine call_len_dictH hd dd (by rw [← hl]; rw [sizeLine_eq] at z; omega) ?_
        rw [← hl]
        exact ⟨.int ((kvs.length : Nat) : Int), H, I.tok _, ⟨_, rfl⟩, q.here sr (by rw [e, List.length_map]; rfl)⟩
    split at q
    · rename_i x
      split at q
      · rename_i hx
        exact call_len_str pins s σ H _ us Q I r ⟨x, by rw [show v = _ from hv], LIM_line hx, q.here sr rfl⟩
      · exact q.elim
    · rename_i ks us'
      obtain ⟨a, e1, _, kvs, e2, hk, _⟩ := hv
      exact hd ks a e1 (.inl ⟨kvs, e2, hk⟩) q
    · rename_i ks us'
      obtain ⟨a, e1, _, kvs, e2, hk, _⟩ := hv
      exact hd ks a e1 (.inr ⟨kvs, e2, hk⟩) q
    · rename_i a
      obtain ⟨p, e1, e2⟩ := hv
      split at q
      · rename_i xs e
        exact hs xs (by simp [seqOf, e]) q
      · rename_i ks us' e
        obtain ⟨kvs, e3, hk, _⟩ := sr.ob a _ p e e2
        exact hd ks p e1 (.inl ⟨kvs, .inl e3, hk⟩) q
      · rename_i ks us' e
        obtain ⟨kvs, e3, hk, _⟩ := sr.ob a _ p e e2
        exact hd ks p e1 (.inr ⟨kvs, .inl e3, hk⟩) q
      · exact q.elim
    · exact hs _ rfl q
    · exact hs _ rfl q
    · exact q.elim
  · exact q.elim
theorem ty_of {K : PySem.W.Frag} {w : W} {H : Hp} {h : Hd} {d : D} {v : V} {t : String} (sr : SR K w H ct h) (rd : RD K w H d v) (e : tyOf h d = some t) : TyX K H v (.type t) ∧ t ∈ ["NoneType", "bool", "int", "str", "tuple", "list"] := by
  cases d with
  | non => cases e; cases (show v = _ from rd); exact ⟨.base .non, by simp⟩
  | bl b => cases e; cases (show v = _ from rd); exact ⟨.base (.bl b), by simp⟩
  | int i => cases e; cases (show v = _ from rd); exact ⟨.base (.int i), by simp⟩
  | str x => cases e; cases (show v = _ from rd); exact ⟨.base (.str x), by simp⟩
  | tup xs =>
    cases e
    obtain ⟨a, vs, rfl, z, _⟩ := rd
    refine ⟨?_, by simp⟩
    rcases z with (z | ⟨o, z⟩) | ⟨o, its, n, h1, h2, _⟩
    · exact .base (.tup z)
    · exact .fTuple z
    · exact .kTuple h1 h2
  | lst xs => cases e; obtain ⟨a, vs, rfl, z, _⟩ := rd; exact ⟨.base (.lst z.1), by simp⟩
  | ref n =>
    obtain ⟨a, rfl, z⟩ := rd
    unfold tyOf at e
    simp only at e
    split at e
    · rename_i q
      cases e
      obtain ⟨vs, q1, _⟩ := sr.ob n _ a q z
      exact ⟨.base (.lst q1), by simp⟩
    · cases e
  | _ => cases e
theorem se_is1 {fe : EE} {e c : Expr} {T : String} {x : Str} {p pos : Pos} (hT : T ∈ ["int", "bool", "str", "tuple", "list"])
    (h2 : PE X (.Call (.Name x p) [e, c] [] pos) (tCB (rIsi X.K) (tCons (tE X.K ct fe) (tCons (tC (.ty T)) tNil)))) : SE ct X (.Call (.Name x p) [e, c] [] pos) (eIs [T] fe) := pe_imp h2 fun σ H Q ⟨w, h, σd, sr, rs, q⟩ => by
  refine ⟨w, h, σd, sr, rs, (okR.bind (rel := rV X.K) q).imp fun v H1 ⟨w1, h1, d, st1, sr1, r1, q1⟩ => ?_⟩
  split at q1
  · rename_i t e
    obtain ⟨z, hm⟩ := ty_of sr1 r1 e
    have hk := kit_tab t hm T hT
    exact ⟨v, .ty T, .type t, .type T, subTy t T, rfl, .ty T, z, kit_ty hk, okR.here q1 sr1 (by simp [RD])⟩
  · exact q1.elim
theorem se_is2 {fe : EE} {e c1 c2 : Expr} {T U : String} {x : Str} {kk : Nat} {p pos tp : Pos} (hT : T ∈ ["int", "bool", "str", "tuple", "list"]) (hU : U ∈ ["int", "bool", "str", "tuple", "list"])
    (h2 : PE X (.Call (.Name x p) [e, .Tuple [c1, c2] kk tp] [] pos) (tCB (rIsiT X.K) (tCons (tE X.K ct fe) (tCons (tTup (tCons (tC (.ty T)) (tCons (tC (.ty U)) tNil))) tNil)))) : SE ct X (.Call (.Name x p) [e, .Tuple [c1, c2] kk tp] [] pos) (eIs [T, U] fe) := pe_imp h2 fun σ H Q ⟨w, h, σd, sr, rs, q⟩ => by
  refine ⟨w, h, σd, sr, rs, (okR.bind (rel := rV X.K) q).imp fun v H1 ⟨w1, h1, d, st1, sr1, r1, q1⟩ => ?_⟩
  split at q1
  · rename_i t e
    obtain ⟨_, hm⟩ := ty_of sr1 r1 e
    have hk1 := kit_tab t hm T hT
    have hk2 := kit_tab t hm U hU
    refine ⟨by show 2 ≤ sizeLine; decide, fun pp hp => ?_⟩
    have sr2 := sr1.alloc (o := .tup [.ty T, .ty U]) hp
    have st2 := Step.alloc (o := .tup [.ty T, .ty U]) sr1 hp
    obtain ⟨z, _⟩ := ty_of sr2 (st2.rd _ _ r1) e
    refine ⟨v, pp, [.ty T, .ty U], .type t, [.type T, .type U], (subTy t T || (subTy t U || false)), rfl, upd_same, .cons (.ty T) (.cons (.ty U) .nil), z, ?_, ?_⟩
    · refine kitAny_cons (kit_ty hk1) (fun e1 => ?_) fun e1 => by rw [e1]; rfl
      rw [e1]
      exact kitAny_cons (kit_ty hk2) (fun e2 => by rw [e2]; rfl) fun e2 => by rw [e2]; rfl
    · exact okR.here (okR.step st2 q1) sr2 (by simp [RD])
  · exact q1.elim
end
end BR

namespace BR
open PySem PySem.Spec PyProof.Rows L2
section
variable {K : PySem.W.Frag} {ct : CT} {w : W} {H : Hp} {h : Hd}
mutual
theorem dp_of : ∀ (d : D) (v : V) (p : PyData), RD K w H d v → toPy h d = some p → Dp K H v p
  | .non, _, _, r, e => by cases e; cases (show _ = _ from r); exact .non
  | .bl b, _, _, r, e => by cases e; cases (show _ = _ from r); exact .bl b
  | .int i, _, _, r, e => by cases e; cases (show _ = _ from r); exact .int i
  | .str x, _, _, r, e => by cases e; cases (show _ = _ from r); exact .str x
  | .tup xs, _, p, ⟨a, vs, e1, e2, r⟩, e => by
    have e : (toPys h xs).map PyData.tuple = some p := e
    cases q : toPys h xs with
    | none => rw [q] at e; cases e
    | some ps => rw [q] at e; cases e; subst e1; exact .tup e2 (dps_of xs vs ps r q)
  | .lst xs, _, p, ⟨a, vs, e1, e2, r⟩, e => by
    have e : (toPys h xs).map PyData.list = some p := e
    cases q : toPys h xs with
    | none => rw [q] at e; cases e
    | some ps => rw [q] at e; cases e; subst e1; exact .lst (SqL.of e2.1) (dps_of xs vs ps r q)
  | .dct _ _, _, _, _, e => by cases e
  | .dcT _ _, _, _, _, e => by cases e
  | .ref _, _, _, _, e => by cases e
  | .scr _, _, _, _, e => by cases e
theorem dps_of : ∀ (ds : List D) (vs : List V) (ps : List PyData), RDs K w H ds vs → toPys h ds = some ps → DpAll K H vs ps
  | [], _, _, r, e => by cases e; cases (show _ = _ from r); exact .nil
  | d :: ds, _, ps, ⟨v, rr, e1, r1, r2⟩, e => by
    unfold toPys at e
    cases q1 : toPy h d with
    | none => rw [q1] at e; cases e
    | some a =>
      cases q2 : toPys h ds with
      | none => rw [q1, q2] at e; cases e
      | some b =>
        rw [q1, q2] at e; cases e; subst e1
        exact .cons (dp_of d v a r1 q1) (dps_of ds rr b r2 q2)
end
theorem dpR_of {d : D} {v : V} {p : PyData} (sr : SR K w H ct h) (r : RD K w H d v) (e : toPyR h d = some p) : Dp K H v p := by
  cases d with
  | ref a =>
    unfold toPyR at e
    simp only at e
    split at e
    · rename_i xs q
      obtain ⟨b, e1, e2⟩ := r
      obtain ⟨vs, e3, e4⟩ := sr.ob a _ b q e2
      cases q2 : toPys h xs with
      | none => rw [q2] at e; cases e
      | some ps => rw [q2] at e; cases e; subst e1; exact .lst (SqL.of e3) (dps_of xs vs ps e4 q2)
    · cases e
  | non => exact dp_of (h := h) _ _ _ r e
  | bl b => exact dp_of (h := h) _ _ _ r e
  | int b => exact dp_of (h := h) _ _ _ r e
  | str b => exact dp_of (h := h) _ _ _ r e
  | tup b => exact dp_of (h := h) _ _ _ r e
  | lst b => exact dp_of (h := h) _ _ _ r e
  | dct a b => cases e
  | dcT a b => cases e
  | scr a => cases e
theorem eqF_V {d e : D} {v u : V} (r1 : RD K w H d v) (r2 : RD K w H e u) (f1 : flatD d = true) (f2 : flatD e = true) : flatV v = true ∧ flatV u = true ∧ eqV v u = eqF d e := by
  cases d with
  | non =>
    cases (show v = _ from r1)
    cases e with
    | non => cases (show u = _ from r2); exact ⟨rfl, rfl, rfl⟩
    | bl _ => cases (show u = _ from r2); exact ⟨rfl, rfl, rfl⟩
    | int _ => cases (show u = _ from r2); exact ⟨rfl, rfl, rfl⟩
    | str _ => cases (show u = _ from r2); exact ⟨rfl, rfl, rfl⟩
    | _ => cases f2
  | bl _ =>
    cases (show v = _ from r1)
    cases e with
    | non => cases (show u = _ from r2); exact ⟨rfl, rfl, rfl⟩
    | bl _ => cases (show u = _ from r2); exact ⟨rfl, rfl, rfl⟩
    | int _ => cases (show u = _ from r2); exact ⟨rfl, rfl, rfl⟩
    | str _ => cases (show u = _ from r2); exact ⟨rfl, rfl, rfl⟩
    | _ => cases f2
  | int _ =>
    cases (show v = _ from r1)
    cases e with
    | non => cases (show u = _ from r2); exact ⟨rfl, rfl, rfl⟩
    | bl _ => cases (show u = _ from r2); exact ⟨rfl, rfl, rfl⟩
    | int _ => cases (show u = _ from r2); exact ⟨rfl, rfl, rfl⟩
    | str _ => cases (show u = _ from r2); exact ⟨rfl, rfl, rfl⟩
    | _ => cases f2
  | str _ =>
    cases (show v = _ from r1)
    cases e with
    | non => cases (show u = _ from r2); exact ⟨rfl, rfl, rfl⟩
    | bl _ => cases (show u = _ from r2); exact ⟨rfl, rfl, rfl⟩
    | int _ => cases (show u = _ from r2); exact ⟨rfl, rfl, rfl⟩
    | str _ => cases (show u = _ from r2); exact ⟨rfl, rfl, rfl⟩
    | _ => cases f2
  | _ => cases f1
theorem anyF_V {x : D} {v : V} (rx : RD K w H x v) (fx : flatD x = true) : ∀ {xs : List D} {vs : List V}, RDs K w H xs vs → xs.all flatD = true → vs.all flatV = true ∧ inV v vs = (xs.any fun y => eqF y x)
  | [], _, r, _ => by cases (show _ = [] from r); exact ⟨rfl, rfl⟩
  | d :: ds, _, ⟨u, us, e, r1, r2⟩, f => by
    subst e
    rw [List.all_cons, Bool.and_eq_true] at f
    obtain ⟨f1, f2, f3⟩ := eqF_V r1 rx f.1 fx
    obtain ⟨g1, g2⟩ := anyF_V rx fx r2 f.2
    refine ⟨by rw [List.all_cons, f1, g1]; rfl, ?_⟩
    show (eqV u v || (us.any fun y => eqV y v)) = (eqF d x || ds.any fun y => eqF y x)
    rw [f3, ← g2]; rfl
theorem cut_rds {xs : List D} {vs : List V} (r : RDs K w H xs vs) (lo hi : Option Int) : RDs K w H (cutD xs lo hi) (cutV vs lo hi) := by
  unfold cutD cutV
  rw [r.len]
  exact (r.drop _).take _
theorem at_rd {xs : List D} {vs : List V} {i : Int} {x : D} (r : RDs K w H xs vs) (e : atI xs i = some x) : ∃ v, atI vs i = some v ∧ RD K w H x v := by
  unfold atI at *
  rw [← r.len]
  cases q : ixN xs.length i with
  | none => rw [q] at e; cases e
  | some j => rw [q] at e; exact r.get e
end
section
variable {ct : CT} {X : Cx}
theorem or_eq1 (hu : X.A.units + 64 < cLine) (pins : List (Addr × Obj)) (s : Shared) (σ : L2.St) (H : Hp) (x y : V) (v u : Value) (Q : VK) (I : Inv X pins σ H s) (rx : RelV x v) (ry : RelV y u) (w : W) (h : Hd) (d e : D) (sr : SR X.K w H ct h) (r1 : RD X.K w H d x) (r2 : RD X.K w H e y)
    (q : okR X.K ct (rV X.K) (match (match toPyR h d, toPyR h e with
      | some a, some b => if SeqAt.shaped a = true ∧ SeqAt.shaped b = true then some (PyData.eqv a b) else none
      | _, _ => none) with
      | some b => .ok (.bl b) h
      | none => .bad) w H Q) : wpAny (model X.prog X.w) X.A (compareOp .Eq v u) (EP X pins σ Q) X.xe s := by
  cases q1 : toPyR h d with
  | none => rw [q1] at q; exact q.elim
  | some a =>
    cases q2 : toPyR h e with
    | none => rw [q1, q2] at q; exact q.elim
    | some b =>
      rw [q1, q2] at q
      simp only at q
      by_cases hs : SeqAt.shaped a = true ∧ SeqAt.shaped b = true
      · rw [if_pos hs] at q
        exact op_eqD hu pins s σ H x y v u Q I rx ry ⟨a, b, dpR_of sr r1 q1, dpR_of sr r2 q2, hs.1, hs.2, q.here sr rfl⟩
      · rw [if_neg hs] at q; exact q.elim
theorem or_eq (hu : X.A.units + 64 < cLine) : OpR X (compareOp .Eq) (r2G X.K ct gEq) := by
  intro pins s σ H x y v u Q I rx ry ⟨w, h, ds, sr, rd, q⟩
  obtain ⟨d, e, rfl, r1, r2⟩ := rd.two
  cases z1 : strOf d with
  | some a' =>
    cases z2 : strOf e with
    | some b' =>
      cases d <;> first | cases z1 | skip
      cases e <;> first | cases z2 | skip
      cases (show x = _ from r1)
      cases (show y = _ from r2)
      unfold gEq eqD at q
      simp only [strOf] at q
      refine op_eq pins s σ H _ _ v u Q I rx ry ⟨rfl, ?_⟩
      have e1 : ∀ a b : Str, decide (V.str a = V.str b) = decide (a = b) := fun a b => by simp
      rw [e1]
      exact q.here sr rfl
    | none => exact or_eq1 hu pins s σ H x y v u Q I rx ry w h d e sr r1 r2 (by unfold gEq eqD at q; simp only [z1, z2] at q; exact q)
  | none => exact or_eq1 hu pins s σ H x y v u Q I rx ry w h d e sr r1 r2 (by unfold gEq eqD at q; simp only [z1] at q; exact q)
theorem or_ne1 (hu : X.A.units + 64 < cLine) (pins : List (Addr × Obj)) (s : Shared) (σ : L2.St) (H : Hp) (x y : V) (v u : Value) (Q : VK) (I : Inv X pins σ H s) (rx : RelV x v) (ry : RelV y u) (w : W) (h : Hd) (d e : D) (sr : SR X.K w H ct h) (r1 : RD X.K w H d x) (r2 : RD X.K w H e y)
    (q : okR X.K ct (rV X.K) (match (match toPyR h d, toPyR h e with
      | some a, some b => if SeqAt.shaped a = true ∧ SeqAt.shaped b = true then some (PyData.eqv a b) else none
      | _, _ => none) with
      | some b => .ok (.bl (!b)) h
      | none => .bad) w H Q) : wpAny (model X.prog X.w) X.A (compareOp .NotEq v u) (EP X pins σ Q) X.xe s := by
  cases q1 : toPyR h d with
  | none => rw [q1] at q; exact q.elim
  | some a =>
    cases q2 : toPyR h e with
    | none => rw [q1, q2] at q; exact q.elim
    | some b =>
      rw [q1, q2] at q
      simp only at q
      by_cases hs : SeqAt.shaped a = true ∧ SeqAt.shaped b = true
      · rw [if_pos hs] at q
        exact op_neD hu pins s σ H x y v u Q I rx ry ⟨a, b, dpR_of sr r1 q1, dpR_of sr r2 q2, hs.1, hs.2, q.here sr rfl⟩
      · rw [if_neg hs] at q; exact q.elim
theorem or_ne (hu : X.A.units + 64 < cLine) : OpR X (compareOp .NotEq) (r2G X.K ct gNe) := by
  intro pins s σ H x y v u Q I rx ry ⟨w, h, ds, sr, rd, q⟩
  obtain ⟨d, e, rfl, r1, r2⟩ := rd.two
  cases z1 : strOf d with
  | some a' =>
    cases z2 : strOf e with
    | some b' =>
      cases d <;> first | cases z1 | skip
      cases e <;> first | cases z2 | skip
      cases (show x = _ from r1)
      cases (show y = _ from r2)
      unfold gNe eqD at q
      simp only [strOf] at q
      refine op_ne pins s σ H _ _ v u Q I rx ry ⟨rfl, ?_⟩
      have e1 : ∀ a b : Str, decide (V.str a = V.str b) = decide (a = b) := fun a b => by simp
      rw [e1]
      exact q.here sr rfl
    | none => exact or_ne1 hu pins s σ H x y v u Q I rx ry w h d e sr r1 r2 (by unfold gNe eqD at q; simp only [z1, z2] at q; exact q)
  | none => exact or_ne1 hu pins s σ H x y v u Q I rx ry w h d e sr r1 r2 (by unfold gNe eqD at q; simp only [z1] at q; exact q)
theorem in_seq {neg : Bool} {x y : V} {H : Hp} {Q : VK} (z : r2G X.K ct (inF neg) x y H Q) : rIn X.K neg x y H Q := by
  obtain ⟨w, h, ds, sr, rd, q⟩ := z
  obtain ⟨d, e, rfl, r1, r2⟩ := rd.two
  unfold inF at q
  simp only at q
  split at q
  · rename_i xs e1
    split at q
    · rename_i hf
      have hf := Bool.and_eq_true_iff.mp hf
      obtain ⟨a, vs, rfl, ra, z⟩ := seq_arg sr r2 e1
      obtain ⟨g1, g2⟩ := anyF_V r1 hf.1 ra hf.2
      refine ⟨a, vs, rfl, z, (eqF_V r1 r1 hf.1 hf.1).1, g1, ?_⟩
      rw [g2]
      exact q.here sr rfl
    · exact q.elim
  · exact q.elim
theorem or_nin : OpR X (compareOp .NotIn) (r2G X.K ct (inF true)) := fun pins s σ H x y v u Q I rx ry z => op_notIn_seq pins s σ H x y v u Q I rx ry (in_seq z)
/-- a dict's keys, ints -/
theorem keys_ints : ∀ {kvs : List (Key × V)} {ns : List Int}, intsOf (kvs.map fun p => keyD p.1) = some ns → kvs.map (·.1) = ns.map Sum.inl
  | [], _, e => by cases e; rfl
  | (.inl i, _) :: r, ns, e => by
    have e : (intsOf (r.map fun p => keyD p.1)).map (i :: ·) = some ns := e
    cases q : intsOf (r.map fun p => keyD p.1) with
    | none => rw [q] at e; cases e
    | some ms => rw [q] at e; cases e; simp [keys_ints q]
  | (.inr i, _) :: r, ns, e => by cases e
theorem valV_some {kvs : List (Key × V)} {ns : List Int} (e : kvs.map (·.1) = ns.map Sum.inl) (i : Int) : (valV kvs (Sum.inl i : Key)).isSome = decide (i ∈ ns) := by
  rw [← valV_any]
  have : (kvs.any fun kv => decide (kv.1 = (Sum.inl i : Key))) = (kvs.map (·.1)).any fun k => decide (k = (Sum.inl i : Key)) := by rw [List.any_map]; rfl
  rw [this, e, List.any_map]
  by_cases hm : i ∈ ns
  · rw [decide_eq_true hm, List.any_eq_true]
    exact ⟨i, hm, by simp⟩
  · rw [decide_eq_false hm, List.any_eq_false]
    intro x hx
    simp
    rintro rfl
    exact hm hx
theorem ix_ok : IxR X (r2G X.K ct gIx) := by
  intro value slice pins s σ H x y v u Q I rx ry ⟨w, h, ds, sr, rd, q⟩ hs
  obtain ⟨d, e, rfl, r1, r2⟩ := rd.two
  unfold gIx at q
  split at q
  · rename_i d' i e0
    cases e0
    cases (show y = _ from r2)
    split at q
    · rename_i xs e1
      split at q
      · rename_i x' e2
        obtain ⟨a, vs, rfl, ra, z⟩ := seq_arg sr r1 e1
        obtain ⟨v', e3, r3⟩ := at_rd ra e2
        rcases z with z | z
        · exact ix_list value slice pins s σ H _ _ v u Q I rx ry ⟨a, vs, i, v', rfl, rfl, z, e3, q.here sr r3⟩ hs
        · exact ix_tup value slice pins s σ H _ _ v u Q I rx ry ⟨a, vs, i, v', rfl, rfl, z, e3, q.here sr r3⟩ hs
      · exact q.elim
    · exact q.elim
  · exact q.elim
theorem sl_ok : SlR X (rSG X.K ct gCut) := by
  intro pins s σ H x v vl vu lo hi sl Q I rx hs pl pu ⟨w, h, d, sr, rd, q⟩
  unfold gCut at q
  split at q
  · rename_i xs
    obtain ⟨a, vs, rfl, ha, ra⟩ := rd
    refine sl_tupA pins s σ H _ v vl vu lo hi sl Q I rx hs pl pu ⟨a, vs, rfl, ha, fun hw => ?_, fun _ p hp => put_tup q sr (cut_rds ra lo hi) hp⟩
    have e : cutD xs lo hi = xs := by
      unfold cutD
      rw [ra.len, hw.1, hw.2, List.drop_zero, Nat.sub_zero]
      exact List.take_of_length_le (Nat.le_of_eq ra.len)
    rw [e] at q
    exact q.here sr ⟨a, vs, rfl, ha, ra⟩
  · rename_i xs
    obtain ⟨a, vs, rfl, ha, ra⟩ := rd
    exact sl_list pins s σ H _ v vl vu lo hi sl Q I rx hs pl pu ⟨a, vs, rfl, SqL.of ha.1, fun p hp => put_lst q sr (cut_rds ra lo hi) hp⟩
  · rename_i n
    split at q
    · rename_i xs e
      obtain ⟨a, rfl, e2⟩ := rd
      obtain ⟨vs, e3, ra⟩ := sr.ob n _ a e e2
      exact sl_list pins s σ H _ v vl vu lo hi sl Q I rx hs pl pu ⟨a, vs, rfl, SqL.of e3, fun p hp => put_lst q sr (cut_rds ra lo hi) hp⟩
    · exact q.elim
  · rename_i ns
    obtain ⟨a, rfl, z⟩ := rd
    exact sl_list pins s σ H _ v vl vu lo hi sl Q I rx hs pl pu ⟨a, _, rfl, z.seq, fun p hp => put_lst q sr (cut_rds RDs.of_ints lo hi) hp⟩
  · exact q.elim
theorem putK_map : ∀ {kvs : List (Key × V)} {ns : List Int} (i : Int) (y : V), kvs.map (·.1) = ns.map (Sum.inl : Int → Key) → ns.Nodup →
    (kvs.map fun kv => if kv.1 = (Sum.inl i : Key) then (kv.1, y) else kv).map (·.1) = ns.map (Sum.inl : Int → Key) ∧ (kvs.map fun kv => if kv.1 = (Sum.inl i : Key) then (kv.1, y) else kv).map (·.2) = (kvs.map (·.2)).set (ns.idxOf i) y
  | [], [], i, y, _, _ => ⟨rfl, rfl⟩
  | [], n :: ns, i, y, e, _ => by simp at e
  | kv :: kvs, [], i, y, e, _ => by simp at e
  | (k, x) :: kvs, n :: ns, i, y, e, nd => by
    simp only [List.map_cons, List.cons.injEq] at e
    obtain ⟨e1, e2⟩ := e
    obtain ⟨nd1, nd2⟩ := List.nodup_cons.mp nd
    obtain ⟨h1, h2⟩ := putK_map i y e2 nd2
    simp only [List.map_cons]
    by_cases hi : n = i
    · subst hi
      rw [if_pos e1]
      refine ⟨by rw [h1, e1], ?_⟩
      rw [List.idxOf_cons_self, List.set_cons_zero, h2]
      have : ns.idxOf n = (kvs.map (·.2)).length := by
        rw [List.idxOf_eq_length nd1]
        have := congrArg List.length e2
        simp at this
        simp [this]
      rw [this, List.set_eq_of_length_le (Nat.le_refl _)]
    · have ne : ¬ k = (Sum.inl i : Key) := fun z => hi (by rw [e1] at z; exact Sum.inl.inj z)
      rw [if_neg ne]
      refine ⟨by rw [h1, e1], ?_⟩
      rw [show (n :: ns).idxOf i = ns.idxOf i + 1 by rw [List.idxOf_cons, beq_eq_false_iff_ne.mpr hi]; rfl, List.set_cons_succ, h2]
theorem putK_at {kvs : List (Key × V)} {ns : List Int} (i : Int) (y : V) (e : kvs.map (·.1) = ns.map (Sum.inl : Int → Key)) (nd : ns.Nodup) (hi : i ∈ ns) :
    (putK kvs (Sum.inl i : Key) y).map (·.1) = ns.map (Sum.inl : Int → Key) ∧ (putK kvs (Sum.inl i : Key) y).map (·.2) = (kvs.map (·.2)).set (ns.idxOf i) y := by
  unfold putK
  rw [valV_any, valV_some e, decide_eq_true hi, if_pos rfl]
  exact putK_map i y e nd
end
end BR

namespace BR
open PySem PySem.Spec PyProof.Rows L2
/-- a method of a list -/
def eMtL (g : EF) (o : EE) (a : EA) : EE := fun σ h => (o σ h).bind fun x h1 => if (lstOf h1 x).isSome = true then (a σ h1).bind fun ds h2 => g (x :: ds) h2 else .bad
def gIadd : EF := fun ds h => match ds with
  | [.int i, .int j] => .ok (.int (i + j)) h
  | _ => .bad
def gIsub : EF := fun ds h => match ds with
  | [.int i, .int j] => .ok (.int (i - j)) h
  | _ => .bad
section
variable {K : PySem.W.Frag} {ct : CT} {w : W} {H : Hp} {h : Hd} {Q : VK}
theorem put_md {a : Nat} {p : Addr} {ks vs : List D} {kvs : List (Key × V)} {d : D} {v : V} (q : okR K ct (rV K) (.ok d (h.set a (.dct ks vs))) w H Q) (sr : SR K w H ct h) (hp : w.io[a]? = some p) (so : Soft h a) (ek : ks = kvs.map fun p => keyD p.1)
    (r : RDs K w H vs (kvs.map (·.2))) (rd : RD K w H d v) : Q v (upd H p (.dK kvs)) :=
  q w _ _ (.mut sr hp so) (sr.mut hp so ⟨kvs, upd_same, ek, (Step.mut sr hp so).rds r⟩) ((Step.mut sr hp so).rd _ _ rd)
end
theorem key_ints : ∀ (kvs : List (Key × V)) (ns : List Int), kvs.map (·.1) = ns.map (Sum.inl : Int → Key) → (kvs.map fun p => keyD p.1) = ns.map D.int := fun kvs ns e => by
  have : (kvs.map fun p => keyD p.1) = (kvs.map (·.1)).map keyD := by rw [List.map_map]; rfl
  rw [this, e, List.map_map]
  rfl
section
variable {ct : CT} {X : Cx}
theorem set_ok (hu : X.A.units + 1 < cLine) : PSet X (rSet X.K ct gSet) := by
  intro pins s σ H o i v ov iv u Q I ro ri rv ⟨w, h, ds, sr, rd, q⟩
  unfold gSet at q
  split at q
  · rename_i a k x
    obtain ⟨_, _, e, ⟨p, e1, hp⟩, _, _, e2, rk, _, _, e3, rx, e4⟩ := rd
    cases e; cases e2; cases e3
    subst e1
    cases (show i = _ from rk)
    split at q
    · rename_i xs e
      split at q
      · rename_i j ej
        obtain ⟨vs, h1, ra⟩ := sr.ob a _ p e hp
        exact set_list pins s σ H _ _ v ov iv u Q I ro ri rv ⟨p, vs, k, j, rfl, rfl, h1, by rw [← ra.len]; exact ej, put_mut (v := V.non) (Q := fun _ H' => Q H') q sr hp ⟨_, e, (fun _ z => nomatch z), (fun _ z => nomatch z), fun _ _ z => nomatch z⟩ (ra.set rx j) rfl⟩
      · exact q.elim
    · rename_i ks vs e
      split at q
      · rename_i ns en
        split at q
        · rename_i hl
          obtain ⟨kvs, h1, hk, ra⟩ := sr.ob a _ p e hp
          have hn : kvs.map (·.1) = ns.map (Sum.inl : Int → Key) := keys_ints (by rw [← hk]; exact en)
          have hlen : kvs.length = ns.length := by have := congrArg List.length hn; simpa using this
          refine set_dict hu pins s σ H _ _ v ov iv u Q I ro ri rv ⟨p, _, rfl, DPut.k (k := Sum.inl k) h1 (Nat.lt_of_lt_of_le (by rw [hlen]; exact hl) (LIM_line (Nat.le_refl _))), ?_⟩
          split at q
          · rename_i hm
            split at q
            · rename_i nd
              obtain ⟨f1, f2⟩ := putK_at (i := k) v hn nd hm
              refine put_md (v := V.non) (d := .non) (Q := fun _ H' => Q H') q sr hp ⟨_, e, (fun _ z => nomatch z), (fun _ z => nomatch z), fun _ _ z => nomatch z⟩ ?_ ?_ rfl
              · rw [key_ints _ _ f1, hk, key_ints _ _ hn]
              · rw [f2]; exact ra.set rx _
            · exact q.elim
          · rename_i hm
            have hv : valV kvs (Sum.inl k : Key) = none := by
              have := valV_some hn k
              rw [decide_eq_false hm] at this
              cases z : valV kvs (Sum.inl k : Key) with
              | none => rfl
              | some _ => rw [z] at this; cases this
            refine put_md (v := V.non) (d := .non) (Q := fun _ H' => Q H') q sr hp ⟨_, e, (fun _ z => nomatch z), (fun _ z => nomatch z), fun _ _ z => nomatch z⟩ ?_ ?_ rfl
            · rw [putK_new _ hv, List.map_append, hk]; rfl
            · rw [putK_new _ hv, List.map_append]; exact ra.append (.cons rx .nil)
        · exact q.elim
      · exact q.elim
    · exact q.elim
  · exact q.elim
end
end BR

namespace BR
open PySem PySem.Spec PyProof.Rows L2
section
variable {ct : CT} {X : Cx} {e a b o : Expr} {es : List Expr} {fe fa fb fo : EE} {ha : EA} {pos : Pos}
end
end BR

namespace RZ2
open PySem
open PySem.Sem (wp)
def IsSq (t : Bool) (h : Heap) (l : Addr) (items : Array Value) : Prop := match t with
  | true => h.IsTuple l items
  | false => h.IsList l items
def IsSqIt (t : Bool) (h : Heap) (it l : Addr) (i : Nat) : Prop := match t with
  | true => h.IsTupleIter it l i
  | false => h.IsListIter it l i
theorem IsSqIt.at {t : Bool} {h h' : Heap} {it l : Addr} {i : Nat} (x : IsSqIt t h it l i) (k : ∀ o, h.get? it = some o → h'.get? it = some o) : IsSqIt t h' it l i := by
  cases t with
  | true => exact Heap.IsTupleIter.at x k
  | false => exact Heap.IsListIter.at x k
theorem IsSqIt.ob {t : Bool} {h : Heap} {it l : Addr} {i : Nat} (x : IsSqIt t h it l i) : ∃ o, h.get? it = some o ∧ ∀ v, o.data ≠ .cell v := by
  cases t with
  | true => obtain ⟨o, e, _, d⟩ := x; exact ⟨o, e, fun v q => by rw [d] at q; cases q⟩
  | false => obtain ⟨o, e, _, d⟩ := x; exact ⟨o, e, fun v q => by rw [d] at q; cases q⟩
section
variable {prog : Program} {w : World} {A : Around} {E : Value → Shared → Prop} {s : Shared}
variable {t1 t2 : Bool} {z TI TO i1 i2 l1 l2 : Addr} {k1 k2 : Nat} {xs ys : Array Value} {x y a b : Value}
end
theorem IsSq.push {t : Bool} {h : Heap} {l : Addr} {items : Array Value} (x : IsSq t h l items) (o : Obj) : IsSq t (h.push o) l items := by
  cases t with
  | true => exact Heap.IsTuple.push x o
  | false => exact Heap.IsList.push x o
section
variable {prog : Program} {w : World} {A : Around} {E : Value → Shared → Prop} {s : Shared}
end
end RZ2
namespace BR
open PySem PySem.Spec PyProof.Rows L2 RZ2
def SqK (t : Bool) (K : PySem.W.Frag) (H : Hp) (a : Addr) (xs : List V) : Prop := match t with
  | true => SqT K H a xs
  | false => SqL K H a xs
theorem SqK.at {X : Cx} {pins : List (Addr × Obj)} {σ : L2.St} {H : Hp} {s : Shared} {t : Bool} {a : Addr} {xs : List V} (I : Inv X pins σ H s) (h : SqK t X.K H a xs) : ∃ its : List Value, Vals xs its ∧ IsSq t s.heap a its.toArray := by
  cases t with
  | true => obtain ⟨its, r, p, _⟩ := I.tuple h; exact ⟨its, r, p⟩
  | false => obtain ⟨its, r, p, _⟩ := I.list h; exact ⟨its, r, p.isList⟩
theorem SqK.inj {X : Cx} {pins : List (Addr × Obj)} {σ : L2.St} {H : Hp} {s : Shared} {t : Bool} {a : Addr} {xs ys : List V} (I : Inv X pins σ H s) (h : SqK t X.K H a xs) (h' : SqK t X.K H a ys) : xs = ys := by
  cases t with
  | true => exact I.tuple_inj h h'
  | false => exact I.list_inj h h'
theorem IsSq.lt {t : Bool} {h : Heap} {l : Addr} {items : Array Value} (x : IsSq t h l items) : l < h.objs.size := by
  cases t with
  | true => obtain ⟨o, e, _⟩ := x; exact Heap.lt_size e
  | false => obtain ⟨o, e, _⟩ := x; exact Heap.lt_size e
def zipD : List D → List D → List D
  | x :: xs, y :: ys => .tup [x, y] :: zipD xs ys
  | _, _ => []
theorem zipD_get : ∀ {xs ys : List D} {i : Nat} {x y : D}, xs[i]? = some x → ys[i]? = some y → (zipD xs ys)[i]? = some (.tup [x, y])
  | [], _, _, _, _, e, _ => by simp at e
  | x :: xs, [], _, _, _, _, e => by simp at e
  | x :: xs, y :: ys, 0, _, _, e1, e2 => by simp at e1 e2; subst e1; subst e2; rfl
  | x :: xs, y :: ys, i + 1, a, b, e1, e2 => by
    simp only [zipD, List.getElem?_cons_succ]
    exact zipD_get (by simpa using e1) (by simpa using e2)
def iZip (a : EA) : EI := fun σ h => (a σ h).bind fun ds h1 => match ds with
  | [d, e] => match seqOf h1 d, seqOf h1 e with
    | some xs, some ys => if xs.length = ys.length then .ok ⟨zipD xs ys, chkOf h1 d ++ chkOf h1 e⟩ h1 else .bad
    | _, _ => .bad
  | _ => .bad
theorem holdsK {K : PySem.W.Frag} {ct : CT} {w : W} {H : Hp} {h : Hd} {d : D} {v : V} {xs : List D} (sr : SR K w H ct h) (rd : RD K w H d v) (e : seqOf h d = some xs) : ∃ a vs, v = .ref a ∧ RDs K w H xs vs ∧ SqK (isTup d) K H a vs := by
  obtain ⟨a, vs, e1, r, z⟩ := holds_of sr rd e
  refine ⟨a, vs, e1, r, ?_⟩
  rcases z with ⟨e2, z⟩ | ⟨e2, z⟩ <;> (rw [e2]; exact z)
theorem okChk_app {a b : List (Nat × List D)} {h : Hd} (c : okChk (a ++ b) h) : okChk a h ∧ okChk b h := ⟨fun p hp => c p (List.mem_append_left _ hp), fun p hp => c p (List.mem_append_right _ hp)⟩
section
variable {ct : CT} {X : Cx} {e e2 : Expr} {ha : EA}
end
end BR

namespace BR
open PySem PySem.Spec PyProof.Rows L2 RZ2
def tplOf (h : Hd) : D → Option (List D)
  | .ref a => match h[a]? with
    | some (.tpl xs) => some xs
    | _ => none
  | _ => none
def eMtX (g : EF) (o : EE) (a : EA) : EE := fun σ h => (o σ h).bind fun x h1 => if (tplOf h1 x).isSome = true then (a σ h1).bind fun ds h2 => g (x :: ds) h2 else .bad
section
variable {ct : CT} {X : Cx} {e o : Expr} {es : List Expr} {fo : EE} {ha : EA} {pos : Pos}
end
section
variable {prog : Program} {w : World} {A : Around} {E : Value → Shared → Prop} {s : Shared}
end
section
variable {ct : CT} {X : Cx}
end
end BR

namespace BR
open PySem PySem.Spec PyProof.Rows L2
section
variable {ct : CT} {X : Cx}
end
def isNon : D → Bool
  | .non => true
  | _ => false
def gIsN : EF := fun ds h => match ds with
  | [d] => .ok (.bl (isNon d)) h
  | _ => .bad
def gNotN : EF := fun ds h => match ds with
  | [d] => .ok (.bl (!isNon d)) h
  | _ => .bad
theorem isNon_of {K : PySem.W.Frag} {w : W} {H : Hp} {d : D} {v : V} (r : RD K w H d v) : decide (v = .non) = isNon d := by
  cases d with
  | non => cases (show v = _ from r); rfl
  | bl _ => cases (show v = _ from r); rfl
  | int _ => cases (show v = _ from r); rfl
  | str _ => cases (show v = _ from r); rfl
  | tup _ => obtain ⟨a, vs, rfl, _⟩ := r; rfl
  | lst _ => obtain ⟨a, vs, rfl, _⟩ := r; rfl
  | dct _ _ => obtain ⟨a, rfl, _⟩ := r; rfl
  | dcT _ _ => obtain ⟨a, rfl, _⟩ := r; rfl
  | ref _ => obtain ⟨a, rfl, _⟩ := r; rfl
  | scr _ => obtain ⟨a, rfl, _⟩ := r; rfl
section
variable {ct : CT} {X : Cx} {a : Expr} {fa : EE} {pos p2 : Pos} {j : Nat}
theorem tIsN_of {σ : L2.St} {H : Hp} {Q : VK} (q : tE X.K ct (eAp1 gIsN fa) σ H Q) : tIsN (tE X.K ct fa) σ H Q := by
  obtain ⟨w, h, σd, sr, rs, q⟩ := q
  rw [eAp1_eq] at q
  refine ⟨w, h, σd, sr, rs, (okR.bind (rel := rV X.K) q).imp fun x H1 ⟨w1, h1, d, st1, sr1, r1, q1⟩ => ?_⟩
  rw [isNon_of r1]
  exact q1.here sr1 rfl
theorem se_isN (h : SE ct X a fa) : SE ct X (.Compare a [.Is] [.Constant .none j p2] pos) (eAp1 gIsN fa) := pe_imp (pe_cmp (pc_isN h) rfl) fun _ _ _ q => tIsN_of q
theorem st_isN (h : SE ct X a fa) : ST ct X (.Compare a [.Is] [.Constant .none j p2] pos) (tB (eAp1 gIsN fa)) := pt_imp (pt_cmp (pc_isN h) rfl) fun _ _ _ q => tTest_of (fun _ _ _ z => tIsN_of z) q
end
section
variable {ct : CT} {X : Cx}
end
theorem zipD_min : ∀ (xs ys : List D), (zipD xs ys).length = min xs.length ys.length
  | [], _ => by simp [zipD]
  | x :: xs, [] => by simp [zipD]
  | x :: xs, y :: ys => by simp [zipD, zipD_min xs ys]
def iZipN (a : EA) : EI := fun σ h => (a σ h).bind fun ds h1 => match ds with
  | [d, e] => match seqOf h1 d, seqOf h1 e with
    | some xs, some ys => if isTup d = isTup e then .ok ⟨zipD xs ys, chkOf h1 d ++ chkOf h1 e⟩ h1 else .bad
    | _, _ => .bad
  | _ => .bad
section
variable {ct : CT} {X : Cx} {e e2 : Expr} {ha : EA}
theorem si_zipN {p pos tpos : Pos} {elts : List Expr} {kk : Nat} (hg : Gl X "zip") (hm : X.mg "zip" = none) (h1 : SA ct X [e, e2] ha)
    (hs : starEach [e, e2] X.env = (false, eval e X.env) :: starEach [e2] X.env := by rfl) (hpl : (backTo pos (starEach [e2] X.env)).any (·.1) = false := by rfl) :
    SI ct X (.Tuple elts kk tpos) (.Call (.Name "zip" p) [e, e2] [] pos) (iZipN ha) := pi_imp (RZ.pi_zipA hg hm h1 hs hpl) fun σ H R ⟨w, h, σd, sr, rs, q⟩ => by
  refine ⟨w, h, σd, sr, rs, (okR.bind (rel := rVs X.K) q).imp fun vs H1 ⟨w1, h1, ds, st1, sr1, r1, q1⟩ => ?_⟩
  split at q1
  · rename_i d d2
    obtain ⟨v, _, rfl, hv, v2, _, rfl, hv2, hr⟩ := r1
    cases (show _ = [] from hr)
    split at q1
    · rename_i xs ys ex ey
      split at q1
      · rename_i hl
        obtain ⟨a, us, e1, ra, za⟩ := holdsK sr1 hv ex
        obtain ⟨b, us2, e2, rb, zb⟩ := holdsK sr1 hv2 ey
        subst e1; subst e2
        have zs : ∀ i, i < (zipD xs ys).length → i < xs.length ∧ i < ys.length := fun i hi => by rw [zipD_min] at hi; omega
        have gg : ∀ (J : L2.It), ((∀ (H : Hp) (i : Nat), J.stop i H ↔ ∃ xs ys : List V, SqK (isTup d) X.K H a xs ∧ SqK (isTup d) X.K H b ys ∧ (xs.length ≤ i ∨ ys.length ≤ i)) ∧
            (∀ (H : Hp) (i : Nat), J.go i H ↔ ∃ (xs ys : List V) (x y : V), SqK (isTup d) X.K H a xs ∧ SqK (isTup d) X.K H b ys ∧ xs[i]? = some x ∧ ys[i]? = some y) ∧
            (∀ (H : Hp) (i : Nat) v H', J.yld i H v H' ↔ ∃ T x y, v = .ref T ∧ H T = none ∧ H' = upd H T (.tup [x, y]) ∧ (∀ xs, SqK (isTup d) X.K H a xs → xs[i]? = some x) ∧ ∀ ys, SqK (isTup d) X.K H b ys → ys[i]? = some y)) →
            Goes X.K ct ⟨zipD xs ys, chkOf h1 d ++ chkOf h1 d2⟩ J w1 H1 := by
          rintro J ⟨j1, j2, j3⟩
          refine ⟨fun w H => RD X.K w H d (.ref a) ∧ RD X.K w H d2 (.ref b), ⟨hv, hv2⟩, fun w1 H1 w2 H2 g m => ⟨m.2 _ _ g.1, m.2 _ _ g.2⟩, fun w2 H2 h2 g sr2 ck => ?_⟩
          obtain ⟨c1, c2⟩ := okChk_app ck
          obtain ⟨a', zs1, ea, rr, z⟩ := holdsK sr2 g.1 (seqOf_chk ex c1)
          cases ea
          obtain ⟨b', zs2, eb, rr2, z2⟩ := holdsK sr2 g.2 (seqOf_chk ey c2)
          cases eb
          rw [← hl] at z2
          have l1 := rr.len
          have l2 := rr2.len
          refine ⟨(j1 _ _).mpr ⟨zs1, zs2, z, z2, by show _ ≤ (zipD xs ys).length ∨ _ ≤ (zipD xs ys).length; rw [zipD_min]; omega⟩, fun i hi => ?_⟩
          obtain ⟨i1, i2⟩ := zs i hi
          refine ⟨(j2 _ _).mpr ⟨zs1, zs2, zs1[i]'(by omega), zs2[i]'(by omega), z, z2, by simp [show i < zs1.length by omega], by simp [show i < zs2.length by omega]⟩, fun x H3 y => ?_⟩
          obtain ⟨T, x1, x2, e1, e2, e3, f1, f2⟩ := (j3 _ _ _ _).mp y
          subst e1; subst e3
          refine ⟨.alloc sr2 e2, sr2.alloc e2, _, zipD_get (x := xs[i]) (y := ys[i]'(by omega)) (by simp [i1]) (by simp [i2]), T, _, rfl, SqT.of upd_same, ?_⟩
          obtain ⟨v1, q1, q2⟩ := rr.get (i := i) (d := xs[i]) (by simp [i1])
          rw [f1 zs1 z] at q1; cases q1
          obtain ⟨v2, q3, q4⟩ := rr2.get (i := i) (d := ys[i]'(by omega)) (by simp [i2])
          rw [f2 zs2 z2] at q3; cases q3
          exact .cons ((Step.alloc sr2 e2).rd _ _ q2) (.cons ((Step.alloc sr2 e2).rd _ _ q4) .nil)
        rw [← hl] at zb
        cases ht : isTup d with
        | true =>
          rw [ht] at za zb gg
          exact ⟨a, b, us, us2, rfl, .inr ⟨za, zb, okR.here (K := X.K) (ct := ct) (rel := fun w H I J => Goes X.K ct I J w H) (b := RZ.ItzT X.K a b) q1 sr1 (gg _ ⟨fun _ _ => .rfl, fun _ _ => .rfl, fun _ _ _ _ => .rfl⟩)⟩⟩
        | false =>
          rw [ht] at za zb gg
          exact ⟨a, b, us, us2, rfl, .inl ⟨za, zb, okR.here (K := X.K) (ct := ct) (rel := fun w H I J => Goes X.K ct I J w H) (b := L2.Itz X.K a b) q1 sr1 (gg _ ⟨fun _ _ => .rfl, fun _ _ => .rfl, fun _ _ _ _ => .rfl⟩)⟩⟩
      · exact q1.elim
    · exact q1.elim
  · exact q1.elim
end
section
variable {ct : CT} {X : Cx}
end
end BR

namespace BR
open PySem PySem.Spec PyProof.Rows L2
/-- the built-in names that no module shadows -/
structure Bl (mg : Str → Option Value) : Prop where
  len : mg "len" = none
  isinstance : mg "isinstance" = none
  all : mg "all" = none
  any : mg "any" = none
  sum : mg "sum" = none
  min : mg "min" = none
  max : mg "max" = none
  tuple : mg "tuple" = none
  list : mg "list" = none
  int : mg "int" = none
  bool : mg "bool" = none
  str : mg "str" = none
  range : mg "range" = none
  enumerate : mg "enumerate" = none
  zip : mg "zip" = none
  sorted : mg "sorted" = none
  abs : mg "abs" = none
  repr : mg "repr" = none
/-- name = a, name = b at once, stored from the right -/
def sPar2 (i j : Nat) (a : EA) : SS := fun σ h => (a σ h).bind fun ds h1 => match ds with
  | [d, e] => .ok (.nx ((σ.set i (some d)).set j (some e))) h1
  | _ => .bad
def sPar3 (i j l : Nat) (a : EA) : SS := fun σ h => (a σ h).bind fun ds h1 => match ds with
  | [d, e, f] => .ok (.nx (((σ.set i (some d)).set j (some e)).set l (some f))) h1
  | _ => .bad
/-- displays -/
def eTup (a : EA) : EE := eAp (fun ds h => if ds.length ≤ LIM then .ok (.tup ds) h else .bad) a
def eLst (a : EA) : EE := eAp (fun ds h => if ds.length ≤ LIM then .ok (.lst ds) h else .bad) a
def eLstR (a : EA) : EE := eAp (fun ds h => if ds.length ≤ LIM then .ok (.ref h.length) (h ++ [.lst ds]) else .bad) a
section
variable {ct : CT} {X : Cx} {e e2 a tg : Expr} {es : List Expr} {fe fa : EE} {ha : EA} {p pos p1 p2 tpos : Pos} {kk : Nat} {elts : List Expr}
theorem sd_tup {x1 : Nat} (h : SA ct X es ha) : SE ct X (.Tuple es x1 pos) (eTup ha) := se_tup h
theorem sd_lst (h : SA ct X es ha) : SE ct X (.List es pos) (eLst ha) := se_lst h
theorem sd_lstR (h : SA ct X es ha) : SE ct X (.List es pos) (eLstR ha) := se_lstR h
theorem sb_len (b : Bl X.mg) (h : SA ct X [e] ha) (hg : Gl X "len" := by rfl) (he : starEach (e :: []) X.env = (false, eval e X.env) :: starEach [] X.env := by rfl) : SE ct X (.Call (.Name "len" p) [e] [] pos) (eAp gLen ha) := se_cb (pe_callB cr_len hg b.len boot_len h (he := he))
theorem sb_listR (b : Bl X.mg) (h : SA ct X [e] ha) (hg : Gl X "list" := by rfl) (he : starEach (e :: []) X.env = (false, eval e X.env) :: starEach [] X.env := by rfl) : SE ct X (.Call (.Name "list" p) [e] [] pos) (eAp gListR ha) := se_cb (pe_callTy cr_listR hg b.list boot_list h (he := he))
theorem pe_tyv {x : Str} {T : String} (hm : X.mg x = none) (hv : bootBuiltins x = some (.type T)) (hg : Gl X x := by rfl) (hn : x ≠ "__name__" := by decide) (hd : (x == ("__debug__" : Str)) = false := by decide) : PE X (.Name x pos) (tC (.ty T)) := pe_bltn hg hm hv rfl hn hd
theorem boot_bool' : bootBuiltins "bool" = some (.type "bool") := by decide +kernel
theorem boot_str' : bootBuiltins "str" = some (.type "str") := by decide +kernel
theorem ty_int (b : Bl X.mg) (hg : Gl X "int" := by rfl) : PE X (.Name "int" pos) (tC (.ty "int")) := pe_tyv b.int boot_int hg
theorem ty_bool (b : Bl X.mg) (hg : Gl X "bool" := by rfl) : PE X (.Name "bool" pos) (tC (.ty "bool")) := pe_tyv b.bool boot_bool' hg
theorem ty_str (b : Bl X.mg) (hg : Gl X "str" := by rfl) : PE X (.Name "str" pos) (tC (.ty "str")) := pe_tyv b.str boot_str' hg
theorem ty_tuple (b : Bl X.mg) (hg : Gl X "tuple" := by rfl) : PE X (.Name "tuple" pos) (tC (.ty "tuple")) := pe_tyv b.tuple boot_tuple hg
theorem ty_list (b : Bl X.mg) (hg : Gl X "list" := by rfl) : PE X (.Name "list" pos) (tC (.ty "list")) := pe_tyv b.list boot_list hg
theorem sb_is1 {c : Expr} {T : String} (hT : T ∈ ["int", "bool", "str", "tuple", "list"]) (b : Bl X.mg) (h1 : SE ct X e fe) (h2 : PE X c (tC (.ty T))) (hg : Gl X "isinstance" := by rfl)
    (s1 : starEach [e, c] X.env = (false, eval e X.env) :: starEach [c] X.env := by rfl) (s2 : starEach [c] X.env = (false, eval c X.env) :: starEach [] X.env := by rfl) (hpl : (backTo pos (starEach [c] X.env)).any (·.1) = false := by rfl) :
    SE ct X (.Call (.Name "isinstance" p) [e, c] [] pos) (eIs [T] fe) := se_is1 hT (pe_callB call_isi hg b.isinstance boot_isinstance (pa_cons h1 (pa_cons h2 pa_nil s2) s1) (he := s1) (hpl := hpl))
theorem sb_is2 {c1 c2 : Expr} {T U : String} {tp : Pos} (hT : T ∈ ["int", "bool", "str", "tuple", "list"]) (hU : U ∈ ["int", "bool", "str", "tuple", "list"]) (b : Bl X.mg) (h1 : SE ct X e fe) (h2 : PE X c1 (tC (.ty T))) (h3 : PE X c2 (tC (.ty U))) (hg : Gl X "isinstance" := by rfl)
    (s1 : starEach [e, .Tuple [c1, c2] kk tp] X.env = (false, eval e X.env) :: starEach [.Tuple [c1, c2] kk tp] X.env := by rfl) (s2 : starEach [.Tuple [c1, c2] kk tp] X.env = (false, eval (.Tuple [c1, c2] kk tp) X.env) :: starEach [] X.env := by rfl)
    (s3 : starEach [c1, c2] X.env = (false, eval c1 X.env) :: starEach [c2] X.env := by rfl) (s4 : starEach [c2] X.env = (false, eval c2 X.env) :: starEach [] X.env := by rfl)
    (hpl : (backTo pos (starEach [.Tuple [c1, c2] kk tp] X.env)).any (·.1) = false := by rfl) :
    SE ct X (.Call (.Name "isinstance" p) [e, .Tuple [c1, c2] kk tp] [] pos) (eIs [T, U] fe) :=
  se_is2 hT hU (pe_callB call_isiT hg b.isinstance boot_isinstance (pa_cons h1 (pa_cons (pe_tup (pa_cons h2 (pa_cons h3 pa_nil s4) s3)) pa_nil s2) s1) (he := s1) (hpl := hpl))
theorem sb_rg1 (b : Bl X.mg) (h1 : SA ct X [a] ha) (hg : Gl X "range" := by rfl) (hs : starEach [a] X.env = [(false, eval a X.env)] := by rfl) : SI ct X tg (.Call (.Name "range" p) [a] [] pos) (iRg1 ha) := si_rg1 hg b.range h1 hs
theorem sb_en (b : Bl X.mg) (h1 : SA ct X [e] ha) (hg : Gl X "enumerate" := by rfl) (hs : starEach [e] X.env = [(false, eval e X.env)] := by rfl) : SI ct X (.Tuple elts kk tpos) (.Call (.Name "enumerate" p) [e] [] pos) (iEn ha) := si_enum hg b.enumerate h1 hs
theorem sb_zipN (b : Bl X.mg) (h1 : SA ct X [e, e2] ha) (hg : Gl X "zip" := by rfl) (hs : starEach [e, e2] X.env = (false, eval e X.env) :: starEach [e2] X.env := by rfl) (hpl : (backTo pos (starEach [e2] X.env)).any (·.1) = false := by rfl) :
    SI ct X (.Tuple elts kk tpos) (.Call (.Name "zip" p) [e, e2] [] pos) (iZipN ha) := si_zipN hg b.zip h1 hs hpl
/-- comprehensions -/
theorem sl_lc1 {rf : Bool} {elt iter : Expr} {ifs : List Expr} {scope sc : Scope} {own : List (Str × Nat)} {vs : List Nat} {N : List Str} {it : EI} {gt : EG} {c : ET} (nd : N.Nodup) (hN : X.N = N) (hsc : X.env.scope = sc) (hb : blkC N sc scope own = true) (hv : own.map (·.2) = vs) (hi : SI ct X tg iter it)
    (hg : ∀ (s : Shared) (H : Hp) (C : Addr) (cl : List (Str × Addr)) (fp : List Addr), SGw ct (X.blk s H scope (compEnvC scope cl C X.env) fp) vs tg gt)
    (ht : ∀ (s : Shared) (H : Hp) (C : Addr) (cl : List (Str × Addr)) (fp : List Addr), STs ct (X.blk s H scope (compEnvC scope cl C X.env) fp) ifs c)
    (he : ∀ (s : Shared) (H : Hp) (C : Addr) (cl : List (Str × Addr)) (fp : List Addr), SE ct (X.blk s H scope (compEnvC scope cl C X.env) fp) elt fe) (hc : X.calm = true := by rfl) (hs : ∀ x, foldedSetIterable iter X.env x = pure x := by intro _; rfl) :
    SE ct X (.ListComp elt [⟨tg, iter, ifs, 0⟩] scope pos) (eLc rf vs it gt c (lcOne fe)) := by
  subst hv; subst hN; subst hsc
  exact se_lc1 (pe_lc hc nd hi (blkOk_by hb) hg ht he hs)
theorem sx_par2 {i j : Nat} {x y : Str} {a b : Expr} {px py pt pt2 : Pos} {kt k2 : Nat} (nd : X.N.Nodup) (h : SA ct X [a, b] ha) (hi : X.N[i]? = some x := by rfl) (hj : X.N[j]? = some y := by rfl) (hij : i ≠ j := by decide)
    (hx : X.env.scope.names.lookup x = some .local := by rfl) (hy : X.env.scope.names.lookup y = some .local := by rfl)
    (hw : swappedStores [.Tuple [.Name x px, .Name y py] kt pt] (.Tuple [a, b] k2 pt2) X.env = pure (some [x, y]) := by rfl)
    (hc : X.calm = true := by rfl) (hs : swapsWithSole [.Tuple [.Name x px, .Name y py] kt pt] (.Tuple [a, b] k2 pt2) pos.line X.env = pure false := by rfl) :
    SX ct X (.Assign [.Tuple [.Name x px, .Name y py] kt pt] (.Tuple [a, b] k2 pt2) pos) (sPar2 i j ha) := ps_imp (ps_par hc nd hi hj hij hx hy h hw hs) fun E σ H q => by
  obtain ⟨w, h, σd, sr, rs, q⟩ := tS_bind (rel := rVs X.K) q
  refine ⟨w, h, σd, sr, rs, q.imp fun vs H1 ⟨w1, h1, ds, sr1, rs1, r1, q1⟩ => ?_⟩
  split at q1
  · rename_i d e
    obtain ⟨v1, _, rfl, e1, v2, _, rfl, e2, hr⟩ := r1
    cases (show _ = [] from hr)
    exact ⟨v1, v2, rfl, okR.here (b := FlV.nx _) q1 sr1 ((rs1.set e1 i).set e2 j)⟩
  · exact q1.elim
end
/-- a def that stands under its name -/
structure Df (K : PySem.W.Frag) (mg : Str → Option Value) (x : Str) (ps : List Str) (st : Stmt) : Prop where
  ex : ∃ (f : Addr) (fd : FuncData), Fun K x x st f fd ∧ mg x = some (.ref f) ∧ PySem.W.keepIn K (.ref f) = true ∧ Binds K fd ps [] ∧ ∀ us : List Value, us.length = ps.length → bindArgs fd ⟨us, []⟩ = pure (ps.zip us)
section
variable {P : Program} {wd : World} {K : PySem.W.Frag} {mg : Str → Option Value} {base : Heap} {ct : CT}
theorem kn_mk {x : Str} {st : Stmt} {N ps : List Str} {k n m : Nat} {body : SS} (D : Df K mg x ps st) (S : FnScope N ps (defScope st)) (hn : ps.length = n) (hm : N.length = m)
    (hb : ∀ (f : Addr) (cdv : Value) (A : Around) (outer : List Env) (s : Shared) (H : Hp) (E : XK), Rm k (A.deeper (envOfC x (defScope st) s.heap.objs.size f cdv)) →
      SXs ct (cxOf CX0 P wd K mg base N x (defScope st) f cdv A outer s H E).nox (defBody st) body) : Kn P wd K mg base ct (k + 1) x n (fn n m body) := by
  obtain ⟨f, fd, F, h1, h2, b, _⟩ := D.ex
  exact ⟨⟨f, fd, ps, ok_fn F S hn hm (hb f), h1, h2, b⟩⟩
theorem kn_mkK {x : Str} {st : Stmt} {N ps : List Str} {k n m : Nat} {body : SS} (D : Df K mg x ps st) (S : FnScope N ps (defScope st)) (hn : ps.length = n) (hm : N.length = m)
    (hb : ∀ (f : Addr) (cdv : Value) (A : Around) (outer : List Env) (s : Shared) (H : Hp) (E : XK), Rm k (A.deeper (envOfC x (defScope st) s.heap.objs.size f cdv)) →
      SXs ct (cxOf CX0 P wd K mg base N x (defScope st) f cdv A outer s H E).nox (defBody st) body) : Kn P wd K mg base ct (k + 1) x n (fnK n m body) := by
  obtain ⟨f, fd, F, h1, h2, b, _⟩ := D.ex
  exact ⟨⟨f, fd, ps, ok_fnK F S hn hm (hb f), h1, h2, b⟩⟩
theorem Kn.mono {x : Str} {j k n : Nat} {g : EF} (c : Kn P wd K mg base ct j x n g) (h : j ≤ k) : Kn P wd K mg base ct k x n g := by
  obtain ⟨f, fd, ps, F, h1, h2, b⟩ := c.ex
  exact ⟨⟨f, fd, ps, F.mono h, h1, h2, b⟩⟩
/-- a def that is never run -/
theorem kn_zero {x : Str} {ps : List Str} {st : Stmt} {k n : Nat} (D : Df K mg x ps st) : Kn P wd K mg base ct k x n fun _ _ => .bad := by
  obtain ⟨f, fd, F, h1, h2, b, _⟩ := D.ex
  have no : ∀ {vs : List V} {H : Hp} {Q : VK} {E : XK}, spF K ct n (fun _ _ => .bad) vs H Q E → False := fun ⟨_, _, _, _, _, _, q⟩ => q
  exact ⟨⟨f, fd, ps, ⟨fun _ _ _ _ z => (no z).elim, fun _ _ _ _ _ _ _ _ _ _ _ _ _ z => (no z).elim⟩, h1, h2, b⟩⟩
theorem df_mk {x : Str} {ps : List Str} {st : Stmt} {f : Addr} {oc : Value} {od an : Option Addr} {osl : Array (Option Value)} {kV doc pm cdv ct' : Value} {h : Heap} (X : K.In h) (G : h.Ns mainGlobals mg)
    (a : PySem.W.nsIn K mainGlobals x = some (some (.ref f))) (l : K.lookup f = some ⟨oc, od, .func (PySem.W.fnOf x x (defArgs st) (defBody st) (defScope st) .none kV doc pm an cdv ct'), osl⟩)
    (c : PySem.W.codeIn K cdv x = true) (k : PySem.W.keepIn K (.ref f) = true)
    (hb : ∀ (kV doc pm : Value) (an : Option Addr) (cdv ct : Value) (us : List Value), us.length = ps.length → bindArgs (PySem.W.fnOf x x (defArgs st) (defBody st) (defScope st) .none kV doc pm an cdv ct) ⟨us, []⟩ = pure (ps.zip us)) : Df K mg x ps st :=
  have F := fun_mk (st := st) l c k
  ⟨⟨f, _, F, PySem.W.mg_of X G a, k, F.binds hb, hb kV doc pm an cdv ct'⟩⟩
/-- the law's own def -/
def LawAt (P : Program) (wd : World) (K : PySem.W.Frag) (mg : Str → Option Value) (ct : CT) (k : Nat) (x p : Str) (g : EF) : Prop :=
  ∃ (f : Addr) (fd : FuncData), mg x = some (.ref f) ∧ (∀ us : List Value, us.length = 1 → bindArgs fd ⟨us, []⟩ = pure ([p].zip us)) ∧ ∀ base : Heap, FnG P wd K mg base CX0 k f fd [p] (spF K ct 1 g)
theorem law_mk {x p : Str} {st : Stmt} {N : List Str} {k m : Nat} {body : SS} (D : Df K mg x [p] st) (S : FnScope N [p] (defScope st)) (hm : N.length = m)
    (hb : ∀ (base : Heap) (f : Addr) (cdv : Value) (A : Around) (outer : List Env) (s : Shared) (H : Hp) (E : XK), Rm k (A.deeper (envOfC x (defScope st) s.heap.objs.size f cdv)) →
      SXs ct (cxOf CX0 P wd K mg base N x (defScope st) f cdv A outer s H E).nox (defBody st) body) : LawAt P wd K mg ct (k + 1) x p (fn 1 m body) := by
  obtain ⟨f, fd, F, h1, h2, b, hz⟩ := D.ex
  exact ⟨f, fd, h1, hz, fun base => ok_fn F S rfl hm (hb base f)⟩
/-- what is asked of the law -/
def spLaw (K : PySem.W.Frag) : Sp := fun vs H Q _ => ∃ (a : Addr) (ns : List Int), vs = [.ref a] ∧ Scr K H a ns ∧ ns.length ≤ 63 ∧ ∀ (v : V) H', v = .bl true → Q v H'
theorem law_fin {x p : Str} {k : Nat} {g : EF} {fa : Addr} (L : LawAt P wd K mg ct k x p g) (hfa : mg x = some (.ref fa)) (hg : ∀ ns : List Int, ns.length ≤ 63 → ∃ h', g [.scr ns] [] = .ok (.bl true) h') (ht : tabs ct = [] := by rfl) :
    ∃ fd : FuncData, (∀ (s : Shared) (u : Value), BindsTo s fd ⟨[u], []⟩ [(p, u)]) ∧ ∀ base : Heap, K.In base → base.Ns mainGlobals mg → FnG P wd K mg base CX0 k fa fd [p] (spLaw K) := by
  obtain ⟨f, fd, h1, hz, F⟩ := L
  rw [hfa] at h1
  cases h1
  refine ⟨fd, fun s u => .of_eq (hz [u] rfl), fun base _ _ => (F base).imp fun vs H Q E ⟨a, ns, e, hs, hl, hq⟩ => ?_⟩
  subst e
  obtain ⟨h', e⟩ := hg ns hl
  refine ⟨rfl, ⟨[], []⟩, [], [.scr ns], ⟨rfl, List.nodup_nil, fun _ m => (by simp at m), fun _ m => (by simp at m), (fun n o a e1 _ => by simp at e1), (by rw [ht]; exact fun _ m => by simp at m)⟩, .cons ⟨a, rfl, hs⟩ .nil, ?_⟩
  rw [e]
  exact fun w' H' b _ _ r => hq b H' r
theorem scr_of {H : Hp} {a : Addr} {ns : List Int} (hO : Only H) (hS : SqL K H a (ns.map V.int)) : Scr K H a ns := by
  rcases hS with (h | ⟨o, h⟩) | h
  · rcases hO a with z | ⟨o, xs, z⟩
    · rw [h] at z; cases z
    · rw [h] at z; cases z
  · exact .inl ⟨o, h⟩
  · exact .inr h
end
/-- the walk's end -/
theorem walk_end {l : PySem.W.OpenLaw} {k : Nat} {x : Str} {q : Program} {loose : List Str} {XP : (Str → Option Value) → Heap → Prop} {YP : World → Heap → Prop} {d : DefRec} {K : Params → PySem.W.Frag} (hn : l.most = some 63) (hdf : d.params.defaults = []) (hk : k ≤ 100)
    (hY : ∀ (w : World) (h : Heap), YP w h → (K w.params).In h)
    (F : ∀ (w : World) (mg : Str → Option Value) (fa : Addr) (h : Heap), (K w.params).In h → h.Ns mainGlobals mg → mg d.name = some (.ref fa) →
      ∃ fd : FuncData, (∀ (s : Shared) (u : Value), BindsTo s fd ⟨[u], []⟩ [(x, u)]) ∧ ∀ base : Heap, (K w.params).In base → base.Ns mainGlobals mg → FnG l.prog w (K w.params) mg base CX0 k fa fd [x] (spLaw (K w.params))) :
    PySem.W.WalkO q loose XP YP l.row.toRowW d [] (fun f vs => PySem.call f vs) :=
  walk_endG (sp := fun w => spLaw (K w.params)) hn hdf hk hY F fun w H a ns hl hO hS => ⟨a, ns, rfl, scr_of hO hS, hl, fun v H' e => e⟩
end BR

namespace BR
open PySem PySem.Spec PyProof.Rows L2
/-- g of positional values, of the keywords' values, of defaults -/
def eApK (g : EF) (n j : Nat) (a k : EA) (rest : List D) : EE := fun σ h => (a σ h).bind fun ds h1 => (k σ h1).bind fun es h2 => if ds.length = n ∧ es.length = j then g (ds ++ (es ++ rest)) h2 else .bad
section
variable {P : Program} {wd : World} {K : PySem.W.Frag} {mg : Str → Option Value} {base : Heap} {ct : CT}
end
section
variable {ct : CT} {X : Cx} {e : Expr} {es : List Expr} {kws : List Keyword} {pos p : Pos} {x : Str} {k j n m : Nat} {g : EF} {ha hk : EA} {kj : List Str} {restV : List V} {rest : List D}
end
end BR

namespace BR
open PySem PySem.Spec PyProof.Rows L2
/-- _law_open: 0 _law_script, 1 _law_cells, 2 _law_k, 3 _law_cell -/
noncomputable def f_law_open : EF := fnK 1 4
  (sSeq (sAsg (eAp gListR (aCons (eSl gCut (eVar 0) oNo (oP (eC (.int 12)))) aNil)) (gVar 1))
  (sSeq (sFor (gTup [(gVar 2), (gVar 3)]) (iEn (aCons (eSl gCut (eVar 0) (oP (eC (.int 12))) (oP (eC (.int 63)))) aNil)) (sAsg (eAp2 gAdd (eAp2 gIx (eVar 1) (eAp2 gMod (eVar 2) (eC (.int 12)))) (eVar 3)) (gSub (eVar 1) (eAp2 gMod (eVar 2) (eC (.int 12))) gSet)))
  (sRet (eLstR (aCons (eVar 1) (aCons (eC (.int 0)) (aCons (eC (.int 0)) aNil)))))))
theorem f_law_open_bad : ∀ (ds : List D) (h : Hd), ds.length ≠ 1 → f_law_open ds h = .bad := fun ds h e => fnK_bad ds h e
/-- _law_spread: 0 _law_cell, 1 _law_at, 2 _law_primes, 3 _law_one, 4 _law_two, 5 _law_three -/
noncomputable def f_law_spread : EF := fn 2 6
  (sSeq (sIf (tB (eAp2 gGe (eVar 0) (eAp2 gPow (eC (.int 10)) (eC (.int 18))))) (sRet (eVar 0)) sNop)
  (sSeq (sAsg (eLst (aCons (eC (.int 2147483629)) (aCons (eC (.int 2147483587)) (aCons (eC (.int 2147483579)) (aCons (eC (.int 2147483563)) (aCons (eC (.int 2147483549)) (aCons (eC (.int 2147483543)) (aCons (eC (.int 2147483497)) (aCons (eC (.int 2147483489)) aNil))))))))) (gVar 2))
  (sSeq (sAsg (eAp2 gAdd (eVar 2) (eLst (aCons (eC (.int 2147483477)) (aCons (eC (.int 2147483423)) (aCons (eC (.int 2147483399)) (aCons (eC (.int 2147483353)) (aCons (eC (.int 2147483323)) aNil))))))) (gVar 2))
  (sSeq (sAsg (eAp2 gMod (eAp2 gPow (eAp2 gAdd (eAp2 gAdd (eAp2 gMul (eAp2 gMod (eVar 0) (eC (.int 1000000007))) (eAp2 gAdd (eAp2 gMul (eC (.int 2)) (eVar 1)) (eC (.int 69069)))) (eAp2 gMul (eVar 1) (eC (.int 40503)))) (eC (.int 977))) (eC (.int 3))) (eAp2 gIx (eVar 2) (eAp2 gMod (eVar 1) (eC (.int 13))))) (gVar 3))
  (sSeq (sAsg (eAp2 gMod (eAp2 gPow (eAp2 gAdd (eAp2 gAdd (eAp2 gMul (eVar 3) (eAp2 gAdd (eVar 1) (eC (.int 3)))) (eAp2 gMod (eVar 0) (eC (.int 65537)))) (eC (.int 5))) (eC (.int 5))) (eAp2 gIx (eVar 2) (eAp2 gMod (eAp2 gAdd (eVar 1) (eC (.int 5))) (eC (.int 13))))) (gVar 4))
  (sSeq (sAsg (eAp2 gMod (eAp2 gPow (eAp2 gAdd (eAp2 gAdd (eVar 4) (eAp2 gMod (eVar 3) (eC (.int 1009)))) (eVar 1)) (eC (.int 3))) (eAp2 gIx (eVar 2) (eAp2 gMod (eAp2 gAdd (eVar 1) (eC (.int 7))) (eC (.int 13))))) (gVar 5))
  (sRet (eAp2 gAdd (eAp2 gMul (eAp2 gAdd (eAp2 gMul (eVar 3) (eC (.int 2147483647))) (eVar 4)) (eC (.int 2147483647))) (eVar 5)))))))))
theorem f_law_spread_bad : ∀ (ds : List D) (h : Hd), ds.length ≠ 2 → f_law_spread ds h = .bad := fun ds h e => fn_bad ds h e
/-- _law_take: 0 _law_pen, 1 _law_many, 2 _law_at, 3 _law_cell, 4 _law_found -/
noncomputable def f_law_take : EF := fn 2 5
  (sSeq (sIf (tB (eAp2 gLt (eAp2 gIx (eVar 0) (eC (.int 2))) (eVar 1))) (sSeq (sAsg (eAp2 gIx (eVar 0) (eC (.int 1))) (gVar 2))
  (sSeq (sAsg (eC (.int 0)) (gVar 3))
  (sSeq (sIf (tB (eAp2 gLt (eVar 2) (eAp gLen (aCons (eAp2 gIx (eVar 0) (eC (.int 0))) aNil)))) (sAsg (eAp2 gIx (eAp2 gIx (eVar 0) (eC (.int 0))) (eVar 2)) (gVar 3)) (sIf (tB (eAp2 gGt (eAp gLen (aCons (eAp2 gIx (eVar 0) (eC (.int 0))) aNil)) (eC (.int 0)))) (sAsg (eAp2 gMod (eAp2 gIx (eAp2 gIx (eVar 0) (eC (.int 0))) (eAp2 gMod (eAp2 gAdd (eAp2 gMul (eVar 2) (eC (.int 5))) (eC (.int 3))) (eAp gLen (aCons (eAp2 gIx (eVar 0) (eC (.int 0))) aNil)))) (eAp2 gAdd (eAp2 gPow (eC (.int 10)) (eC (.int 17))) (eVar 2))) (gVar 3)) sNop))
  (sSeq (sAsg (eAp2 gAdd (eVar 2) (eC (.int 1))) (gSub (eVar 0) (eC (.int 1)) gSet))
  (sAsg (eAp f_law_spread (aCons (eVar 3) (aCons (eVar 2) aNil))) (gSub (eVar 0) (eC (.int 2)) gSet)))))) sNop)
  (sSeq (sAsg (eAp2 gMod (eAp2 gIx (eVar 0) (eC (.int 2))) (eVar 1)) (gVar 4))
  (sSeq (sAsg (eAp2 gFdv (eAp2 gIx (eVar 0) (eC (.int 2))) (eVar 1)) (gSub (eVar 0) (eC (.int 2)) gSet))
  (sRet (eVar 4)))))
theorem f_law_take_bad : ∀ (ds : List D) (h : Hd), ds.length ≠ 2 → f_law_take ds h = .bad := fun ds h e => fn_bad ds h e
end BR

namespace BR
open PySem PySem.Spec PyProof.Rows L2
end BR

namespace BR
open PySem PySem.Spec PyProof.Rows L2
/-- _law_same: 0 _law_found, 1 _law_due, 2 _law_one, 3 _law_other -/
noncomputable def f_law_same_B (F : EF) : EF := fn 2 4
  (sSeq (sIf (tOr (tB (eAp1 gIsN (eVar 1))) (tB (eAp1 gIsN (eVar 0)))) (sRet (eAnd (eAp1 gIsN (eVar 1)) (eAp1 gIsN (eVar 0)))) sNop)
  (sSeq (sIf (tOr (tB (eIs ["bool"] (eVar 1))) (tB (eIs ["bool"] (eVar 0)))) (sRet (eAnd (eIs ["bool"] (eVar 1)) (eAnd (eIs ["bool"] (eVar 0)) (eAp2 gEq (eVar 0) (eVar 1))))) sNop)
  (sSeq (sIf (tB (eIs ["int", "str"] (eVar 1))) (sSeq (sIf (tB (eAp2 gNe (eIs ["int"] (eVar 0)) (eIs ["int"] (eVar 1)))) (sRet (eC (.bl false))) sNop)
  (sRet (eAnd (eIs ["int", "str"] (eVar 0)) (eAp2 gEq (eVar 0) (eVar 1))))) sNop)
  (sSeq (sIf (tOr (tB (eAp2 gNe (eIs ["tuple"] (eVar 1)) (eIs ["tuple"] (eVar 0)))) (tB (eAp2 gNe (eIs ["list"] (eVar 1)) (eIs ["list"] (eVar 0))))) (sRet (eC (.bl false))) sNop)
  (sSeq (sIf (tB (eAp2 gNe (eAp gLen (aCons (eVar 0) aNil)) (eAp gLen (aCons (eVar 1) aNil)))) (sRet (eC (.bl false))) sNop)
  (sRet (eAp2 (inF true) (eC (.bl false)) (eLc false [2, 3] (iZipN (aCons (eVar 0) (aCons (eVar 1) aNil))) (gTup [(gVar 2), (gVar 3)]) tTT (lcOne (eAp F (aCons (eVar 2) (aCons (eVar 3) aNil))))))))))))
noncomputable def f_law_same_F : Nat → EF
  | 0 => fun _ _ => .bad
  | k + 1 => f_law_same_B (f_law_same_F k)
theorem f_law_same_Fbad : ∀ (k : Nat) (ds : List D) (h : Hd), ds.length ≠ 2 → f_law_same_F k ds h = .bad
  | 0, _, _, _ => rfl
  | _ + 1, ds, h, e => fn_bad ds h e
noncomputable def f_law_same : EF := f_law_same_F 6
theorem f_law_same_bad : ∀ (ds : List D) (h : Hd), ds.length ≠ 2 → f_law_same ds h = .bad := f_law_same_Fbad 6
end BR

namespace BR
open PySem PySem.Spec PyProof.Rows L2
end BR

namespace BR
open PySem PySem.Spec PyProof.Rows L2
end BR

namespace BR
open PySem PySem.Spec PyProof.Rows L2
section
variable {P : Program} {wd : World} {K : PySem.W.Frag} {mg : Str → Option Value} {base : Heap} {ct : CT}
end
section
variable {ct : CT} {X : Cx} {e : Expr} {es : List Expr} {kws : List Keyword} {pos p : Pos} {x : Str} {k j n m nj : Nat} {g : EF} {ha hk : EA} {kj : List Str} {restV : List V} {rest : List D}
end
end BR

namespace BR
open PySem PySem.Spec PyProof.Rows L2
end BR

namespace BR
open PySem PySem.Spec PyProof.Rows L2
end BR

namespace RZ2
open PySem
open PySem.Sem (wp)
section
variable {prog : Program} {w : World} {A : Around} {E : Value → Shared → Prop} {s : Shared}
variable {t1 t2 : Bool} {z TI TO i1 i2 l1 l2 : Addr} {k1 k2 : Nat} {xs ys : Array Value} {x y a b : Value}
end
section
variable {prog : Program} {w : World} {A : Around} {E : Value → Shared → Prop} {s : Shared}
end
end RZ2
namespace BR
open PySem PySem.Spec PyProof.Rows L2 RZ2
section
variable {ct : CT} {X : Cx} {e e2 : Expr} {ha : EA}
end
end BR

namespace BR
open PySem PySem.Spec PyProof.Rows L2
section
variable {ct : CT} {X : Cx} {pos apos cpos : Pos}
end
section
variable {ct : CT} {X : Cx} {e e2 : Expr} {ha : EA} {p pos tpos : Pos} {elts : List Expr} {kk : Nat}
end
end BR

namespace BR
open PySem PySem.Spec PyProof.Rows L2
end BR

namespace BR
open PySem PySem.Spec PyProof.Rows L2
/-- ends well, or with an exception of class c -/
def okX {α β : Type} (K : PySem.W.Frag) (ct : CT) (rel : W → Hp → α → β → Prop) (r : Res α) (w : W) (H : Hp) (Q : β → Hp → Prop) (E : Nat → Hp → Prop) : Prop :=
  match r with
  | .ok a h' => ∀ w' H' b, Step K w H w' H' → SR K w' H' ct h' → rel w' H' a b → Q b H'
  | .exc c _ h' => ∀ w' H', Step K w H w' H' → SR K w' H' ct h' → E c H'
  | .bad => False
/-- where nothing raises -/
def Res.only {α : Type} (r : Res α) : Res α := match r with
  | .ok a h => .ok a h
  | _ => .bad
def eV (f : EE) : EE := fun σ h => (f σ h).only
def aV (f : EA) : EA := fun σ h => (f σ h).only
def tV (f : ET) : ET := fun σ h => (f σ h).only
def sV (f : SS) : SS := fun σ h => (f σ h).only
section
variable {α β γ δ : Type} {K : PySem.W.Frag} {ct : CT} {w w1 : W} {H H1 : Hp} {rel : W → Hp → α → β → Prop} {rel2 : W → Hp → γ → δ → Prop}
theorem okX.step {r : Res α} {Q : β → Hp → Prop} {E : Nat → Hp → Prop} (s : Step K w H w1 H1) (q : okX K ct rel r w H Q E) : okX K ct rel r w1 H1 Q E := by
  cases r with
  | ok a h' => exact fun w' H' b st sr r => q w' H' b (s.trans st) sr r
  | exc _ _ _ => exact fun w' H' st sr => q w' H' (s.trans st) sr
  | bad => exact q
theorem okX.only {r : Res α} {Q : β → Hp → Prop} {E : Nat → Hp → Prop} (q : okX K ct rel r.only w H Q E) : okR K ct rel r w H Q := by
  cases r with
  | ok a h' => exact q
  | exc _ _ _ => exact q.elim
  | bad => exact q
theorem okX.bind {r : Res α} {f : α → Hd → Res γ} {Q : δ → Hp → Prop} {E : Nat → Hp → Prop} (q : okX K ct rel2 (r.bind f) w H Q E) :
    okX K ct rel r w H (fun b H1 => ∃ w1 h1 a, Step K w H w1 H1 ∧ SR K w1 H1 ct h1 ∧ rel w1 H1 a b ∧ okX K ct rel2 (f a h1) w1 H1 Q E) E := by
  cases r with
  | ok a h' => exact fun w' H' b st sr r => ⟨w', h', a, st, sr, r, okX.step st q⟩
  | exc _ _ _ => exact q
  | bad => exact q.elim
theorem okX.imp {r : Res α} {Q Q' : β → Hp → Prop} {E E' : Nat → Hp → Prop} (q : okX K ct rel r w H Q E) (i : ∀ b H, Q b H → Q' b H) (j : ∀ c H, E c H → E' c H) : okX K ct rel r w H Q' E' := by
  cases r with
  | ok a h' => exact fun w' H' b st sr r => i _ _ (q w' H' b st sr r)
  | exc _ _ _ => exact fun w' H' st sr => j _ _ (q w' H' st sr)
  | bad => exact q.elim
end
theorem okX.here {K : PySem.W.Frag} {ct : CT} {α β : Type} {rel : W → Hp → α → β → Prop} {a : α} {b : β} {w : W} {H : Hp} {h : Hd} {Q : β → Hp → Prop} {E : Nat → Hp → Prop} (q : okX K ct rel (.ok a h) w H Q E) (sr : SR K w H ct h) (r : rel w H a b) : Q b H :=
  q w H b .refl sr r
section
variable {ct : CT} {X : Cx} {Wi : WX} {e c a b : Expr} {s : Stmt} {ss t u : List Stmt} {f k fe fa fb : EE} {gc : ET} {g : SS} {ga gb : SS} {pos : Pos}
end
section
variable {ct : CT} {X : Cx} {Wi : WX} {e : Expr} {es : List Expr} {pos p : Pos} {x : Str} {k j n : Nat} {g : EF} {ha : EA}
end
section
variable {P : Program} {wd : World} {K : PySem.W.Frag} {mg : Str → Option Value} {base : Heap} {ct : CT}
end
end BR

namespace BR
open PySem PySem.Spec PyProof.Rows L2 L2N
section
variable {X : Cx} {x n : Str} {k : Value} {i : Nat} {bd su : List Stmt} {b0 : Stmt} {np p1 pos : Pos} {tb : WX → TS} {ts : Addr → Value → Option Addr → TS}
end
end BR

namespace BR
open PySem PySem.Spec PyProof.Rows L2
section
variable {ct : CT} {X : Cx} {x n m : Str} {k : Value} {i j : Nat} {bd : List Stmt} {np p1 p2 p3 p4 pos : Pos} {g : SS}
end
end BR

namespace BR
open PySem PySem.Spec PyProof.Rows L2
section
variable {ct : CT} {X : Cx} {C : Addr} {sub : Nat → Bool}
variable {fe : EE} {e : Expr} {y : Str} {p p2 pos : Pos}
end
end BR

namespace BR
open PySem PySem.Spec PyProof.Rows L2
section
variable {ct : CT} {X : Cx}
end
end BR

namespace BR
open PySem PySem.Spec PyProof.Rows L2
/-- class number i stands under the name y; it is one of ValueError's -/
structure ExcAt (K : PySem.W.Frag) (mg : Str → Option Value) (ct : CT) (i : Nat) (y : Str) : Prop where
  q : PySem.W.excIn K (ct i).1 [.type "ValueError", .type "Exception", .type "BaseException", .type "object"] "ValueError.__new__" = true
  gC : mg y = some (.ref (ct i).1)
  kC : PySem.W.keepIn K (.ref (ct i).1) = true
  hs : PySem.W.subIn K (.ref (ct i).1) (.type "BaseException") = some true
  ht : PySem.W.typeIn K (.ref (ct i).1) = some (.type "type")
/-- by what the kernel sees of the frame -/
theorem excAt {K : PySem.W.Frag} {mg : Str → Option Value} {h : Heap} {ct : CT} {i : Nat} {y : Str} {C : Addr} (X : K.In h) (G : h.Ns mainGlobals mg) (hC : (ct i).1 = C) (a : PySem.W.nsIn K mainGlobals y = some (some (.ref C)))
    (q : PySem.W.excIn K C [.type "ValueError", .type "Exception", .type "BaseException", .type "object"] "ValueError.__new__" = true) (k : PySem.W.keepIn K (.ref C) = true) (s : PySem.W.subIn K (.ref C) (.type "BaseException") = some true)
    (t : PySem.W.typeIn K (.ref C) = some (.type "type")) : ExcAt K mg ct i y := by
  subst hC
  exact ⟨q, PySem.W.mg_of X G a, k, s, t⟩
section
variable {ct : CT} {X : Cx} {Wi : WX} {x m : Str} {j i : Nat} {p p2 pos pos2 : Pos}
end
end BR

namespace BR
open PySem PySem.Spec PyProof.Rows L2
def gV (g : EG) : EG := fun d σ h => (g d σ h).only
def eAp1X (g : EF) (f : EE) : EE := fun σ h => (f σ h).bind fun x h1 => (g [x] h1).only
def eAp2X (g : EF) (f k : EE) : EE := fun σ h => (f σ h).bind fun x h1 => (k σ h1).only.bind fun y h2 => (g [x, y] h2).only
section
variable {ct : CT} {X : Cx} {Wi : WX} {e a b tg : Expr} {es : List Expr} {fe fa fb : EE} {ha : EA} {gt : EG} {g : EF} {pos p : Pos} {x : Str}
end
section
variable {P : Program} {wd : World} {K : PySem.W.Frag} {mg : Str → Option Value} {base : Heap} {ct : CT}
end
/-- g of positional values, of the keywords' values, of defaults; only g may raise -/
def eApKX (g : EF) (n j : Nat) (a k : EA) (rest : List D) : EE := fun σ h => (a σ h).only.bind fun ds h1 => (k σ h1).only.bind fun es h2 => if ds.length = n ∧ es.length = j then g (ds ++ (es ++ rest)) h2 else .bad
section
variable {ct : CT} {X : Cx} {Wi : WX} {e : Expr} {es : List Expr} {kws : List Keyword} {pos p : Pos} {x : Str} {k j n m nj : Nat} {g : EF} {ha hk : EA} {kj : List Str} {restV : List V} {rest : List D}
end
section
variable {ct : CT} {X : Cx} {T : String} {sub : Nat → Bool}
variable {fe : EE} {e : Expr} {y : Str} {p p2 pos : Pos}
end
theorem boot_VE : bootBuiltins "ValueError" = some (.type "ValueError") := by decide +kernel
end BR

namespace BR
open PySem PySem.Spec PyProof.Rows L2
section
variable {ct : CT} {X : Cx} {x n m : Str} {k : Value} {i j : Nat} {bd : List Stmt} {np p1 p2 p3 p4 pos : Pos} {g : SS} {sub : Nat → Bool}
end
def cn (ps : List Nat) (c : Nat) : Nat := if ps.contains c = true then c else ps.headD 0
def ctP (l : List (Nat × Addr)) : CT := { ex := fun c => (l.lookup c).getD (l.headD (0, 0)).2 }
def subP (ps : List Nat) (i c : Nat) : Bool := decide (cn ps c = i)
theorem ctP_all {P : Nat → Addr → Prop} {l : List (Nat × Addr)} (h0 : l ≠ []) (h : ∀ p ∈ l, P p.1 p.2) (c : Nat) : P (cn (l.map (·.1)) c) (ctP l c).1 := by
  show P (cn (l.map (·.1)) c) ((l.lookup c).getD (l.headD (0, 0)).2)
  unfold cn
  cases e : l.lookup c with
  | some a =>
    have hm : (c, a) ∈ l := by
      clear h h0
      induction l with
      | nil => cases e
      | cons p l ih =>
        obtain ⟨x, y⟩ := p
        rw [List.lookup_cons] at e
        by_cases q : c == x
        · rw [q] at e
          have := eq_of_beq q
          subst this
          cases e
          exact List.mem_cons_self
        · have : (c == x) = false := by simpa using q
          rw [this] at e
          exact List.mem_cons_of_mem _ (ih e)
    have : (l.map (·.1)).contains c = true := List.contains_iff_mem.mpr (List.mem_map.mpr ⟨_, hm, rfl⟩)
    rw [if_pos this]
    exact h _ hm
  | none =>
    have : ¬ (l.map (·.1)).contains c = true := fun z => by
      obtain ⟨p, hp, e2⟩ := List.mem_map.mp (List.contains_iff_mem.mp z)
      have : l.lookup c ≠ none := by
        clear e h h0 z
        induction l with
        | nil => cases hp
        | cons q l ih =>
          obtain ⟨x, y⟩ := q
          rw [List.lookup_cons]
          by_cases hx : c == x
          · rw [hx]; simp
          · have h2 : (c == x) = false := by simpa using hx
            rw [h2]
            rcases List.mem_cons.mp hp with r | r
            · exact absurd (by rw [← e2, r]; simp) hx
            · exact ih r
      exact this e
    rw [if_neg this]
    cases l with
    | nil => exact absurd rfl h0
    | cons p l => exact h p List.mem_cons_self
end BR

namespace BR
open PySem PySem.Spec PyProof.Rows L2
end BR

namespace BR
open PySem PySem.Spec PyProof.Rows L2
end BR

namespace BR
open PySem PySem.Spec PyProof.Rows L2
end BR

namespace BR
open PySem PySem.Spec PyProof.Rows L2
section
variable {prog : Program} {w : World} {A : Around} {E : Value → Shared → Prop} {s : Shared}
end
section
variable {X : Cx} {te : TE}
end
theorem RDs.erase {K : PySem.W.Frag} {w : W} {H : Hp} : ∀ {ds : List D} {vs : List V} (k : Nat), RDs K w H ds vs → RDs K w H (ds.eraseIdx k) (vs.eraseIdx k)
  | [], _, _, e => by cases (show _ = [] from e); exact RDs.nil
  | d :: ds, _, 0, ⟨v, r, e, q, t⟩ => by subst e; exact t
  | d :: ds, _, k + 1, ⟨v, r, e, q, t⟩ => by subst e; exact .cons q (RDs.erase k t)
end BR

namespace BR
open PySem PySem.Spec PyProof.Rows L2
section
variable {ct : CT} {X : Cx} {e : Expr} {ha : EA} {p pos : Pos}
end
end BR

namespace BR
open PySem PySem.Spec PyProof.Rows L2
end BR

namespace BR
open PySem PySem.Spec PyProof.Rows L2
end BR

namespace BR
open PySem PySem.Spec PyProof.Rows L2
section
variable {prog : Program} {w : World} {A : Around} {R : Result → Shared → Prop} {s : Shared} {e0 elt t0 i0 i1 : Expr} {gs : List Comprehension} {scope : Scope} {pos : Pos} {ifs0 : List Expr} {m : Nat} {it acc : Value} {env : Env}
end
section
variable {elt t0 i0 t1 i1 t2 i2 : Expr} {ifs0 ifs1 ifs2 : List Expr} {scope : Scope} {pos : Pos} {it acc : Value} {env : Env}
end
section
variable {Y : Cx} {us us1 : List Nat} {D : Addr}
end
section
variable {prog : Program} {w : World} {A : Around} {R : Result → Shared → Prop} {s : Shared} {elt tg iter tg1 iter1 tg2 iter2 : Expr} {ifs ifs1 ifs2 : List Expr} {scope : Scope} {pos : Pos} {it acc : Value} {env : Env}
end
section
variable {X : Cx}
end
end BR

namespace BR
open PySem PySem.Spec PyProof.Rows L2
section
variable {K : PySem.W.Frag} {ct : CT} {w1 : W} {H1 : Hp} {p : Addr}
end
section
variable {ct : CT} {X : Cx} {vs vs1 vs2 : List Nat}
end
end BR

namespace BR
open PySem PySem.Spec PyProof.Rows L2
section
variable {ct : CT} {X : Cx}
end
end BR

namespace BR
open PySem PySem.Spec PyProof.Rows L2
end BR

namespace BR
open PySem PySem.Spec PyProof.Rows L2
section
variable {ct : CT} {X : Cx} {Wi : WX} {e a b tg : Expr} {es : List Expr} {fe fa fb : EE} {ha : EA} {gt : EG} {g : EF} {pos p : Pos} {x : Str}
end
end BR

namespace BR
open PySem PySem.Spec PyProof.Rows L2
section
variable {ct : CT} {X : Cx} {a : Expr} {fa : EE} {pos : Pos}
end
end BR

namespace BR
open PySem PySem.Spec PyProof.Rows L2
section
variable {K : PySem.W.Frag} {ct : CT} {w w1 w2 : W} {H H1 H2 : Hp} {h h1 h2 : Hd} {p : Addr} {o : HO}
/-- p is reserved since (w, H) -/
structure RsvF (K : PySem.W.Frag) (w : W) (H : Hp) (p : Addr) (w1 : W) (H1 : Hp) : Prop where
  eio : ∃ m, w1.io = w.io ++ m
  ers : w1.rs = p :: w.rs
  nd : p ∉ w.rs
  up : ∀ d v, RD K w H d v → RD K w1 H1 d v
  kp : ∀ a ∈ w.rs, H1 a = H a
  co : ∀ c u, Fixd c u → H c = some u → H1 c = some u
theorem RsvF.start (sr : SR K w H ct h) (hp : H p = none) : RsvF K w H p ⟨w.io, p :: w.rs⟩ (upd H p o) :=
  ⟨⟨[], by simp⟩, rfl, fun m => sr.ne_rs hp p m rfl, rsv_new_rd sr hp, fun a ha => L2.upd_ne (sr.ne_rs hp a ha), fun c u f z => co_none hp f z⟩
theorem RsvF.step (F : RsvF K w H p w1 H1) (st : Step K w1 H1 w2 H2) : RsvF K w H p w2 H2 := by
  obtain ⟨m1, f1⟩ := F.eio
  obtain ⟨m2, f2⟩ := st.pre
  exact ⟨⟨m1 ++ m2, by rw [f2, f1, List.append_assoc]⟩, st.rs.trans F.ers, F.nd, fun d v r => st.rd _ _ (F.up d v r), fun a ha => (st.kp a (by rw [F.ers]; exact List.mem_cons_of_mem _ ha)).trans (F.kp a ha), fun c u f z => st.co c u f (F.co c u f z)⟩
theorem RsvF.mem (F : RsvF K w H p w1 H1) : p ∈ w1.rs := by rw [F.ers]; exact List.mem_cons_self
theorem RsvF.out (F : RsvF K w H p w1 H1) (sr : SR K w1 H1 ct h1) : Step K w H ⟨w1.io, w.rs⟩ H1 ∧ SR K ⟨w1.io, w.rs⟩ H1 ct h1 ∧ ∀ d v, RD K w1 H1 d v → RD K ⟨w1.io, w.rs⟩ H1 d v :=
  ⟨⟨F.eio, rfl, F.kp, fun d v r => rsv_end_rd F.ers d v (F.up d v r), F.co⟩, rsv_end sr F.ers, rsv_end_rd F.ers⟩
end
section
variable {ct : CT} {X : Cx} {pos apos cpos : Pos}
end
end BR

namespace BR
open PySem PySem.Spec PyProof.Rows L2
section
variable {K : PySem.W.Frag} {ct : CT} {w : W} {H : Hp} {h : Hd}
end
section
variable {ct : CT} {X : Cx} {es : List Expr} {ha : EA} {p pos : Pos} {e : Expr}
end
end BR

namespace BR
open PySem PySem.Spec PyProof.Rows L2
end BR

namespace BR
open PySem PySem.Spec PyProof.Rows L2
section
variable {ct : CT} {X : Cx} {a b : Expr} {fa fb : EE} {pos : Pos}
end
end BR

namespace BR
open PySem PySem.Spec PyProof.Rows L2
section
variable {X : Cx} {ct : CT} {o e v : Expr} {es : List Expr} {fo fv : EE} {ha : EA} {f m x : Str} {c k n j mm : Nat} {names : List Str} {g : EF} {p pos apos pos' : Pos}
end
theorem Rm.make {k : Nat} {A : Around} (r : Rm (k + 1) A) (C : Addr) (us : List Value) (kw : List (Str × Value)) : Rm k (A.under (.builtin "type.__call__" ⟨.ref C :: us, kw⟩)) := ⟨r.rm.make C us kw, r.gd⟩
section
variable {X : Cx} {CX : CXT} {k : Nat} {f C : Addr} {fd : FuncData} {ps : List Str} {sp : Sp} {dvs : List V} {ds : List Value} {E : XK} {x m : Str} {p pos apos : Pos} {e o : Expr} {es : List Expr} {ta : TE} {t : TA}
end
section
variable {X : Cx} {ct : CT} {o e v : Expr} {es : List Expr} {fo fv : EE} {ha : EA} {f m x : Str} {c k n j mm : Nat} {names : List Str} {g : EF} {p pos apos pos' : Pos}
end
end BR

namespace BR
open PySem PySem.Spec PyProof.Rows L2 LamX NdefX
/-- a record of the built-in's own: untracked, no frame, no cell, no pin -/
structure Mine (X : Cx) (pins : List (Addr × Obj)) (it : Addr) : Prop where
  nL : it ≠ X.env.locals
  new : X.s_0.heap.objs.size ≤ it
  nc : ∀ x c, X.env.cells.lookup x = some c → c ≠ it
  np : ∀ p ∈ X.pn ++ pins, p.1 ≠ it
  nf : it ∉ frs X.stack
section
variable {X : Cx} {pins : List (Addr × Obj)} {σ : L2.St} {H : Hp} {s : Shared}
theorem Mine.of (I : Inv X pins σ H s) {it : Addr} (h : s.heap.objs.size ≤ it) : Mine X pins it := by
  refine ⟨?_, Nat.le_trans I.sz h, fun x c e => ?_, fun p hp => ?_, ?_⟩
  · obtain ⟨m, ⟨o, _, _, ho, _⟩, _⟩ := I.loc
    exact Nat.ne_of_gt (Nat.lt_of_lt_of_le (Heap.lt_size ho) h)
  · obtain ⟨v, o, ho, _⟩ := I.cell x c e
    exact Nat.ne_of_lt (Nat.lt_of_lt_of_le (Heap.lt_size ho) h)
  · exact Nat.ne_of_lt (Nat.lt_of_lt_of_le (Heap.lt_size (I.pin p hp).1) h)
  · intro z
    rcases List.mem_cons.mp (I.stkSub _ z) with e | e
    · have h1 := I.lt
      rw [← e] at h1
      exact Nat.lt_irrefl _ (Nat.lt_of_lt_of_le h1 h)
    · exact I.nofs h e
theorem Mine.turned {it : Addr} {h' : Heap} {t' : Nat} (m : Mine X pins it) (no : H it = none) (I : Inv X pins σ H s) (k : ∀ b o, b ≠ it → s.heap.get? b = some o → h'.get? b = some o) : Inv X pins σ H { s with heap := h', toks := t' } :=
  I.turned k no m.nL (.inr m.new) m.nc m.np
variable {G : Hp → Prop} {It : Hp → Nat → Value → Prop} {n : Nat} {l q I S : Addr} {R : Result → Shared → Prop} {fo : Obj}
end
section
variable {X : Cx} {pins : List (Addr × Obj)} {σ : L2.St} {H : Hp} {s : Shared} {N ps fr : List Str} {js : List Nat} {params : Arguments} {body : Expr} {scope : Scope} {k : Nat} {f c' : Addr} {pm ctv : Value} {tb : TE} {qual : Str} {cl : List (Str × Addr)}
end
section
variable {K : PySem.W.Frag} {w w' : W} {H H' : Hp} {ct : CT} {h : Hd}
end
section
variable {ct : CT} {X : Cx} {e : Expr} {fe fb : EE} {p pos lpos kp : Pos} {N fr : List Str} {a : Str} {js : List Nat} {params : Arguments} {body : Expr} {scope : Scope} {k : Nat} {c P : Addr}
end
end BR

namespace BR
open PySem PySem.Spec PyProof.Rows L2
section
variable {X : Cx} {ct : CT} {o e v : Expr} {es : List Expr} {fo fv fe fb : EE} {ha : EA} {f m x a : Str} {c k n j mm : Nat} {names N fr : List Str} {js : List Nat} {g : EF} {p pos apos pos' lpos kp : Pos}
end
section
variable {P : Program} {wd : World} {K : PySem.W.Frag} {mg : Str → Option Value} {base : Heap} {ct : CT}
end
section
variable {X : Cx} {ct : CT} {e : Expr} {fe fb : EE} {p pos lpos kp : Pos} {N fr : List Str} {a : Str} {js : List Nat} {params : Arguments} {body : Expr} {scope : Scope} {k : Nat} {c P : Addr}
end
end BR

namespace BR
open PySem PySem.Spec PyProof.Rows L2 LamX
section
variable {P : Program} {wd : World} {K : PySem.W.Frag} {mg mb : Str → Option Value} {k : Nat} {fa a : Addr} {fd : FuncData} {x : Str} {sp : Sp} {s1 : Shared} {us : List Value} {ns : List Int} {cs : List (Addr × Addr)}
end
section
variable {P : Program} {wd : World} {K : PySem.W.Frag} {mg : Str → Option Value} {ct : CT} {TB : Heap → Prop}
end
end BR

namespace BR
open PySem PySem.Spec PyProof.Rows L2
section
variable {K : PySem.W.Frag} {mg : Str → Option Value}
end
end BR

namespace BR
open PySem PySem.Spec PyProof.Rows L2
section
variable {X : Cx} {pins : List (Addr × Obj)} {σ : L2.St} {H : Hp} {s : Shared} {C B : Addr} {x fl n : Str} {e o : Expr} {es : List Expr} {ta : TA} {te : TE} {p p1 p2 pos : Pos}
theorem ext_ok {P : Program} {w : World} {h : Heap} {a : Addr} {oe : Obj} {cls : Value} {d : Option Addr} (he : h.get? a = some oe) (hz : L2N.Zn cls d oe) (hd : ∃ vs, oe.data = .fields vs) : ObjOk P w H h a (.ext (excF cls d a)) :=
  ⟨⟨oe, he, hz, hd⟩, ⟨oe, he⟩, fun h1 h2 ⟨o, e, z⟩ k => ⟨o, k o e, z⟩⟩
/-- C(e), C without own __init__, as a value -/
theorem pe_exv {bmB : List Value} {B newId initId : String} (F : ExcBaseFacts B newId initId bmB) (q : PySem.W.excIn X.K C bmB newId = true) (gC : X.mg x = some (.ref C)) (kC : PySem.W.keepIn X.K (.ref C) = true) (hg : Gl X x)
    (he : PE X e te) (hs : starEach [e] X.env = (false, eval e X.env) :: starEach [] X.env := by rfl) (hdb : (x == ("__debug__" : Str)) = false := by decide) :
    PE X (.Call (.Name x p) [e] [] pos) (fun σ H Q => te σ H fun _ H1 => ∀ a, H1 a = none → Q (.ref a) (upd H1 a (.ext (excF (.ref C) none a)))) := by
  refine ⟨fun pins s σ H Q I h => ?_⟩
  refine wpAny_Call_Name_kw (ld_glob I hg gC ?_ hdb)
  refine PySem.W.callWith_K (h₀ := X.base) I.ok.mod.kin kC ?_ hs (by rfl)
  rw [hs]
  show wpAny _ _ (spliced ((false, eval e X.env) :: backTo pos (starEach [] X.env))) _ _ s
  refine Calls.spliced_cons (thn (he.run pins s σ H _ I h) fun u s1 ⟨v, H1, I1, r1, q1⟩ => ?_)
  refine Calls.spliced_nil ⟨I1.kIn, ?_⟩
  show wpAny _ _ (call (.ref C) [u]) _ _ _
  obtain ⟨bm, N, nm, qn, bs, hdct, sn, sub, ab, col, dd, k0, k1, k2, k3, k5, mN, hC, hN, hni, T⟩ := exc_obj I1.kIn q
  obtain ⟨hp, g, d, tk, os⟩ := s1
  refine wpAny_call_exc_subT F T hC hN hni (fun h' e hm => ?_) (by show 1 ≤ sizeLine; rw [sizeLine_eq]; omega)
  obtain ⟨t, he, _, _⟩ := hm.there
  have na := I1.hok.gone hm.new
  exact ⟨.ref e, _, Inv.laidN (t' := tk) I1 hm.keeps hm.new na (ext_ok he ⟨rfl, rfl, fun vs e => by cases e; rfl⟩ ⟨_, rfl⟩), rfl, q1 e na⟩
/-- the base's __init__ is ValueError's -/
structure InitC (K : PySem.W.Frag) (B : Addr) : Prop where
  ty : ∃ mc, PySem.W.typeIn K (.ref B) = some mc ∧ PySem.W.readsIn K B mc = true ∧ PySem.W.findCls K (.ref B) mc "__init__" = some (.val (.builtin "ValueError.__init__"))
  ga : PySem.W.specialIn K (.ref B) "__getattribute__" = some (some (.builtin "type.__getattribute__"))
/-- B.__init__(self, ..) -/
theorem pe_beinit {pl : Sem Bool} (hg : Gl X x) (hm : X.mg x = some (.ref B)) (IB : InitC X.K B) (ha : PA X (e :: es) ta) (hdb : (x == ("__debug__" : Str)) = false := by decide)
    (hc : eval (.Call (.Attribute (.Name x p1) "__init__" p2) (e :: es) [] pos) X.env = (do
      let ov ← eval (.Name x p1) X.env
      standAt p2.atName
      let (f, first) ← holding [ov] (getMethod ov "__init__" pl)
      callWith pos f first (backTo pos (starEach (e :: es) X.env)) (backToKw pos (keywordEach [] X.env))) := by rfl)
    (he : starEach (e :: es) X.env = (false, eval e X.env) :: starEach es X.env := by rfl) (hpl : (backTo pos (starEach es X.env)).any (·.1) = false := by rfl) :
    PE X (.Call (.Attribute (.Name x p1) "__init__" p2) (e :: es) [] pos) (tVeI X.K ta) := by
  refine ⟨fun pins s σ H Q I h => ?_⟩
  refine PySem.W.methodCall_KW (ld_glob I hg hm ?_ hdb) hc
  obtain ⟨m, fr⟩ := I.fr
  obtain ⟨mc, t1, t2, t3⟩ := IB.ty
  refine PySem.W.method_of_cls fr I.ok.mod.kin IB.ga (PySem.W.cls_val fr I.ok.mod.kin t1 t2 t3 (by decide +kernel) ?_)
  show wpAny _ _ (callWith pos (Value.builtin "ValueError.__init__") [] (backTo pos (starEach (e :: es) X.env)) []) _ _ _
  refine PyProof.Rows.callWith_method1 (thn (ha.run pos pins _ σ H _ (I.tok _) h) fun us s1 ⟨vs, H1, I1, r1, a, C, ws, ev, hl, T, ea, q⟩ => ?_) he hpl
  subst ev
  cases r1 with
  | @cons _ u0 _ ur ra rw' =>
    obtain rfl : u0 = Value.ref a := ra
    have hlen : ur.length ≤ sizeLine := by
      rw [← Paired.length rw', sizeLine_eq]
      omega
    exact oinit_ok T I1 ea hlen fun s' J => ⟨.non, H1, J, rfl, q⟩
/-- an __init__ with one argument, which becomes the field fl -/
def spEI (C : Addr) (fl : Str) : Sp := fun as H Q _ => ∃ a v, as = [.ref a, v] ∧ H a = some (exo a C none) ∧ ∀ dx, H dx = none → dx ≠ a → Q .non (upd (upd H dx (exd dx [(fl, v)])) a (exo a C (some dx)))
theorem ei_run {K : PySem.W.Frag} {as : List V} {m : Str} {Q : VK} {E : XK} {N : List Str} (T : OexC K C) (hno : PySem.W.findIn K (.ref C) fl = some none) (hN : N.length = 2) (h : spEI C fl as H Q E) :
    (tSeq (tDrop (tVeI K (tCons (tVar 0) (tCons (tC (.str m)) tNil)))) (tOst K fl (tVar 0) (tVar 1))) { nx := fun _ G => Q .non G, rt := Q } (start N as) H := by
  obtain ⟨a, v, rfl, ea, q⟩ := h
  have e0 : (start N [V.ref a, v])[0]? = some (some (.ref a)) := rfl
  have e1 : (start N [V.ref a, v])[1]? = some (some v) := rfl
  refine ⟨.ref a, e0, a, C, [.str m], rfl, by show 1 ≤ 1000; decide, T, ea, v, e1, .ref a, e0, a, C, rfl, T, hno, .inl ⟨ea, fun dx n ne => q dx n ne⟩⟩
/-- C(v) as a value: its field -/
def tEV (C : Addr) (fl : Str) (ta : TA) : TE := fun σ H Q => ta σ H fun vs H1 => ∃ v, vs = [v] ∧ ∀ a d, H1 a = none → H1 d = none → d ≠ a → Q (.ref a) (upd (upd H1 d (.xd [(fl, v)])) a (.ext (excF (.ref C) (some d) a)))
theorem pe_oexV {fI : Addr} {k : Nat} {fd : FuncData} {ps : List Str} (T : OexC X.K C) (iC : PySem.W.findIn X.K (.ref C) "__init__" = some (some (.ref fI))) (tI : PySem.W.typeIn X.K (.ref fI) = some (.type "function"))
    (F1 : FnG X.prog X.w X.K X.mg X.base CX0 k fI fd ps (spEI C fl)) (hr : Rm (k + 1) X.A) (hb : Binds X.K fd ps []) (hg : Gl X x) (hm : X.mg x = some (.ref C)) (ha : PA X (e :: es) ta)
    (hdb : (x == ("__debug__" : Str)) = false := by decide) (he : starEach (e :: es) X.env = (false, eval e X.env) :: starEach es X.env := by rfl) (hpl : (backTo pos (starEach es X.env)).any (·.1) = false := by rfl) :
    PE X (.Call (.Name x p) (e :: es) [] pos) (tEV C fl ta) := by
  refine ⟨fun pins s σ H Q I h => ?_⟩
  obtain ⟨nm, q, N, bs, bm, sn, sub, ab, col, dd, k0, k1, k2, k3, k5, hC, hbm⟩ := T.cls
  refine wpAny_Call_Name_kw (ld_glob I hg hm ?_ hdb)
  refine PySem.W.callWith_K (h₀ := X.base) I.ok.mod.kin T.kC (thn (ha.run pos pins s σ H _ I h) fun us s1 ⟨vs, H1, I1, r1, v, ev, q1⟩ => ⟨I1.kIn, ?_⟩) he hpl
  subst ev
  show wpAny _ _ (call (.ref C) us) _ _ _
  obtain ⟨hp, g, dr, tk, os⟩ := s1
  have hsz : hp.objs.size ≤ hp.objs.size + 1 := Nat.le_succ _
  have hn : H1 (hp.objs.size + 1) = none := I1.hok.fresh hsz
  generalize hA : hp.objs.size + 1 = a at hsz hn
  have hq : spEI C fl [V.ref a, v] (upd H1 a (exo a C none)) (fun u H2 => u = .non ∧ ∃ d, H1 d = none ∧ d ≠ a ∧ H2 = upd (upd (upd H1 a (exo a C none)) d (exd d [(fl, v)])) a (exo a C (some d))) (fun _ _ _ => False) :=
    ⟨a, v, rfl, upd_same, fun dx n ne => ⟨rfl, dx, by rw [upd_ne ne] at n; exact n, ne, rfl⟩⟩
  subst hA
  have kk : ∀ b o, hp.get? b = some o → ((hp.push (PySem.W.kdv_tup us)).push (PySem.HandSPX.excO C hp.objs.size)).get? b = some o := fun b o e => Heap.get?_push_of_some _ (Heap.get?_push_of_some _ e)
  have hget : ((hp.push (PySem.W.kdv_tup us)).push (PySem.HandSPX.excO C hp.objs.size)).get? (hp.objs.size + 1) = some (PySem.HandSPX.excO C hp.objs.size) := by heap_get
  have I2 : Inv X pins σ (upd H1 (hp.objs.size + 1) (exo (hp.objs.size + 1) C none)) ⟨(hp.push (PySem.W.kdv_tup us)).push (PySem.HandSPX.excO C hp.objs.size), g, dr, tk, os⟩ :=
    I1.laid (t' := tk) (a := hp.objs.size + 1) (o := exo (hp.objs.size + 1) C none) (h' := (hp.push (PySem.W.kdv_tup us)).push (PySem.HandSPX.excO C hp.objs.size)) kk hsz (exo_ok hget)
  have r2 : Vals [V.ref (hp.objs.size + 1), v] (Value.ref (hp.objs.size + 1) :: us) := .cons rfl r1
  have hl : (Value.ref (hp.objs.size + 1) :: us).length = ps.length := by
    have e := r2.length
    rw [F1.lg _ _ _ _ hq] at e
    exact e.symm
  have hus : us.length ≤ sizeLine := by
    rw [← Paired.length r1, sizeLine_eq]
    show 1 ≤ _
    omega
  refine wpAny_call (PySem.HandSPX.call_own F.excBase_ValueError (fun Y => PySem.HandSPX.refsVE_contains Y bm hbm) (I1.kIn _ _ hC) (PySem.W.looks_findIn I1.kIn iC) (fun self => PySem.W.bind_fn I1.kIn self tI) hus
    (codeAny_mono (F1.go _ X.stack _ _ ⟨Value.ref (hp.objs.size + 1) :: us, []⟩ (Value.ref (hp.objs.size + 1) :: us) _ _ (fun _ _ _ => False) (hr.make C us []) (I2.env0.make C us []) (by
      have := hb _ (Value.ref (hp.objs.size + 1) :: us) I2.kIn (by simpa using hl)
      simpa using this) r2 hq) fun r s' hq' => ?_))
  cases r with
  | error er => exact hq'.elim
  | ok f =>
    cases f with
    | ret u =>
      obtain ⟨w, H2, os2, bare2, un2, hok2, rv, ew, d, hd1, hda, eH⟩ := hq'
      subst ew eH
      obtain ⟨h2, g2, d2, t2, os'⟩ := s'
      obtain ⟨t0, G, J, kG, ge, hoe, na⟩ := mk_end0 (d2 := d2) (t2 := t2) I1 hsz kk un2 hok2 os2 bare2 upd_same (by rw [upd_ne hda, upd_same]) hd1
      have eH : upd (del (upd (upd (upd H1 (hp.objs.size + 1) (exo (hp.objs.size + 1) C none)) d (exd d [(fl, v)])) (hp.objs.size + 1) (exo (hp.objs.size + 1) C (some d))) (hp.objs.size + 1)) d (.xd [(fl, v)]) = upd H1 d (.xd [(fl, v)]) := by
        funext b
        by_cases z : b = d
        · subst z; rw [upd_same, upd_same]
        · rw [upd_ne z, upd_ne z]
          by_cases y : b = hp.objs.size + 1
          · subst y; rw [del_same, hn]
          · rw [del_ne y, upd_ne y, upd_ne z, upd_ne y]
      rw [eH] at J na
      exact ⟨rv, .ref (hp.objs.size + 1), _, Inv.laidN (t' := t2) J kG ge na (ext_ok hoe ⟨rfl, rfl, fun vs e => by cases e; rfl⟩ ⟨_, rfl⟩), rfl, q1 _ d hn hd1 hda⟩
    | next => exact False.elim hq'
    | brk => exact False.elim hq'
    | cont => exact False.elim hq'
/-- e.n, n a field -/
def tXv (PC : Addr → Prop) (n : Str) (te : TE) : TE := fun σ H Q => te σ H fun x H1 => ∃ (C a dd : Addr) (fs : List (Str × V)) (v : V), PC C ∧ x = .ref a ∧ H1 a = some (.ext (excF (.ref C) (some dd) a)) ∧ H1 dd = some (.xd fs) ∧ fs.lookup n = some v ∧ Q v H1
theorem pe_xvA {PC : Addr → Prop} (T : ∀ C, PC C → XfC X.K C ∧ PySem.W.findIn X.K (.ref C) n = some none) (he : PE X e te) (hb : attributeBase e n X.env (eval e X.env) = eval e X.env := by rfl) : PE X (.Attribute e n pos) (tXv PC n te) := by
  refine ⟨fun pins s σ H Q I h => ?_⟩
  refine attr_of hb (thn (he.run pins s σ H _ I h) fun u s1 hh => ?_)
  obtain ⟨x, H1, I1, rx, C, a, dd, fs, v, pc, ex, ea, ed, l, q⟩ := hh
  obtain ⟨T, hno⟩ := T C pc
  subst ex
  obtain rfl : u = Value.ref a := rx
  obtain ⟨⟨oe, hget, ⟨z1, z2, z3⟩, vs, hd⟩, -⟩ := (show ObjOk X.prog X.w H1 s1.heap a (.ext (excF (.ref C) (some dd) a)) from I1.hok a _ ea)
  have hx : ObjOk X.prog X.w H1 s1.heap dd (.xd fs) := I1.hok dd _ ed
  obtain ⟨mA, hns, hr⟩ := hx
  obtain ⟨od, ho, hl⟩ := lookIn_ns hns
  obtain ⟨u, hu, ru⟩ := RelO.some_of (v := v) (o := mA n) (by rw [← l]; exact hr n)
  have J : PySem.W.InstAt s1.heap a oe C (some od) := ⟨hget, z1, by unfold PySem.W.notCls; rw [hd] <;> rfl, by rw [z2]; exact ho⟩
  exact HandSPX.exc_get I1.kIn J T.ga T.gg T.exC (PySem.W.findObj_own T.hdC hno rfl (by rw [hl, hu])) (handed_of ru) ⟨v, H1, I1.tok _, ru, q⟩
end
end BR

namespace PySem.W
open PySem PySem.Spec PySem.Calls PyProof.Rows
section
variable {prog : Program} {w : World} {A : Around} {E : Value → Shared → Prop} {s : Shared} {K : Frag} {x D : Addr} {ox dobj : Obj}
theorem br_findClass {a g : Value} (hd : hasDictIn K D = true) (ha : findIn K (.ref D) "__class__" = some (some a)) (hg : specialIn K a "__get__" = some (some g)) (ht : takesIn K a = some true) (od : Option Obj) : findObj K D od "__class__" = some (.bind g a) := by
  obtain ⟨cd, hc, _⟩ := any_some hd
  unfold findObj
  simp only [hc, ha, hg, ht, Option.bind_some]
theorem br_classOf {Q : Option Value → Shared → Prop} (hga : findIn K (.ref D) "__getattribute__" = some (some (.builtin "BaseException.__getattribute__"))) (hgt : findIn K (.ref D) "__getattr__" = some none) (hsub : subIn K (.ref D) (.type "BaseException") = some true)
    (hdct : hasDictIn K D = true) (ha : findIn K (.ref D) "__class__" = some (some (.builtin "object.__class__")))
    (hn : specialIn K (.builtin "object.__class__") "__get__" = some (some (.builtin "getset_descriptor.__get__"))) (htk : takesIn K (.builtin "object.__class__") = some true) (hm : mroIn K D (.type "object") = some true)
    (X : K.In s.heap) (od : Option Obj) (I : InstAt s.heap x ox D od) (h : Q (some (.ref D)) { s with toks := s.toks + 1 }) : wpAny (model prog w) A (getAttr? (.ref x) "__class__") Q E s := by
  obtain ⟨hp, g, d, t, os⟩ := s
  have T0 := I.type (M := model prog w)
  have isB : Looks (model prog w) hp (isInstance (.ref x) (.type "BaseException")) true := T0.andThen (looks_subIn X hsub)
  have no2 : (Value.builtin "BaseException.__getattribute__" == Value.builtin "object.__getattribute__") = false := by decide +kernel
  have no1 : (onTheHeap (Value.ref D) && Value.builtin "BaseException.__getattribute__" == Value.builtin "object.__getattribute__") = false := by rw [no2, Bool.and_false]
  unfold getAttr? getAttrBy? getAttrBy
  refine wpAny_bind (wpAny_mkText (wpAny_bind (wpAny_attempt (wpAny_holding (wpAny_bind (T0.at (wpAny_bind ((looks_findIn X hga).at ?_))))))))
  show wpAny _ _ (if (onTheHeap (Value.ref D) && Value.builtin "BaseException.__getattribute__" == Value.builtin "object.__getattribute__") = true then _ else _) _ _ _
  rw [no1, if_neg Bool.false_ne_true]
  unfold getAttrByItsOwn hookBefore
  rw [if_pos (show onTheHeap (Value.ref D) = true from rfl)]
  refine wpAny_bind ((looks_findIn X hgt).at (wpAny_bind (wpAny_attempt (wpAny_holding ?_))))
  unfold callGetattribute
  rw [if_neg (show ¬ (false && onTheHeap (Value.builtin "BaseException.__getattribute__")) = true from Bool.false_ne_true)]
  unfold boundAndCalled
  rw [PySem.F.excAttr_ValueError.ga.bind (.ref x)]
  refine wpAny_bind (wpAny_pure ?_)
  show wpAny _ _ (call (.builtin "BaseException.__getattribute__") [.ref x, .str "__class__" t]) _ _ _
  refine wpAny_call (codeAny_call_builtin PySem.F.excAttr_ValueError.ga.plain PySem.F.entry_bexc_ga ?_)
  refine @check_slot (model prog w) _ _ ⟨hp, g, d, t + 1, os⟩ "BaseException.__getattribute__" "BaseException" "__getattribute__" (.ref x) [.str "__class__" t] [] _ (by decide +kernel) (by decide +kernel) isB (PySem.F.args_bexc_ga (.ref x) (.str "__class__" t)) ?_
  unfold Builtin.«object.__getattribute__»
  refine wpAny_bind (wpAny_of_eq (a := ((Value.ref x : Value), [Value.str "__class__" t])) (by first | rfl | (simp only [slotArgs]; rfl)) ?_)
  refine wpAny_bind (wpAny_pure (wpAny_bind (T0.at (wpAny_bind ((looks_find (M := model prog w) X I (br_findClass hdct ha hn htk od)).at ?_)))))
  show wpAny _ _ (holding [Value.builtin "object.__class__"] (call (.builtin "getset_descriptor.__get__") [.builtin "object.__class__", .ref x, .ref D]) >>= ret) _ _ _
  refine wpAny_bind (wpAny_holding (wpAny_call (class_get (s := ⟨hp, g, d, t + 1, os⟩) (ox := ox) (od := od) X I hm ?_)))
  refine wpAny_pure ?_
  show wpAny _ _ (handedOut (.ref D)) _ _ _
  rw [handedOut_of (v := .ref D) rfl]
  first
    | exact wpAny_pure (wpAny_pure h)
    | exact wpAny_pure h
    | exact wpAny_pure (wpAny_bind (wpAny_pure (wpAny_pure h)))
theorem br_kitx (hga : findIn K (.ref D) "__getattribute__" = some (some (.builtin "BaseException.__getattribute__"))) (hgt : findIn K (.ref D) "__getattr__" = some none) (hsub : subIn K (.ref D) (.type "BaseException") = some true) (hdct : hasDictIn K D = true) (ha : findIn K (.ref D) "__class__" = some (some (.builtin "object.__class__")))
    (hn : specialIn K (.builtin "object.__class__") "__get__" = some (some (.builtin "getset_descriptor.__get__"))) (htk : takesIn K (.builtin "object.__class__") = some true) (hm : mroIn K D (.type "object") = some true) (od : Option Obj) :
    KitX K (.ref x) (.ref D) (fun h => InstAt h x ox D od) :=
  have Z := handS_kitx_exc (x := x) (ox := ox) hga hgt hsub hdct ha hn htk hm
  have own : ∀ {o : Obj}, K.lookup D = some o → True := fun _ => trivial
  { ty := fun _ _ _ I => I.type
    it := fun M h X _ => by
      obtain ⟨cd, hc, _⟩ := any_some hdct
      unfold clsIn at hc
      split at hc
      · rename_i c' d' cd' sl' ho
        intro A' Q' E' s' k q
        unfold isType loadHead
        exact wpAny_bind (wpAny_loadPart (k _ _ (X _ _ ho)) (wpAny_pure q))
      · cases hc
    ne := Z.ne
    ca := fun X I k => br_classOf hga hgt hsub hdct ha hn htk hm X od I k }
end
end PySem.W
namespace BR
open PySem PySem.Spec PyProof.Rows L2
def eIsXF (sub : Nat → Bool) (e : EE) : EE := fun σ h => (e σ h).bind fun d h1 => match d with
  | .non => .ok (.bl false) h1
  | .ref n => match h1[n]? with
    | some (.exo c) => .ok (.bl (sub c)) h1
    | some (.exf c _) => .ok (.bl (sub c)) h1
    | _ => .bad
  | _ => .bad
def rIsXF (ct : CT) (y : V) (sub : Nat → Bool) : List V → Hp → VK → Prop := fun xs H Q => ∃ x : V, xs = [x, y] ∧
  ((x = .non ∧ Q (.bl false) H) ∨ ∃ (a : Addr) (c : Nat) (d : Option Addr), x = .ref a ∧ H a = some (.ext (excF (.ref (ct c).1) d a)) ∧ (d = none ∨ ∃ dd fs, d = some dd ∧ H dd = some (.xd fs)) ∧ Q (.bl (sub c)) H)
section
variable {ct : CT} {X : Cx} {C : Value} {yv : V} {sub : Nat → Bool}
theorem inst_at {P : Program} {wd : World} {H : Hp} {hh : Heap} {a D : Addr} {d : Option Addr} (ok : HOk P wd H hh) (ea : H a = some (.ext (excF (.ref D) d a))) (ed : d = none ∨ ∃ dd fs, d = some dd ∧ H dd = some (.xd fs)) : ∃ oe od, PySem.W.InstAt hh a oe D od := by
  obtain ⟨⟨oe, hget, ⟨z1, z2, z3⟩, vs, hv⟩, -⟩ := (show ObjOk P wd H hh a (.ext (excF (.ref D) d a)) from ok a _ ea)
  have nc : PySem.W.notCls oe := by unfold PySem.W.notCls; rw [hv] <;> rfl
  rcases ed with rfl | ⟨dd, fs, rfl, ex⟩
  · exact ⟨oe, none, hget, z1, nc, by rw [z2]; trivial⟩
  · have hx : ObjOk P wd H hh dd (.xd fs) := ok dd _ ex
    obtain ⟨mA, hns, hr⟩ := hx
    obtain ⟨od, ho, hl⟩ := lookIn_ns hns
    exact ⟨oe, some od, hget, z1, nc, by rw [z2]; exact ho⟩
theorem call_isXF (hy : ∀ u, RelV yv u → u = C) (hE : ∀ c, ExcC X.K (ct c).1) (hS : ∀ c, PySem.W.kitOne X.K (.ref (ct c).1) C = some (sub c)) (hN : PySem.W.kitOne X.K (.type "NoneType") C = some false) : CallR X (.builtin "isinstance") (rIsXF ct yv sub) := by
  intro pins s σ H xs us Q I r h
  obtain ⟨x, rfl, h⟩ := h
  obtain ⟨u1, u2, rfl, r1, r2⟩ := vals2 r
  cases hy u2 r2
  rcases h with ⟨rfl, q⟩ | ⟨a, c, d, rfl, ea, ed, q⟩
  · obtain ⟨P, Z, p, hx⟩ := kit_of I r1 (.base .non)
    exact PySem.W.kia_one Z I.kIn p hN hx fun tk => ⟨.bl false, H, I.tok tk, rfl, q⟩
  · cases (show u1 = Value.ref a from r1)
    obtain ⟨oe, od, J⟩ := inst_at I.hok ea ed
    have E := hE c
    exact PySem.W.kia_one (PySem.W.br_kitx E.hg E.hk E.hs E.hd E.ha E.hn E.ht E.hm od) I.kIn J (hS c) (fun z => nomatch z) fun tk => ⟨.bl (sub c), H, I.tok tk, rfl, q⟩
variable {fe fo : EE} {ha : EA} {e o : Expr} {es : List Expr} {x y f : Str} {p p2 pos : Pos} {c k j : Nat}
theorem se_isXF' (hy : ∀ u, RelV yv u → u = C) (py : PE X (.Name y p2) (tC yv)) (hE : ∀ c, ExcC X.K (ct c).1) (hS : ∀ c, PySem.W.kitOne X.K (.ref (ct c).1) C = some (sub c)) (hN : PySem.W.kitOne X.K (.type "NoneType") C = some false) (b : Bl X.mg) (h1 : SE ct X e fe)
    (hg : Gl X "isinstance" := by rfl) (s1 : starEach [e, .Name y p2] X.env = (false, eval e X.env) :: starEach [.Name y p2] X.env := by rfl)
    (s2 : starEach [.Name y p2] X.env = (false, eval (.Name y p2) X.env) :: starEach [] X.env := by rfl) (hpl : (backTo pos (starEach [.Name y p2] X.env)).any (·.1) = false := by rfl) :
    SE ct X (.Call (.Name "isinstance" p) [e, .Name y p2] [] pos) (eIsXF sub fe) := by
  refine pe_imp (pe_callB (call_isXF hy hE hS hN) hg b.isinstance boot_isinstance (pa_cons h1 (pa_cons py pa_nil s2) s1) (he := s1) (hpl := hpl)) fun σ H Q ⟨w, h, σd, sr, rs, q⟩ => ?_
  refine ⟨w, h, σd, sr, rs, (okR.bind (rel := rV X.K) q).imp fun v H1 ⟨w1, h1, d, st1, sr1, r1, q1⟩ => ?_⟩
  cases d with
  | non => cases (show v = .non from r1); exact ⟨.non, rfl, .inl ⟨rfl, okR.here q1 sr1 rfl⟩⟩
  | ref n =>
    obtain ⟨a, e1, e2⟩ := r1
    subst e1
    dsimp only at q1
    split at q1
    · rename_i c ec
      exact ⟨.ref a, rfl, .inr ⟨a, c, none, rfl, sr1.ob n _ a ec e2, .inl rfl, okR.here q1 sr1 rfl⟩⟩
    · rename_i c d' ec
      obtain ⟨dd, v, h3, h4, h5⟩ := sr1.ob n _ a ec e2
      exact ⟨.ref a, rfl, .inr ⟨a, c, some dd, rfl, h3, .inr ⟨dd, _, rfl, h4⟩, okR.here q1 sr1 rfl⟩⟩
    · exact q1.elim
  | _ => exact q1.elim
theorem se_isXF {C : Addr} (hE : ∀ c, ExcC X.K (ct c).1) (hS : ∀ c, PySem.W.kitOne X.K (.ref (ct c).1) (.ref C) = some (sub c)) (hN : PySem.W.kitOne X.K (.type "NoneType") (.ref C) = some false) (b : Bl X.mg) (h1 : SE ct X e fe) (gy : Gl X y) (my : X.mg y = some (.ref C))
    (hd : (y == ("__debug__" : Str)) = false := by decide) (hg : Gl X "isinstance" := by rfl) (s1 : starEach [e, .Name y p2] X.env = (false, eval e X.env) :: starEach [.Name y p2] X.env := by rfl)
    (s2 : starEach [.Name y p2] X.env = (false, eval (.Name y p2) X.env) :: starEach [] X.env := by rfl) (hpl : (backTo pos (starEach [.Name y p2] X.env)).any (·.1) = false := by rfl) :
    SE ct X (.Call (.Name "isinstance" p) [e, .Name y p2] [] pos) (eIsXF sub fe) :=
  se_isXF' (yv := .ref C) (fun u r => r) ⟨fun pins s σ H Q I q => ld_glob I gy my ⟨.ref C, H, I, rfl, q⟩ hd⟩ hE hS hN b h1 hg s1 s2 hpl
theorem se_isTF {T : String} (hE : ∀ c, ExcC X.K (ct c).1) (hS : ∀ c, PySem.W.kitOne X.K (.ref (ct c).1) (.type T) = some (sub c)) (hN : PySem.W.kitOne X.K (.type "NoneType") (.type T) = some false) (b : Bl X.mg) (h1 : SE ct X e fe) (gy : Gl X y) (my : X.mg y = none) (hv : bootBuiltins y = some (.type T))
    (hn : y ≠ "__name__" := by decide) (hd : (y == ("__debug__" : Str)) = false := by decide) (hg : Gl X "isinstance" := by rfl) (s1 : starEach [e, .Name y p2] X.env = (false, eval e X.env) :: starEach [.Name y p2] X.env := by rfl)
    (s2 : starEach [.Name y p2] X.env = (false, eval (.Name y p2) X.env) :: starEach [] X.env := by rfl) (hpl : (backTo pos (starEach [.Name y p2] X.env)).any (·.1) = false := by rfl) :
    SE ct X (.Call (.Name "isinstance" p) [e, .Name y p2] [] pos) (eIsXF sub fe) :=
  se_isXF' (yv := .ty T) (fun u r => r) (pe_tyv my hv gy hn hd) hE hS hN b h1 hg s1 s2 hpl
def eMkX (c : Nat) (e : EE) : EE := fun σ h => (e σ h).bind fun _ h1 => .ok (.ref h1.length) (h1 ++ [.exo c])
def eMkF (c : Nat) (a : EA) : EE := fun σ h => (a σ h).bind fun ds h1 => match ds with
  | [d] => .ok (.ref h1.length) (h1 ++ [.exf c d])
  | _ => .bad
def eXf (cs : Nat → Bool) (o : EE) : EE := fun σ h => (o σ h).bind fun d h1 => match d with
  | .ref n => match h1[n]? with
    | some (.exf c d') => if cs c = true then .ok d' h1 else .bad
    | _ => .bad
  | _ => .bad
theorem io_last {w : W} {a : Addr} {h : Hd} (e : w.io.length = h.length) : (w.io ++ [a])[h.length]? = some a := by
  rw [List.getElem?_append_right (by rw [e]; exact Nat.le_refl _), e, Nat.sub_self]; rfl
theorem se_mkX (E : ExcAt X.K X.mg ct c x) (h1 : SE ct X e fe) (hg : Gl X x := by rfl) (hs : starEach [e] X.env = (false, eval e X.env) :: starEach [] X.env := by rfl) (hdb : (x == ("__debug__" : Str)) = false := by decide) :
    SE ct X (.Call (.Name x p) [e] [] pos) (eMkX c fe) := pe_imp (pe_exv PySem.F.excBase_ValueError E.q E.gC E.kC hg h1 hs hdb) fun σ H Q ⟨w, h, σd, sr, rs, q⟩ => by
  refine ⟨w, h, σd, sr, rs, (okR.bind (rel := rV X.K) q).imp fun v H1 ⟨w1, h1, d, st1, sr1, r1, q1⟩ a ha => ?_⟩
  exact q1 ⟨w1.io ++ [a], w1.rs⟩ _ (V.ref a) (Step.new sr1 ha) (sr1.new ha upd_same) ⟨a, rfl, io_last sr1.len⟩
/-- __init__ of an exception's class: its one argument becomes its field -/
structure KnE (P : Program) (wd : World) (K : PySem.W.Frag) (mg : Str → Option Value) (base : Heap) (ct : CT) (k : Nat) (c : Nat) (x : Str) : Prop where
  ex : ∃ (fI : Addr) (fd : FuncData) (ps : List Str), OexC K (ct c).1 ∧ PySem.W.findIn K (.ref (ct c).1) "__init__" = some (some (.ref fI)) ∧ PySem.W.typeIn K (.ref fI) = some (.type "function") ∧
    FnG P wd K mg base CX0 k fI fd ps (spEI (ct c).1 (ct.fld c)) ∧ Binds K fd ps [] ∧ mg x = some (.ref (ct c).1)
theorem se_mkF (k0 : KnE X.prog X.w X.K X.mg X.base ct k c x) (hr : Rm j X.A) (hk : k + 1 ≤ j) (h1 : SA ct X (e :: es) ha) (hg : Gl X x := by rfl)
    (hdb : (x == ("__debug__" : Str)) = false := by decide) (he : starEach (e :: es) X.env = (false, eval e X.env) :: starEach es X.env := by rfl) (hpl : (backTo pos (starEach es X.env)).any (·.1) = false := by rfl) :
    SE ct X (.Call (.Name x p) (e :: es) [] pos) (eMkF c ha) := by
  obtain ⟨fI, fd, ps, T, iC, tI, F, b, hm⟩ := k0.ex
  refine pe_imp (pe_oexV T iC tI F (hr.mono hk) b hg hm h1 hdb he hpl) fun σ H Q ⟨w, h, σd, sr, rs, q⟩ => ?_
  refine ⟨w, h, σd, sr, rs, (okR.bind (rel := rVs X.K) q).imp fun vs H1 ⟨w1, h1, ds, st1, sr1, r1, q1⟩ => ?_⟩
  split at q1
  · rename_i d
    obtain ⟨v, r, ev, rd, er⟩ := r1
    cases (show r = [] from er)
    refine ⟨v, ev, fun a dd ha hd ne => ?_⟩
    have s2 : Step X.K w1 H1 w1 (upd H1 dd (.xd [(ct.fld c, v)])) := Step.alloc sr1 hd
    have sr2 : SR X.K w1 (upd H1 dd (.xd [(ct.fld c, v)])) ct h1 := sr1.alloc hd
    have ha2 : upd H1 dd (.xd [(ct.fld c, v)]) a = none := by rw [upd_ne ne.symm]; exact ha
    have s3 : Step X.K w1 (upd H1 dd (.xd [(ct.fld c, v)])) ⟨w1.io ++ [a], w1.rs⟩ (upd (upd H1 dd (.xd [(ct.fld c, v)])) a (.ext (excF (.ref (ct c).1) (some dd) a))) := Step.new sr2 ha2
    exact q1 ⟨w1.io ++ [a], w1.rs⟩ _ (V.ref a) (s2.trans s3) (sr2.new ha2 ⟨dd, v, upd_same, by rw [upd_ne ne]; exact upd_same, (s2.trans s3).rd _ _ rd⟩) ⟨a, rfl, io_last sr1.len⟩
  · exact q1.elim
/-- x.f, x an exception with a field -/
theorem se_xf {cs : Nat → Bool} (T : ∀ c, cs c = true → XfC X.K (ct c).1 ∧ PySem.W.findIn X.K (.ref (ct c).1) f = some none ∧ ct.fld c = f) (h1 : SE ct X o fo) (hb : attributeBase o f X.env (eval o X.env) = eval o X.env := by rfl) : SE ct X (.Attribute o f pos) (eXf cs fo) := by
  refine pe_imp (pe_xvA (PC := fun C => ∃ c, cs c = true ∧ C = (ct c).1) (fun C ⟨c, hc, e⟩ => by subst e; exact ⟨(T c hc).1, (T c hc).2.1⟩) h1 hb) fun σ H Q ⟨w, h, σd, sr, rs, q⟩ => ?_
  refine ⟨w, h, σd, sr, rs, (okR.bind (rel := rV X.K) q).imp fun v H1 ⟨w1, h1, d, st1, sr1, r1, q1⟩ => ?_⟩
  split at q1
  · rename_i n
    split at q1
    · rename_i c d' ec
      by_cases hc : cs c = true
      · rw [if_pos hc] at q1
        obtain ⟨a, e1, e2⟩ := r1
        obtain ⟨dd, u, h3, h4, h5⟩ := sr1.ob n _ a ec e2
        rw [(T c hc).2.2] at h4
        exact ⟨(ct c).1, a, dd, _, u, ⟨c, hc, rfl⟩, e1, h3, h4, by simp, q1.here sr1 h5⟩
      · rw [if_neg hc] at q1; exact q1.elim
    · exact q1.elim
  · exact q1.elim
end
end BR

namespace BR
open PySem PySem.Spec PyProof.Rows L2
def oexIn (K : PySem.W.Frag) (C : Addr) : Bool := match K.lookup C with
  | some ⟨.type "type", _, .cls cd, sl⟩ => (match cd.mro, sl.toList with
    | .ref C' :: bm, [_, _, _, _, some (.builtin n), _] => C' == C && (n == "ValueError.__new__" && (!cd.hasDel && (cd.hasDict && PySem.HandSPX.refsVE bm)))
    | _, _ => false)
  | _ => false
section
variable {P : Program} {wd : World} {K : PySem.W.Frag} {mg : Str → Option Value} {base : Heap} {ct : CT} {C : Addr}
theorem oex_cls (q : oexIn K C = true) : ∃ nm q N bs bm sn sub ab col dd k0 k1 k2 k3 k5, K.lookup C = some (excClassObj nm q C N bs bm true sn sub ab col dd k0 k1 k2 k3 k5 "ValueError.__new__") ∧ PySem.HandSPX.refsVE bm = true := by
  unfold oexIn at q
  split at q
  · rename_i dd cd sl ho
    split at q
    · rename_i C' bm k0 k1 k2 k3 n k5 hm hs
      simp only [Bool.and_eq_true, beq_iff_eq, Bool.not_eq_true'] at q
      obtain ⟨rfl, rfl, hdel, hdc, hv⟩ := q
      obtain ⟨nm, bs, mro, ns, qn, hd, sn, sub, ab, col, del⟩ := cd
      dsimp only at hm hdel hdc
      subst hm hdel hdc
      have hsl : sl = #[k0, k1, k2, k3, some (.builtin "ValueError.__new__"), k5] := by
        obtain ⟨l⟩ := sl
        simp only at hs
        rw [hs]
      subst hsl
      exact ⟨nm, qn, ns, bs, bm, sn, sub, ab, col, dd, k0, k1, k2, k3, k5, ho, hv⟩
    · cases q
  · cases q
/-- the __init__ by its text -/
theorem knE_mk {k c : Nat} {x fl qual m self y : Str} {st : Stmt} {fI : Addr} {fd : FuncData} (F : Fun K "__init__" qual st fI fd) (S : FnScope [self, y] [self, y] (defScope st)) (b : Binds K fd [self, y] []) (T : OexC K (ct c).1)
    (iC : PySem.W.findIn K (.ref (ct c).1) "__init__" = some (some (.ref fI))) (tI : PySem.W.typeIn K (.ref fI) = some (.type "function")) (hx : mg x = some (.ref (ct c).1)) (hf : ct.fld c = fl) (hno : PySem.W.findIn K (.ref (ct c).1) fl = some none)
    (hb : ∀ (cdv : Value) (A : Around) (outer : List Env) (s : Shared) (H : Hp) (E : XK), Rm k (A.deeper (envOfC qual (defScope st) s.heap.objs.size fI cdv)) →
      PSs (cxOf CX0 P wd K mg base [self, y] qual (defScope st) fI cdv A outer s H E) (defBody st) (tSeq (tDrop (tVeI K (tCons (tVar 0) (tCons (tC (.str m)) tNil)))) (tOst K fl (tVar 0) (tVar 1)))) : KnE P wd K mg base ct (k + 1) c x := by
  subst hf
  refine ⟨⟨fI, fd, [self, y], T, iC, tI, fnG_of F S (fun as H Q E h => ?_) fun cdv A up s H as Q E hr h => ⟨_, hb cdv A up s H E hr, ei_run T hno rfl h⟩, b, hx⟩⟩
  obtain ⟨a, v, rfl, _⟩ := h
  rfl
end
end BR
namespace BR
open PySem PySem.Spec PyProof.Rows L2
/-- exceptions' classes, the names of their fields -/
def ctF (l : List (Nat × Addr)) (fl : List (Nat × Str)) : CT := { ex := fun c => (l.lookup c).getD (l.headD (0, 0)).2, fld := fun c => (fl.lookup c).getD Str.empty }
theorem ctF_all {P : Nat → Addr → Prop} {l : List (Nat × Addr)} {fl : List (Nat × Str)} (h0 : l ≠ []) (h : ∀ p ∈ l, P p.1 p.2) (c : Nat) : P (cn (l.map (·.1)) c) (ctF l fl c).1 := ctP_all (P := P) h0 h c
theorem binds_mk {K : PySem.W.Frag} {qual : Str} {st : Stmt} {ps : List Str} {f : Addr} {fd : FuncData} (F : Fun K "__init__" qual st f fd)
    (hb : ∀ (kV doc pm : Value) (an : Option Addr) (cdv ct : Value) (us : List Value), us.length = ps.length → bindArgs (PySem.W.fnOf "__init__" qual (defArgs st) (defBody st) (defScope st) .none kV doc pm an cdv ct) ⟨us, []⟩ = pure (ps.zip us)) : Binds K fd ps [] := F.binds hb
end BR

namespace BR
open PySem PySem.Spec PyProof.Rows L2
/-- _law_all: 0 _law_word, 1 _law_some, 2 _law_number, 3 _law_name, 4 _law_thing, 5 _law_first -/
noncomputable def f_law_all : EF := fnK 2 6
  (sSeq (sAsg (eVar 1) (gTup [(gVar 2), (gVar 3), (gVar 4)]))
  (sSeq (sAsg (eLst (aCons (eMkX 0 (eVar 0)) (aCons (eMkX 1 (eVar 0)) (aCons (eMkX 2 (eVar 0)) (aCons (eMkX 4 (eVar 0)) (aCons (eMkX 5 (eVar 0)) (aCons (eMkX 6 (eVar 0)) (aCons (eMkX 7 (eVar 0)) aNil)))))))) (gVar 5))
  (sSeq (sAsg (eAp2 gAdd (eVar 5) (eLst (aCons (eMkX 8 (eVar 0)) (aCons (eMkX 9 (eVar 0)) (aCons (eMkX 10 (eVar 0)) (aCons (eMkX 11 (eVar 0)) (aCons (eMkX 3 (eVar 0)) aNil))))))) (gVar 5))
  (sRet (eAp2 gAdd (eVar 5) (eLst (aCons (eMkF 12 (aCons (eVar 2) aNil)) (aCons (eMkF 13 (aCons (eVar 4) aNil)) (aCons (eMkF 14 (aCons (eVar 3) aNil)) (aCons (eMkF 15 (aCons (eVar 3) aNil)) (aCons (eMkF 16 (aCons (eVar 2) aNil)) (aCons (eMkF 17 (aCons (eVar 2) aNil)) aNil))))))))))))
theorem f_law_all_bad : ∀ (ds : List D) (h : Hd), ds.length ≠ 2 → f_law_all ds h = .bad := fun ds h e => fnK_bad ds h e
/-- _law_kinds: 0 _law_one, 1 _law_found -/
noncomputable def f_law_kinds : EF := fn 1 2
  (sSeq (sAsg (eLst (aCons (eIsXF (subP [0, 1, 2, 3, 4, 5, 6, 7, 8, 9, 10, 11, 12, 13, 14, 15, 16, 17] 0) (eVar 0)) (aCons (eIsXF (subP [0, 1, 2, 3, 4, 5, 6, 7, 8, 9, 10, 11, 12, 13, 14, 15, 16, 17] 1) (eVar 0)) (aCons (eIsXF (subP [0, 1, 2, 3, 4, 5, 6, 7, 8, 9, 10, 11, 12, 13, 14, 15, 16, 17] 2) (eVar 0)) (aCons (eIsXF (subP [0, 1, 2, 3, 4, 5, 6, 7, 8, 9, 10, 11, 12, 13, 14, 15, 16, 17] 4) (eVar 0)) aNil))))) (gVar 1))
  (sSeq (sAsg (eAp2 gAdd (eVar 1) (eLst (aCons (eIsXF (subP [0, 1, 2, 3, 4, 5, 6, 7, 8, 9, 10, 11, 12, 13, 14, 15, 16, 17] 5) (eVar 0)) (aCons (eIsXF (subP [0, 1, 2, 3, 4, 5, 6, 7, 8, 9, 10, 11, 12, 13, 14, 15, 16, 17] 6) (eVar 0)) (aCons (eIsXF (subP [0, 1, 2, 3, 4, 5, 6, 7, 8, 9, 10, 11, 12, 13, 14, 15, 16, 17] 7) (eVar 0)) aNil))))) (gVar 1))
  (sSeq (sAsg (eAp2 gAdd (eVar 1) (eLst (aCons (eIsXF (subP [0, 1, 2, 3, 4, 5, 6, 7, 8, 9, 10, 11, 12, 13, 14, 15, 16, 17] 8) (eVar 0)) (aCons (eIsXF (subP [0, 1, 2, 3, 4, 5, 6, 7, 8, 9, 10, 11, 12, 13, 14, 15, 16, 17] 9) (eVar 0)) (aCons (eIsXF (subP [0, 1, 2, 3, 4, 5, 6, 7, 8, 9, 10, 11, 12, 13, 14, 15, 16, 17] 10) (eVar 0)) (aCons (eIsXF (subP [0, 1, 2, 3, 4, 5, 6, 7, 8, 9, 10, 11, 12, 13, 14, 15, 16, 17] 11) (eVar 0)) aNil)))))) (gVar 1))
  (sSeq (sAsg (eAp2 gAdd (eVar 1) (eLst (aCons (eIsXF (subP [0, 1, 2, 3, 4, 5, 6, 7, 8, 9, 10, 11, 12, 13, 14, 15, 16, 17] 3) (eVar 0)) (aCons (eIsXF (subP [0, 1, 2, 3, 4, 5, 6, 7, 8, 9, 10, 11, 12, 13, 14, 15, 16, 17] 12) (eVar 0)) (aCons (eIsXF (subP [0, 1, 2, 3, 4, 5, 6, 7, 8, 9, 10, 11, 12, 13, 14, 15, 16, 17] 13) (eVar 0)) aNil))))) (gVar 1))
  (sSeq (sAsg (eAp2 gAdd (eVar 1) (eLst (aCons (eIsXF (subP [0, 1, 2, 3, 4, 5, 6, 7, 8, 9, 10, 11, 12, 13, 14, 15, 16, 17] 14) (eVar 0)) (aCons (eIsXF (subP [0, 1, 2, 3, 4, 5, 6, 7, 8, 9, 10, 11, 12, 13, 14, 15, 16, 17] 15) (eVar 0)) (aCons (eIsXF (subP [0, 1, 2, 3, 4, 5, 6, 7, 8, 9, 10, 11, 12, 13, 14, 15, 16, 17] 16) (eVar 0)) aNil))))) (gVar 1))
  (sRet (eAp2 gAdd (eVar 1) (eLst (aCons (eIsXF (subP [0, 1, 2, 3, 4, 5, 6, 7, 8, 9, 10, 11, 12, 13, 14, 15, 16, 17] 17) (eVar 0)) aNil)))))))))
theorem f_law_kinds_bad : ∀ (ds : List D) (h : Hd), ds.length ≠ 1 → f_law_kinds ds h = .bad := fun ds h e => fn_bad ds h e
/-- law: 0 _law_script, 1 _law_pen, 2 _law_turn, 3 _law_thing, 4 _law_word, 5 _law_number, 6 _law_name, 7 _law_some, 8 _law_k, 9 _law_one, 10 _law_fields, 11 _law_j -/
noncomputable def f_law04 : EF := fn 1 12
  (sSeq (sAsg (eAp f_law_open (aCons (eVar 0) aNil)) (gVar 1))
  (sSeq (sFor (gVar 2) (iRg1 (aCons (eC (.int 3)) aNil)) (sSeq (sAsg (eAp2 gIx (eLst (aCons (eC (.str "")) (aCons (eC (.str "web")) (aCons (eC (.str "b")) (aCons (eC (.str "zz")) (aCons (eC (.str "0")) (aCons (eC (.str "-3")) (aCons (eC (.str "none")) (aCons (eC (.str "A")) (aCons (eC (.str "a b")) aNil)))))))))) (eAp f_law_take (aCons (eVar 1) (aCons (eC (.int 9)) aNil)))) (gVar 3))
  (sSeq (sAsg (eAp2 gIx (eLst (aCons (eC (.str "")) (aCons (eC (.str "a word")) (aCons (eC (.str "none")) aNil)))) (eAp f_law_take (aCons (eVar 1) (aCons (eC (.int 3)) aNil)))) (gVar 4))
  (sSeq (sPar2 5 6 (aCons (eAp2 gIx (eLst (aCons (eC (.int 0)) (aCons (eC (.int 12)) (aCons (eAp f_law_take (aCons (eVar 1) (aCons (eAp2 gPow (eC (.int 10)) (eC (.int 30))) aNil))) aNil)))) (eAp f_law_take (aCons (eVar 1) (aCons (eC (.int 3)) aNil)))) (aCons (eAp2 gIx (eLst (aCons (eC (.str "a")) (aCons (eC (.str "web")) (aCons (eC (.str "zzzzzzzz")) aNil)))) (eAp f_law_take (aCons (eVar 1) (aCons (eC (.int 3)) aNil)))) aNil)))
  (sSeq (sAsg (eAp f_law_all (aCons (eVar 4) (aCons (eTup (aCons (eVar 5) (aCons (eVar 6) (aCons (eVar 3) aNil)))) aNil))) (gVar 7))
  (sSeq (sFor (gTup [(gVar 8), (gVar 9)]) (iEn (aCons (eVar 7) aNil)) (sSeq (sIf (tOr (tNot (tB (eIsXF (fun _ => true) (eVar 9)))) (tNot (tB (eIsXF (fun _ => true) (eVar 9))))) (sRet (eC (.bl false))) sNop)
  (sIf (tNot (tB (eAp f_law_same (aCons (eAp f_law_kinds (aCons (eVar 9) aNil)) (aCons (eLc false [11] (iRg1 (aCons (eC (.int 18)) aNil)) (gVar 11) tTT (lcOne (eAp2 gEq (eVar 11) (eVar 8)))) aNil))))) (sRet (eC (.bl false))) sNop)))
  (sSeq (sAsg (eLst (aCons (eXf (fun c => [12].contains c) (eAp2 gIx (eVar 7) (eC (.int 12)))) (aCons (eXf (fun c => [13, 14, 15].contains c) (eAp2 gIx (eVar 7) (eC (.int 13)))) (aCons (eXf (fun c => [13, 14, 15].contains c) (eAp2 gIx (eVar 7) (eC (.int 14)))) (aCons (eXf (fun c => [13, 14, 15].contains c) (eAp2 gIx (eVar 7) (eC (.int 15)))) (aCons (eXf (fun c => [16].contains c) (eAp2 gIx (eVar 7) (eC (.int 16)))) (aCons (eXf (fun c => [17].contains c) (eAp2 gIx (eVar 7) (eC (.int 17)))) aNil))))))) (gVar 10))
  (sIf (tNot (tB (eAp f_law_same (aCons (eVar 10) (aCons (eLst (aCons (eVar 5) (aCons (eVar 3) (aCons (eVar 6) (aCons (eVar 6) (aCons (eVar 5) (aCons (eVar 5) aNil))))))) aNil))))) (sRet (eC (.bl false))) sNop))))))))
  (sRet (eC (.bl true)))))
end BR

namespace BR
open PySem PySem.Spec PyProof.Rows L2
def top (i : Nat) : Stmt := PySem.Challenge.pw_burnrank_k04_refusals.main.body.getD i (.Pass ⟨0, 0, 0, 0⟩)
section
variable {wd : World} {K : PySem.W.Frag} {mg : Str → Option Value} {base : Heap} {ct : CT}
theorem sc__law_open : FnScope ["_law_script", "_law_cells", "_law_k", "_law_cell"] ["_law_script"] (defScope (top 21)) := ⟨rfl, rfl, rfl, by decide +kernel, rfl, by decide +kernel, by decide +kernel⟩
theorem k__law_open (bl : Bl mg) (D : Df K mg "_law_open" ["_law_script"] (top 21))     : Kn PySem.Challenge.pw_burnrank_k04_refusals wd K mg base ct 1 "_law_open" 1 f_law_open :=
  have sc := sc__law_open
  kn_mkK D sc rfl rfl fun f cdv A outer s H E hr =>
  (ss_cons (sx_asg (sb_listR bl (sa_cons (se_sl sl_ok (se_var (pv 0)) so_no (so_p se_int)) sa_nil)) (sg_var (pg_name sc.nd rfl (Or.inl rfl))))
  (ss_cons (sx_for PassesOwn.never rfl (sb_en bl (sa_cons (se_sl sl_ok (se_var (pv 0)) (so_p se_int) (so_p se_int)) sa_nil)) (sg_tup rfl (sgs_cons (sg_var (pg_name sc.nd rfl (Or.inl rfl))) (sgs_cons (sg_var (pg_name sc.nd rfl (Or.inl rfl))) sgs_nil))) (ss_one (sx_asg (se_op or_add (se_ix ix_ok (se_var (pv 1)) (se_op or_mod (se_var (pv 2)) se_int)) (se_var (pv 3))) (sg_sub (set_ok hr.hu) (se_var (pv 1)) (se_op or_mod (se_var (pv 2)) se_int)))))
  (ss_one (sx_ret (sd_lstR (sa_cons (se_var (pv 1)) (sa_cons se_int (sa_cons se_int sa_nil))))))))
theorem sc__law_all : FnScope ["_law_word", "_law_some", "_law_number", "_law_name", "_law_thing", "_law_first"] ["_law_word", "_law_some"] (defScope (top 26)) := ⟨rfl, rfl, rfl, by decide +kernel, rfl, by decide +kernel, by decide +kernel⟩
theorem k__law_all (bl : Bl mg) (D : Df K mg "_law_all" ["_law_word", "_law_some"] (top 26))   (E_NoChange : ExcAt K mg ct 11 "NoChange") (E_NoClass : ExcAt K mg ct 5 "NoClass") (E_NoDeed : ExcAt K mg ct 10 "NoDeed") (E_NoFiring : ExcAt K mg ct 2 "NoFiring") (E_NoHeap : ExcAt K mg ct 1 "NoHeap") (E_NoMap : ExcAt K mg ct 8 "NoMap") (E_NoOrder : ExcAt K mg ct 3 "NoOrder") (E_NoPlace : ExcAt K mg ct 4 "NoPlace") (E_NoTaking : ExcAt K mg ct 7 "NoTaking") (E_NoTie : ExcAt K mg ct 9 "NoTie") (E_NoTree : ExcAt K mg ct 6 "NoTree") (E_NoWeb : ExcAt K mg ct 0 "NoWeb") (e_Full : KnE PySem.Challenge.pw_burnrank_k04_refusals wd K mg base ct 1 16 "Full") (e_InUse : KnE PySem.Challenge.pw_burnrank_k04_refusals wd K mg base ct 1 15 "InUse") (e_NoMark : KnE PySem.Challenge.pw_burnrank_k04_refusals wd K mg base ct 1 17 "NoMark") (e_NoName : KnE PySem.Challenge.pw_burnrank_k04_refusals wd K mg base ct 1 13 "NoName") (e_Standing : KnE PySem.Challenge.pw_burnrank_k04_refusals wd K mg base ct 1 14 "Standing") (e_TooMany : KnE PySem.Challenge.pw_burnrank_k04_refusals wd K mg base ct 1 12 "TooMany")  : Kn PySem.Challenge.pw_burnrank_k04_refusals wd K mg base ct 3 "_law_all" 2 f_law_all :=
  have sc := sc__law_all
  kn_mkK D sc rfl rfl fun f cdv A outer s H E hr =>
  (ss_cons (sx_asg (se_var (pv 1)) (sg_tup rfl (sgs_cons (sg_var (pg_name sc.nd rfl (Or.inl rfl))) (sgs_cons (sg_var (pg_name sc.nd rfl (Or.inl rfl))) (sgs_cons (sg_var (pg_name sc.nd rfl (Or.inl rfl))) sgs_nil)))))
  (ss_cons (sx_asg (sd_lst (sa_cons (se_mkX E_NoWeb (se_var (pv 0))) (sa_cons (se_mkX E_NoHeap (se_var (pv 0))) (sa_cons (se_mkX E_NoFiring (se_var (pv 0))) (sa_cons (se_mkX E_NoPlace (se_var (pv 0))) (sa_cons (se_mkX E_NoClass (se_var (pv 0))) (sa_cons (se_mkX E_NoTree (se_var (pv 0))) (sa_cons (se_mkX E_NoTaking (se_var (pv 0))) sa_nil)))))))) (sg_var (pg_name sc.nd rfl (Or.inl rfl))))
  (ss_cons (sx_asg (se_op or_add (se_var (pv 5)) (sd_lst (sa_cons (se_mkX E_NoMap (se_var (pv 0))) (sa_cons (se_mkX E_NoTie (se_var (pv 0))) (sa_cons (se_mkX E_NoDeed (se_var (pv 0))) (sa_cons (se_mkX E_NoChange (se_var (pv 0))) (sa_cons (se_mkX E_NoOrder (se_var (pv 0))) sa_nil))))))) (sg_var (pg_name sc.nd rfl (Or.inl rfl))))
  (ss_one (sx_ret (se_op or_add (se_var (pv 5)) (sd_lst (sa_cons (se_mkF e_TooMany hr (by decide) (sa_cons (se_var (pv 2)) sa_nil)) (sa_cons (se_mkF e_NoName hr (by decide) (sa_cons (se_var (pv 4)) sa_nil)) (sa_cons (se_mkF e_Standing hr (by decide) (sa_cons (se_var (pv 3)) sa_nil)) (sa_cons (se_mkF e_InUse hr (by decide) (sa_cons (se_var (pv 3)) sa_nil)) (sa_cons (se_mkF e_Full hr (by decide) (sa_cons (se_var (pv 2)) sa_nil)) (sa_cons (se_mkF e_NoMark hr (by decide) (sa_cons (se_var (pv 2)) sa_nil)) sa_nil)))))))))))))
theorem sc__law_spread : FnScope ["_law_cell", "_law_at", "_law_primes", "_law_one", "_law_two", "_law_three"] ["_law_cell", "_law_at"] (defScope (top 22)) := ⟨rfl, rfl, rfl, by decide +kernel, rfl, by decide +kernel, by decide +kernel⟩
theorem k__law_spread (bl : Bl mg) (D : Df K mg "_law_spread" ["_law_cell", "_law_at"] (top 22))     : Kn PySem.Challenge.pw_burnrank_k04_refusals wd K mg base ct 1 "_law_spread" 2 f_law_spread :=
  have sc := sc__law_spread
  kn_mk D sc rfl rfl fun f cdv A outer s H E hr =>
  (ss_cons (sx_if (st_cmp or_ge (se_var (pv 0)) (se_op or_pow se_int se_int)) (ss_one (sx_ret (se_var (pv 0)))) ss_nil)
  (ss_cons (sx_asg (sd_lst (sa_cons se_int (sa_cons se_int (sa_cons se_int (sa_cons se_int (sa_cons se_int (sa_cons se_int (sa_cons se_int (sa_cons se_int sa_nil))))))))) (sg_var (pg_name sc.nd rfl (Or.inl rfl))))
  (ss_cons (sx_asg (se_op or_add (se_var (pv 2)) (sd_lst (sa_cons se_int (sa_cons se_int (sa_cons se_int (sa_cons se_int (sa_cons se_int sa_nil))))))) (sg_var (pg_name sc.nd rfl (Or.inl rfl))))
  (ss_cons (sx_asg (se_op or_mod (se_op or_pow (se_op or_add (se_op or_add (se_op or_mul (se_op or_mod (se_var (pv 0)) se_int) (se_op or_add (se_op or_mul se_int (se_var (pv 1))) se_int)) (se_op or_mul (se_var (pv 1)) se_int)) se_int) se_int) (se_ix ix_ok (se_var (pv 2)) (se_op or_mod (se_var (pv 1)) se_int))) (sg_var (pg_name sc.nd rfl (Or.inl rfl))))
  (ss_cons (sx_asg (se_op or_mod (se_op or_pow (se_op or_add (se_op or_add (se_op or_mul (se_var (pv 3)) (se_op or_add (se_var (pv 1)) se_int)) (se_op or_mod (se_var (pv 0)) se_int)) se_int) se_int) (se_ix ix_ok (se_var (pv 2)) (se_op or_mod (se_op or_add (se_var (pv 1)) se_int) se_int))) (sg_var (pg_name sc.nd rfl (Or.inl rfl))))
  (ss_cons (sx_asg (se_op or_mod (se_op or_pow (se_op or_add (se_op or_add (se_var (pv 4)) (se_op or_mod (se_var (pv 3)) se_int)) (se_var (pv 1))) se_int) (se_ix ix_ok (se_var (pv 2)) (se_op or_mod (se_op or_add (se_var (pv 1)) se_int) se_int))) (sg_var (pg_name sc.nd rfl (Or.inl rfl))))
  (ss_one (sx_ret (se_op or_add (se_op or_mul (se_op or_add (se_op or_mul (se_var (pv 3)) se_int) (se_var (pv 4))) se_int) (se_var (pv 5)))))))))))
theorem sc__law_take : FnScope ["_law_pen", "_law_many", "_law_at", "_law_cell", "_law_found"] ["_law_pen", "_law_many"] (defScope (top 23)) := ⟨rfl, rfl, rfl, by decide +kernel, rfl, by decide +kernel, by decide +kernel⟩
theorem k__law_take (bl : Bl mg) (D : Df K mg "_law_take" ["_law_pen", "_law_many"] (top 23)) (c__law_spread : Kn PySem.Challenge.pw_burnrank_k04_refusals wd K mg base ct 1 "_law_spread" 2 f_law_spread)    : Kn PySem.Challenge.pw_burnrank_k04_refusals wd K mg base ct 2 "_law_take" 2 f_law_take :=
  have sc := sc__law_take
  kn_mk D sc rfl rfl fun f cdv A outer s H E hr =>
  (ss_cons (sx_if (st_cmp or_lt (se_ix ix_ok (se_var (pv 0)) se_int) (se_var (pv 1))) (ss_cons (sx_asg (se_ix ix_ok (se_var (pv 0)) se_int) (sg_var (pg_name sc.nd rfl (Or.inl rfl))))
  (ss_cons (sx_asg se_int (sg_var (pg_name sc.nd rfl (Or.inl rfl))))
  (ss_cons (sx_if (st_cmp or_lt (se_var (pv 2)) (sb_len bl (sa_cons (se_ix ix_ok (se_var (pv 0)) se_int) sa_nil))) (ss_one (sx_asg (se_ix ix_ok (se_ix ix_ok (se_var (pv 0)) se_int) (se_var (pv 2))) (sg_var (pg_name sc.nd rfl (Or.inl rfl))))) (ss_one (sx_if (st_cmp or_gt (sb_len bl (sa_cons (se_ix ix_ok (se_var (pv 0)) se_int) sa_nil)) se_int) (ss_one (sx_asg (se_op or_mod (se_ix ix_ok (se_ix ix_ok (se_var (pv 0)) se_int) (se_op or_mod (se_op or_add (se_op or_mul (se_var (pv 2)) se_int) se_int) (sb_len bl (sa_cons (se_ix ix_ok (se_var (pv 0)) se_int) sa_nil)))) (se_op or_add (se_op or_pow se_int se_int) (se_var (pv 2)))) (sg_var (pg_name sc.nd rfl (Or.inl rfl))))) ss_nil)))
  (ss_cons (sx_asg (se_op or_add (se_var (pv 2)) se_int) (sg_sub (set_ok hr.hu) (se_var (pv 0)) se_int))
  (ss_one (sx_asg (se_call c__law_spread f_law_spread_bad hr (by decide) rfl (sa_cons (se_var (pv 3)) (sa_cons (se_var (pv 2)) sa_nil))) (sg_sub (set_ok hr.hu) (se_var (pv 0)) se_int))))))) ss_nil)
  (ss_cons (sx_asg (se_op or_mod (se_ix ix_ok (se_var (pv 0)) se_int) (se_var (pv 1))) (sg_var (pg_name sc.nd rfl (Or.inl rfl))))
  (ss_cons (sx_asg (se_op or_fdv (se_ix ix_ok (se_var (pv 0)) se_int) (se_var (pv 1))) (sg_sub (set_ok hr.hu) (se_var (pv 0)) se_int))
  (ss_one (sx_ret (se_var (pv 4)))))))
theorem sc__law_same : FnScope ["_law_found", "_law_due", "_law_one", "_law_other"] ["_law_found", "_law_due"] (defScope (top 24)) := ⟨rfl, rfl, rfl, by decide +kernel, rfl, by decide +kernel, by decide +kernel⟩
theorem k1__law_same {F : EF} {k : Nat} (hF : ∀ (ds : List D) (h : Hd), ds.length ≠ 2 → F ds h = .bad) (bl : Bl mg) (D : Df K mg "_law_same" ["_law_found", "_law_due"] (top 24)) (c__law_same : Kn PySem.Challenge.pw_burnrank_k04_refusals wd K mg base ct (0 + k) "_law_same" 2 F)     : Kn PySem.Challenge.pw_burnrank_k04_refusals wd K mg base ct (0 + k + 1) "_law_same" 2 (f_law_same_B F) :=
  have sc := sc__law_same
  kn_mk D sc rfl rfl fun f cdv A outer s H E hr =>
  (ss_cons (sx_if (st_w (sw_or (st_isN (se_var (pv 1))) (sw_or1 (st_isN (se_var (pv 0)))))) (ss_one (sx_ret (se_and (se_isN (se_var (pv 1))) (se_one (se_isN (se_var (pv 0))))))) ss_nil)
  (ss_cons (sx_if (st_w (sw_or (st_val (sb_is1 (by decide) bl (se_var (pv 1)) (ty_bool bl))) (sw_or1 (st_val (sb_is1 (by decide) bl (se_var (pv 0)) (ty_bool bl)))))) (ss_one (sx_ret (se_and (sb_is1 (by decide) bl (se_var (pv 1)) (ty_bool bl)) (se_and (sb_is1 (by decide) bl (se_var (pv 0)) (ty_bool bl)) (se_one (se_cmp (or_eq hr.units) (se_var (pv 0)) (se_var (pv 1)))))))) ss_nil)
  (ss_cons (sx_if (st_val (sb_is2 (by decide) (by decide) bl (se_var (pv 1)) (ty_int bl) (ty_str bl))) (ss_cons (sx_if (st_cmp (or_ne hr.units) (sb_is1 (by decide) bl (se_var (pv 0)) (ty_int bl)) (sb_is1 (by decide) bl (se_var (pv 1)) (ty_int bl))) (ss_one (sx_ret se_bl)) ss_nil)
  (ss_one (sx_ret (se_and (sb_is2 (by decide) (by decide) bl (se_var (pv 0)) (ty_int bl) (ty_str bl)) (se_one (se_cmp (or_eq hr.units) (se_var (pv 0)) (se_var (pv 1)))))))) ss_nil)
  (ss_cons (sx_if (st_w (sw_or (st_cmp (or_ne hr.units) (sb_is1 (by decide) bl (se_var (pv 1)) (ty_tuple bl)) (sb_is1 (by decide) bl (se_var (pv 0)) (ty_tuple bl))) (sw_or1 (st_cmp (or_ne hr.units) (sb_is1 (by decide) bl (se_var (pv 1)) (ty_list bl)) (sb_is1 (by decide) bl (se_var (pv 0)) (ty_list bl)))))) (ss_one (sx_ret se_bl)) ss_nil)
  (ss_cons (sx_if (st_cmp (or_ne hr.units) (sb_len bl (sa_cons (se_var (pv 0)) sa_nil)) (sb_len bl (sa_cons (se_var (pv 1)) sa_nil))) (ss_one (sx_ret se_bl)) ss_nil)
  (ss_one (sx_ret (se_cmp or_nin se_bl (sl_lc1 sc.nd rfl rfl (own := [("_law_one", 2), ("_law_other", 3)]) (sc := defScope (top 24)) (by decide +kernel) rfl (sb_zipN bl (sa_cons (se_var (pv 0)) (sa_cons (se_var (pv 1)) sa_nil))) (fun _ _ _ _ _ => (sw_tup rfl (sws_cons (sw_var (by decide) (pg_name sc.nd rfl (Or.inl rfl))) (sws_cons (sw_var (by decide) (pg_name sc.nd rfl (Or.inl rfl))) sws_nil)))) (fun _ _ _ _ _ => sts_nil) (fun _ _ _ _ _ => (se_call c__law_same hF hr (by omega) rfl (sa_cons (se_var (pv 2)) (sa_cons (se_var (pv 3)) sa_nil)))))))))))))
theorem kF__law_same (bl : Bl mg) (D : Df K mg "_law_same" ["_law_found", "_law_due"] (top 24))     : ∀ k : Nat, Kn PySem.Challenge.pw_burnrank_k04_refusals wd K mg base ct (0 + k) "_law_same" 2 (f_law_same_F k)
  | 0 => kn_zero D
  | k + 1 => k1__law_same (f_law_same_Fbad k) bl D (kF__law_same bl D  k) 
theorem k__law_same (bl : Bl mg) (D : Df K mg "_law_same" ["_law_found", "_law_due"] (top 24))     : Kn PySem.Challenge.pw_burnrank_k04_refusals wd K mg base ct 6 "_law_same" 2 f_law_same := kF__law_same bl D  6
theorem sc__law_kinds : FnScope ["_law_one", "_law_found"] ["_law_one"] (defScope (top 25)) := ⟨rfl, rfl, rfl, by decide +kernel, rfl, by decide +kernel, by decide +kernel⟩
theorem k__law_kinds (bl : Bl mg) (D : Df K mg "_law_kinds" ["_law_one"] (top 25))   (E_NoChange : ExcAt K mg ct 11 "NoChange") (E_NoClass : ExcAt K mg ct 5 "NoClass") (E_NoDeed : ExcAt K mg ct 10 "NoDeed") (E_NoFiring : ExcAt K mg ct 2 "NoFiring") (E_NoHeap : ExcAt K mg ct 1 "NoHeap") (E_NoMap : ExcAt K mg ct 8 "NoMap") (E_NoOrder : ExcAt K mg ct 3 "NoOrder") (E_NoPlace : ExcAt K mg ct 4 "NoPlace") (E_NoTaking : ExcAt K mg ct 7 "NoTaking") (E_NoTie : ExcAt K mg ct 9 "NoTie") (E_NoTree : ExcAt K mg ct 6 "NoTree") (E_NoWeb : ExcAt K mg ct 0 "NoWeb") (xE : ∀ c, ExcC K (ct c).1) (gC_Full : mg "Full" = some (.ref (ct 16).1)) (gC_InUse : mg "InUse" = some (.ref (ct 15).1)) (gC_NoMark : mg "NoMark" = some (.ref (ct 17).1)) (gC_NoName : mg "NoName" = some (.ref (ct 13).1)) (gC_Standing : mg "Standing" = some (.ref (ct 14).1)) (gC_TooMany : mg "TooMany" = some (.ref (ct 12).1)) (xn_Full : PySem.W.kitOne K (.type "NoneType") (.ref (ct 16).1) = some false) (xn_InUse : PySem.W.kitOne K (.type "NoneType") (.ref (ct 15).1) = some false) (xn_NoChange : PySem.W.kitOne K (.type "NoneType") (.ref (ct 11).1) = some false) (xn_NoClass : PySem.W.kitOne K (.type "NoneType") (.ref (ct 5).1) = some false) (xn_NoDeed : PySem.W.kitOne K (.type "NoneType") (.ref (ct 10).1) = some false) (xn_NoFiring : PySem.W.kitOne K (.type "NoneType") (.ref (ct 2).1) = some false) (xn_NoHeap : PySem.W.kitOne K (.type "NoneType") (.ref (ct 1).1) = some false) (xn_NoMap : PySem.W.kitOne K (.type "NoneType") (.ref (ct 8).1) = some false) (xn_NoMark : PySem.W.kitOne K (.type "NoneType") (.ref (ct 17).1) = some false) (xn_NoName : PySem.W.kitOne K (.type "NoneType") (.ref (ct 13).1) = some false) (xn_NoOrder : PySem.W.kitOne K (.type "NoneType") (.ref (ct 3).1) = some false) (xn_NoPlace : PySem.W.kitOne K (.type "NoneType") (.ref (ct 4).1) = some false) (xn_NoTaking : PySem.W.kitOne K (.type "NoneType") (.ref (ct 7).1) = some false) (xn_NoTie : PySem.W.kitOne K (.type "NoneType") (.ref (ct 9).1) = some false) (xn_NoTree : PySem.W.kitOne K (.type "NoneType") (.ref (ct 6).1) = some false) (xn_NoWeb : PySem.W.kitOne K (.type "NoneType") (.ref (ct 0).1) = some false) (xn_Standing : PySem.W.kitOne K (.type "NoneType") (.ref (ct 14).1) = some false) (xn_TooMany : PySem.W.kitOne K (.type "NoneType") (.ref (ct 12).1) = some false) (xk_Full : ∀ c, PySem.W.kitOne K (.ref (ct c).1) (.ref (ct 16).1) = some (subP [0, 1, 2, 3, 4, 5, 6, 7, 8, 9, 10, 11, 12, 13, 14, 15, 16, 17] 16 c)) (xk_InUse : ∀ c, PySem.W.kitOne K (.ref (ct c).1) (.ref (ct 15).1) = some (subP [0, 1, 2, 3, 4, 5, 6, 7, 8, 9, 10, 11, 12, 13, 14, 15, 16, 17] 15 c)) (xk_NoChange : ∀ c, PySem.W.kitOne K (.ref (ct c).1) (.ref (ct 11).1) = some (subP [0, 1, 2, 3, 4, 5, 6, 7, 8, 9, 10, 11, 12, 13, 14, 15, 16, 17] 11 c)) (xk_NoClass : ∀ c, PySem.W.kitOne K (.ref (ct c).1) (.ref (ct 5).1) = some (subP [0, 1, 2, 3, 4, 5, 6, 7, 8, 9, 10, 11, 12, 13, 14, 15, 16, 17] 5 c)) (xk_NoDeed : ∀ c, PySem.W.kitOne K (.ref (ct c).1) (.ref (ct 10).1) = some (subP [0, 1, 2, 3, 4, 5, 6, 7, 8, 9, 10, 11, 12, 13, 14, 15, 16, 17] 10 c)) (xk_NoFiring : ∀ c, PySem.W.kitOne K (.ref (ct c).1) (.ref (ct 2).1) = some (subP [0, 1, 2, 3, 4, 5, 6, 7, 8, 9, 10, 11, 12, 13, 14, 15, 16, 17] 2 c)) (xk_NoHeap : ∀ c, PySem.W.kitOne K (.ref (ct c).1) (.ref (ct 1).1) = some (subP [0, 1, 2, 3, 4, 5, 6, 7, 8, 9, 10, 11, 12, 13, 14, 15, 16, 17] 1 c)) (xk_NoMap : ∀ c, PySem.W.kitOne K (.ref (ct c).1) (.ref (ct 8).1) = some (subP [0, 1, 2, 3, 4, 5, 6, 7, 8, 9, 10, 11, 12, 13, 14, 15, 16, 17] 8 c)) (xk_NoMark : ∀ c, PySem.W.kitOne K (.ref (ct c).1) (.ref (ct 17).1) = some (subP [0, 1, 2, 3, 4, 5, 6, 7, 8, 9, 10, 11, 12, 13, 14, 15, 16, 17] 17 c)) (xk_NoName : ∀ c, PySem.W.kitOne K (.ref (ct c).1) (.ref (ct 13).1) = some (subP [0, 1, 2, 3, 4, 5, 6, 7, 8, 9, 10, 11, 12, 13, 14, 15, 16, 17] 13 c)) (xk_NoOrder : ∀ c, PySem.W.kitOne K (.ref (ct c).1) (.ref (ct 3).1) = some (subP [0, 1, 2, 3, 4, 5, 6, 7, 8, 9, 10, 11, 12, 13, 14, 15, 16, 17] 3 c)) (xk_NoPlace : ∀ c, PySem.W.kitOne K (.ref (ct c).1) (.ref (ct 4).1) = some (subP [0, 1, 2, 3, 4, 5, 6, 7, 8, 9, 10, 11, 12, 13, 14, 15, 16, 17] 4 c)) (xk_NoTaking : ∀ c, PySem.W.kitOne K (.ref (ct c).1) (.ref (ct 7).1) = some (subP [0, 1, 2, 3, 4, 5, 6, 7, 8, 9, 10, 11, 12, 13, 14, 15, 16, 17] 7 c)) (xk_NoTie : ∀ c, PySem.W.kitOne K (.ref (ct c).1) (.ref (ct 9).1) = some (subP [0, 1, 2, 3, 4, 5, 6, 7, 8, 9, 10, 11, 12, 13, 14, 15, 16, 17] 9 c)) (xk_NoTree : ∀ c, PySem.W.kitOne K (.ref (ct c).1) (.ref (ct 6).1) = some (subP [0, 1, 2, 3, 4, 5, 6, 7, 8, 9, 10, 11, 12, 13, 14, 15, 16, 17] 6 c)) (xk_NoWeb : ∀ c, PySem.W.kitOne K (.ref (ct c).1) (.ref (ct 0).1) = some (subP [0, 1, 2, 3, 4, 5, 6, 7, 8, 9, 10, 11, 12, 13, 14, 15, 16, 17] 0 c)) (xk_Standing : ∀ c, PySem.W.kitOne K (.ref (ct c).1) (.ref (ct 14).1) = some (subP [0, 1, 2, 3, 4, 5, 6, 7, 8, 9, 10, 11, 12, 13, 14, 15, 16, 17] 14 c)) (xk_TooMany : ∀ c, PySem.W.kitOne K (.ref (ct c).1) (.ref (ct 12).1) = some (subP [0, 1, 2, 3, 4, 5, 6, 7, 8, 9, 10, 11, 12, 13, 14, 15, 16, 17] 12 c))  : Kn PySem.Challenge.pw_burnrank_k04_refusals wd K mg base ct 1 "_law_kinds" 1 f_law_kinds :=
  have sc := sc__law_kinds
  kn_mk D sc rfl rfl fun f cdv A outer s H E hr =>
  (ss_cons (sx_asg (sd_lst (sa_cons (se_isXF xE xk_NoWeb xn_NoWeb bl (se_var (pv 0)) rfl E_NoWeb.gC) (sa_cons (se_isXF xE xk_NoHeap xn_NoHeap bl (se_var (pv 0)) rfl E_NoHeap.gC) (sa_cons (se_isXF xE xk_NoFiring xn_NoFiring bl (se_var (pv 0)) rfl E_NoFiring.gC) (sa_cons (se_isXF xE xk_NoPlace xn_NoPlace bl (se_var (pv 0)) rfl E_NoPlace.gC) sa_nil))))) (sg_var (pg_name sc.nd rfl (Or.inl rfl))))
  (ss_cons (sx_asg (se_op or_add (se_var (pv 1)) (sd_lst (sa_cons (se_isXF xE xk_NoClass xn_NoClass bl (se_var (pv 0)) rfl E_NoClass.gC) (sa_cons (se_isXF xE xk_NoTree xn_NoTree bl (se_var (pv 0)) rfl E_NoTree.gC) (sa_cons (se_isXF xE xk_NoTaking xn_NoTaking bl (se_var (pv 0)) rfl E_NoTaking.gC) sa_nil))))) (sg_var (pg_name sc.nd rfl (Or.inl rfl))))
  (ss_cons (sx_asg (se_op or_add (se_var (pv 1)) (sd_lst (sa_cons (se_isXF xE xk_NoMap xn_NoMap bl (se_var (pv 0)) rfl E_NoMap.gC) (sa_cons (se_isXF xE xk_NoTie xn_NoTie bl (se_var (pv 0)) rfl E_NoTie.gC) (sa_cons (se_isXF xE xk_NoDeed xn_NoDeed bl (se_var (pv 0)) rfl E_NoDeed.gC) (sa_cons (se_isXF xE xk_NoChange xn_NoChange bl (se_var (pv 0)) rfl E_NoChange.gC) sa_nil)))))) (sg_var (pg_name sc.nd rfl (Or.inl rfl))))
  (ss_cons (sx_asg (se_op or_add (se_var (pv 1)) (sd_lst (sa_cons (se_isXF xE xk_NoOrder xn_NoOrder bl (se_var (pv 0)) rfl E_NoOrder.gC) (sa_cons (se_isXF xE xk_TooMany xn_TooMany bl (se_var (pv 0)) rfl gC_TooMany) (sa_cons (se_isXF xE xk_NoName xn_NoName bl (se_var (pv 0)) rfl gC_NoName) sa_nil))))) (sg_var (pg_name sc.nd rfl (Or.inl rfl))))
  (ss_cons (sx_asg (se_op or_add (se_var (pv 1)) (sd_lst (sa_cons (se_isXF xE xk_Standing xn_Standing bl (se_var (pv 0)) rfl gC_Standing) (sa_cons (se_isXF xE xk_InUse xn_InUse bl (se_var (pv 0)) rfl gC_InUse) (sa_cons (se_isXF xE xk_Full xn_Full bl (se_var (pv 0)) rfl gC_Full) sa_nil))))) (sg_var (pg_name sc.nd rfl (Or.inl rfl))))
  (ss_one (sx_ret (se_op or_add (se_var (pv 1)) (sd_lst (sa_cons (se_isXF xE xk_NoMark xn_NoMark bl (se_var (pv 0)) rfl gC_NoMark) sa_nil))))))))))
theorem sc_TooMany : FnScope ["self", "many"] ["self", "many"] (defScope (inClass (top 14) 0)) := ⟨rfl, rfl, rfl, by decide +kernel, rfl, by decide +kernel, by decide +kernel⟩
theorem k_TooMany {CB fI : Addr} {fd : FuncData} (F : Fun K "__init__" "TooMany.__init__" (inClass (top 14) 0) fI fd) (b : Binds K fd ["self", "many"] []) (T : OexC K (ct 12).1) (iC : PySem.W.findIn K (.ref (ct 12).1) "__init__" = some (some (.ref fI))) (tI : PySem.W.typeIn K (.ref fI) = some (.type "function")) (hx : mg "TooMany" = some (.ref (ct 12).1)) (hf : ct.fld 12 = "many") (hno : PySem.W.findIn K (.ref (ct 12).1) "many" = some none) (mB : mg "BurnError" = some (.ref CB)) (IB : InitC K CB) : KnE PySem.Challenge.pw_burnrank_k04_refusals wd K mg base ct 1 12 "TooMany" :=
  have sc := sc_TooMany
  knE_mk F sc b T iC tI hx hf hno fun cdv A outer s H E hr => pss_cons (ps_expr (pe_beinit rfl mB IB (pa_cons (pv 0) (pa_cons pe_str pa_nil)))) (pss_one (ps_ost (pv 0) (pv 1)))
theorem sc_NoName : FnScope ["self", "name"] ["self", "name"] (defScope (inClass (top 15) 0)) := ⟨rfl, rfl, rfl, by decide +kernel, rfl, by decide +kernel, by decide +kernel⟩
theorem k_NoName {CB fI : Addr} {fd : FuncData} (F : Fun K "__init__" "NoName.__init__" (inClass (top 15) 0) fI fd) (b : Binds K fd ["self", "name"] []) (T : OexC K (ct 13).1) (iC : PySem.W.findIn K (.ref (ct 13).1) "__init__" = some (some (.ref fI))) (tI : PySem.W.typeIn K (.ref fI) = some (.type "function")) (hx : mg "NoName" = some (.ref (ct 13).1)) (hf : ct.fld 13 = "name") (hno : PySem.W.findIn K (.ref (ct 13).1) "name" = some none) (mB : mg "BurnError" = some (.ref CB)) (IB : InitC K CB) : KnE PySem.Challenge.pw_burnrank_k04_refusals wd K mg base ct 1 13 "NoName" :=
  have sc := sc_NoName
  knE_mk F sc b T iC tI hx hf hno fun cdv A outer s H E hr => pss_cons (ps_expr (pe_beinit rfl mB IB (pa_cons (pv 0) (pa_cons pe_str pa_nil)))) (pss_one (ps_ost (pv 0) (pv 1)))
theorem sc_Standing : FnScope ["self", "name"] ["self", "name"] (defScope (inClass (top 16) 0)) := ⟨rfl, rfl, rfl, by decide +kernel, rfl, by decide +kernel, by decide +kernel⟩
theorem k_Standing {CB fI : Addr} {fd : FuncData} (F : Fun K "__init__" "Standing.__init__" (inClass (top 16) 0) fI fd) (b : Binds K fd ["self", "name"] []) (T : OexC K (ct 14).1) (iC : PySem.W.findIn K (.ref (ct 14).1) "__init__" = some (some (.ref fI))) (tI : PySem.W.typeIn K (.ref fI) = some (.type "function")) (hx : mg "Standing" = some (.ref (ct 14).1)) (hf : ct.fld 14 = "name") (hno : PySem.W.findIn K (.ref (ct 14).1) "name" = some none) (mB : mg "BurnError" = some (.ref CB)) (IB : InitC K CB) : KnE PySem.Challenge.pw_burnrank_k04_refusals wd K mg base ct 1 14 "Standing" :=
  have sc := sc_Standing
  knE_mk F sc b T iC tI hx hf hno fun cdv A outer s H E hr => pss_cons (ps_expr (pe_beinit rfl mB IB (pa_cons (pv 0) (pa_cons pe_str pa_nil)))) (pss_one (ps_ost (pv 0) (pv 1)))
theorem sc_InUse : FnScope ["self", "name"] ["self", "name"] (defScope (inClass (top 17) 0)) := ⟨rfl, rfl, rfl, by decide +kernel, rfl, by decide +kernel, by decide +kernel⟩
theorem k_InUse {CB fI : Addr} {fd : FuncData} (F : Fun K "__init__" "InUse.__init__" (inClass (top 17) 0) fI fd) (b : Binds K fd ["self", "name"] []) (T : OexC K (ct 15).1) (iC : PySem.W.findIn K (.ref (ct 15).1) "__init__" = some (some (.ref fI))) (tI : PySem.W.typeIn K (.ref fI) = some (.type "function")) (hx : mg "InUse" = some (.ref (ct 15).1)) (hf : ct.fld 15 = "name") (hno : PySem.W.findIn K (.ref (ct 15).1) "name" = some none) (mB : mg "BurnError" = some (.ref CB)) (IB : InitC K CB) : KnE PySem.Challenge.pw_burnrank_k04_refusals wd K mg base ct 1 15 "InUse" :=
  have sc := sc_InUse
  knE_mk F sc b T iC tI hx hf hno fun cdv A outer s H E hr => pss_cons (ps_expr (pe_beinit rfl mB IB (pa_cons (pv 0) (pa_cons pe_str pa_nil)))) (pss_one (ps_ost (pv 0) (pv 1)))
theorem sc_Full : FnScope ["self", "most"] ["self", "most"] (defScope (inClass (top 18) 0)) := ⟨rfl, rfl, rfl, by decide +kernel, rfl, by decide +kernel, by decide +kernel⟩
theorem k_Full {CB fI : Addr} {fd : FuncData} (F : Fun K "__init__" "Full.__init__" (inClass (top 18) 0) fI fd) (b : Binds K fd ["self", "most"] []) (T : OexC K (ct 16).1) (iC : PySem.W.findIn K (.ref (ct 16).1) "__init__" = some (some (.ref fI))) (tI : PySem.W.typeIn K (.ref fI) = some (.type "function")) (hx : mg "Full" = some (.ref (ct 16).1)) (hf : ct.fld 16 = "most") (hno : PySem.W.findIn K (.ref (ct 16).1) "most" = some none) (mB : mg "BurnError" = some (.ref CB)) (IB : InitC K CB) : KnE PySem.Challenge.pw_burnrank_k04_refusals wd K mg base ct 1 16 "Full" :=
  have sc := sc_Full
  knE_mk F sc b T iC tI hx hf hno fun cdv A outer s H E hr => pss_cons (ps_expr (pe_beinit rfl mB IB (pa_cons (pv 0) (pa_cons pe_str pa_nil)))) (pss_one (ps_ost (pv 0) (pv 1)))
theorem sc_NoMark : FnScope ["self", "number"] ["self", "number"] (defScope (inClass (top 19) 0)) := ⟨rfl, rfl, rfl, by decide +kernel, rfl, by decide +kernel, by decide +kernel⟩
theorem k_NoMark {CB fI : Addr} {fd : FuncData} (F : Fun K "__init__" "NoMark.__init__" (inClass (top 19) 0) fI fd) (b : Binds K fd ["self", "number"] []) (T : OexC K (ct 17).1) (iC : PySem.W.findIn K (.ref (ct 17).1) "__init__" = some (some (.ref fI))) (tI : PySem.W.typeIn K (.ref fI) = some (.type "function")) (hx : mg "NoMark" = some (.ref (ct 17).1)) (hf : ct.fld 17 = "number") (hno : PySem.W.findIn K (.ref (ct 17).1) "number" = some none) (mB : mg "BurnError" = some (.ref CB)) (IB : InitC K CB) : KnE PySem.Challenge.pw_burnrank_k04_refusals wd K mg base ct 1 17 "NoMark" :=
  have sc := sc_NoMark
  knE_mk F sc b T iC tI hx hf hno fun cdv A outer s H E hr => pss_cons (ps_expr (pe_beinit rfl mB IB (pa_cons (pv 0) (pa_cons pe_str pa_nil)))) (pss_one (ps_ost (pv 0) (pv 1)))
theorem sc_law : FnScope ["_law_script", "_law_pen", "_law_turn", "_law_thing", "_law_word", "_law_number", "_law_name", "_law_some", "_law_k", "_law_one", "_law_fields", "_law_j"] ["_law_script"] (defScope (top 27)) := ⟨rfl, rfl, rfl, by decide +kernel, rfl, by decide +kernel, by decide +kernel⟩
theorem k_law {CB : Addr} (bl : Bl mg) (D : Df K mg "law" ["_law_script"] (top 27)) (c__law_open : ∀ base : Heap, Kn PySem.Challenge.pw_burnrank_k04_refusals wd K mg base ct 1 "_law_open" 1 f_law_open) (c__law_take : ∀ base : Heap, Kn PySem.Challenge.pw_burnrank_k04_refusals wd K mg base ct 2 "_law_take" 2 f_law_take) (c__law_all : ∀ base : Heap, Kn PySem.Challenge.pw_burnrank_k04_refusals wd K mg base ct 3 "_law_all" 2 f_law_all) (c__law_same : ∀ base : Heap, Kn PySem.Challenge.pw_burnrank_k04_refusals wd K mg base ct 6 "_law_same" 2 f_law_same) (c__law_kinds : ∀ base : Heap, Kn PySem.Challenge.pw_burnrank_k04_refusals wd K mg base ct 1 "_law_kinds" 1 f_law_kinds)  (xE : ∀ c, ExcC K (ct c).1) (mV : mg "ValueError" = none) (xkV : ∀ c, PySem.W.kitOne K (.ref (ct c).1) (.type "ValueError") = some true) (xnV : PySem.W.kitOne K (.type "NoneType") (.type "ValueError") = some false) (xf_many : ∀ c, [12].contains c = true → XfC K (ct c).1 ∧ PySem.W.findIn K (.ref (ct c).1) "many" = some none ∧ ct.fld c = "many") (xf_most : ∀ c, [16].contains c = true → XfC K (ct c).1 ∧ PySem.W.findIn K (.ref (ct c).1) "most" = some none ∧ ct.fld c = "most") (xf_name : ∀ c, [13, 14, 15].contains c = true → XfC K (ct c).1 ∧ PySem.W.findIn K (.ref (ct c).1) "name" = some none ∧ ct.fld c = "name") (xf_number : ∀ c, [17].contains c = true → XfC K (ct c).1 ∧ PySem.W.findIn K (.ref (ct c).1) "number" = some none ∧ ct.fld c = "number") (xkB : ∀ c, PySem.W.kitOne K (.ref (ct c).1) (.ref CB) = some true) (xnB : PySem.W.kitOne K (.type "NoneType") (.ref CB) = some false) (mB : mg "BurnError" = some (.ref CB))  : LawAt PySem.Challenge.pw_burnrank_k04_refusals wd K mg ct 7 "law" "_law_script" f_law04 :=
  have sc := sc_law
  law_mk D sc rfl fun base f cdv A outer s H E hr =>
  have c__law_open := c__law_open base; have c__law_take := c__law_take base; have c__law_all := c__law_all base; have c__law_same := c__law_same base; have c__law_kinds := c__law_kinds base;
  (ss_cons (sx_asg (se_call c__law_open f_law_open_bad hr (by decide) rfl (sa_cons (se_var (pv 0)) sa_nil)) (sg_var (pg_name sc.nd rfl (Or.inl rfl))))
  (ss_cons (sx_for PassesOwn.never rfl (sb_rg1 bl (sa_cons se_int sa_nil)) (sg_var (pg_name sc.nd rfl (Or.inl rfl))) (ss_cons (sx_asg (se_ix ix_ok (sd_lst (sa_cons se_str (sa_cons se_str (sa_cons se_str (sa_cons se_str (sa_cons se_str (sa_cons se_str (sa_cons se_str (sa_cons se_str (sa_cons se_str sa_nil)))))))))) (se_call c__law_take f_law_take_bad hr (by decide) rfl (sa_cons (se_var (pv 1)) (sa_cons se_int sa_nil)))) (sg_var (pg_name sc.nd rfl (Or.inl rfl))))
  (ss_cons (sx_asg (se_ix ix_ok (sd_lst (sa_cons se_str (sa_cons se_str (sa_cons se_str sa_nil)))) (se_call c__law_take f_law_take_bad hr (by decide) rfl (sa_cons (se_var (pv 1)) (sa_cons se_int sa_nil)))) (sg_var (pg_name sc.nd rfl (Or.inl rfl))))
  (ss_cons (sx_par2 sc.nd (sa_cons (se_ix ix_ok (sd_lst (sa_cons se_int (sa_cons se_int (sa_cons (se_call c__law_take f_law_take_bad hr (by decide) rfl (sa_cons (se_var (pv 1)) (sa_cons (se_op or_pow se_int se_int) sa_nil))) sa_nil)))) (se_call c__law_take f_law_take_bad hr (by decide) rfl (sa_cons (se_var (pv 1)) (sa_cons se_int sa_nil)))) (sa_cons (se_ix ix_ok (sd_lst (sa_cons se_str (sa_cons se_str (sa_cons se_str sa_nil)))) (se_call c__law_take f_law_take_bad hr (by decide) rfl (sa_cons (se_var (pv 1)) (sa_cons se_int sa_nil)))) sa_nil)))
  (ss_cons (sx_asg (se_call c__law_all f_law_all_bad hr (by decide) rfl (sa_cons (se_var (pv 4)) (sa_cons (sd_tup (sa_cons (se_var (pv 5)) (sa_cons (se_var (pv 6)) (sa_cons (se_var (pv 3)) sa_nil)))) sa_nil))) (sg_var (pg_name sc.nd rfl (Or.inl rfl))))
  (ss_cons (sx_for PassesOwn.never rfl (sb_en bl (sa_cons (se_var (pv 7)) sa_nil)) (sg_tup rfl (sgs_cons (sg_var (pg_name sc.nd rfl (Or.inr rfl))) (sgs_cons (sg_var (pg_name sc.nd rfl (Or.inl rfl))) sgs_nil))) (ss_cons (sx_if (st_w (sw_or (st_not (st_val (se_isXF xE xkB xnB bl (se_var (pv 9)) rfl mB))) (sw_or1 (st_not (st_val (se_isTF xE xkV xnV bl (se_var (pv 9)) rfl mV boot_VE)))))) (ss_one (sx_ret se_bl)) ss_nil)
  (ss_one (sx_if (st_not (st_val (se_call c__law_same f_law_same_bad hr (by decide) rfl (sa_cons (se_call c__law_kinds f_law_kinds_bad hr (by decide) rfl (sa_cons (se_var (pv 9)) sa_nil)) (sa_cons (sl_lc1 sc.nd rfl rfl (own := [("_law_j", 11)]) (sc := defScope (top 27)) (by decide +kernel) rfl (sb_rg1 bl (sa_cons se_int sa_nil)) (fun _ _ _ _ _ => (sw_var (by decide) (pg_name sc.nd rfl (Or.inl rfl)))) (fun _ _ _ _ _ => sts_nil) (fun _ _ _ _ _ => (se_cmp (or_eq hr.units) (se_var (pv 11)) (se_var (pv 8))))) sa_nil))))) (ss_one (sx_ret se_bl)) ss_nil))))
  (ss_cons (sx_asg (sd_lst (sa_cons (se_xf xf_many (se_ix ix_ok (se_var (pv 7)) se_int)) (sa_cons (se_xf xf_name (se_ix ix_ok (se_var (pv 7)) se_int)) (sa_cons (se_xf xf_name (se_ix ix_ok (se_var (pv 7)) se_int)) (sa_cons (se_xf xf_name (se_ix ix_ok (se_var (pv 7)) se_int)) (sa_cons (se_xf xf_most (se_ix ix_ok (se_var (pv 7)) se_int)) (sa_cons (se_xf xf_number (se_ix ix_ok (se_var (pv 7)) se_int)) sa_nil))))))) (sg_var (pg_name sc.nd rfl (Or.inl rfl))))
  (ss_one (sx_if (st_not (st_val (se_call c__law_same f_law_same_bad hr (by decide) rfl (sa_cons (se_var (pv 10)) (sa_cons (sd_lst (sa_cons (se_var (pv 5)) (sa_cons (se_var (pv 3)) (sa_cons (se_var (pv 6)) (sa_cons (se_var (pv 6)) (sa_cons (se_var (pv 5)) (sa_cons (se_var (pv 5)) sa_nil))))))) sa_nil))))) (ss_one (sx_ret se_bl)) ss_nil)))))))))
  (ss_one (sx_ret se_bl))))
theorem all_law {h : Heap} {fa : Addr} (X : K.In h) (G : h.Ns mainGlobals mg) (hfa : mg "law" = some (.ref fa)) (hg : ∀ ns : List Int, ns.length ≤ 63 → ∃ h', f_law04 [.scr ns] [] = .ok (.bl true) h')
    {f0 : Addr} {od0 an0 : Option Addr} {sl0 : Array (Option Value)} {oc0 kV0 dc0 pm0 cd0 ct0 : Value} {f1 : Addr} {od1 an1 : Option Addr} {sl1 : Array (Option Value)} {oc1 kV1 dc1 pm1 cd1 ct1 : Value} {f2 : Addr} {od2 an2 : Option Addr} {sl2 : Array (Option Value)} {oc2 kV2 dc2 pm2 cd2 ct2 : Value} {f3 : Addr} {od3 an3 : Option Addr} {sl3 : Array (Option Value)} {oc3 kV3 dc3 pm3 cd3 ct3 : Value} {f4 : Addr} {od4 an4 : Option Addr} {sl4 : Array (Option Value)} {oc4 kV4 dc4 pm4 cd4 ct4 : Value} {f5 : Addr} {od5 an5 : Option Addr} {sl5 : Array (Option Value)} {oc5 kV5 dc5 pm5 cd5 ct5 : Value} {f6 : Addr} {od6 an6 : Option Addr} {sl6 : Array (Option Value)} {oc6 kV6 dc6 pm6 cd6 ct6 : Value} {C0 C1 C2 C3 C4 C5 C6 C7 C8 C9 C10 C11 C12 C13 C14 C15 C16 C17 CB : Addr} {fE12 : Addr} {odE12 anE12 : Option Addr} {slE12 : Array (Option Value)} {ocE12 kVE12 dcE12 pmE12 cdE12 ctE12 : Value} {fE13 : Addr} {odE13 anE13 : Option Addr} {slE13 : Array (Option Value)} {ocE13 kVE13 dcE13 pmE13 cdE13 ctE13 : Value} {fE14 : Addr} {odE14 anE14 : Option Addr} {slE14 : Array (Option Value)} {ocE14 kVE14 dcE14 pmE14 cdE14 ctE14 : Value} {fE15 : Addr} {odE15 anE15 : Option Addr} {slE15 : Array (Option Value)} {ocE15 kVE15 dcE15 pmE15 cdE15 ctE15 : Value} {fE16 : Addr} {odE16 anE16 : Option Addr} {slE16 : Array (Option Value)} {ocE16 kVE16 dcE16 pmE16 cdE16 ctE16 : Value} {fE17 : Addr} {odE17 anE17 : Option Addr} {slE17 : Array (Option Value)} {ocE17 kVE17 dcE17 pmE17 cdE17 ctE17 : Value}
    (a0 : PySem.W.nsIn K mainGlobals "_law_open" = some (some (.ref f0))) (l0 : K.lookup f0 = some ⟨oc0, od0, .func (PySem.W.fnOf "_law_open" "_law_open" (defArgs (top 21)) (defBody (top 21)) (defScope (top 21)) .none kV0 dc0 pm0 an0 cd0 ct0), sl0⟩) (c0 : PySem.W.codeIn K cd0 "_law_open" = true) (k0 : PySem.W.keepIn K (.ref f0) = true)
    (a1 : PySem.W.nsIn K mainGlobals "_law_all" = some (some (.ref f1))) (l1 : K.lookup f1 = some ⟨oc1, od1, .func (PySem.W.fnOf "_law_all" "_law_all" (defArgs (top 26)) (defBody (top 26)) (defScope (top 26)) .none kV1 dc1 pm1 an1 cd1 ct1), sl1⟩) (c1 : PySem.W.codeIn K cd1 "_law_all" = true) (k1 : PySem.W.keepIn K (.ref f1) = true)
    (a2 : PySem.W.nsIn K mainGlobals "_law_spread" = some (some (.ref f2))) (l2 : K.lookup f2 = some ⟨oc2, od2, .func (PySem.W.fnOf "_law_spread" "_law_spread" (defArgs (top 22)) (defBody (top 22)) (defScope (top 22)) .none kV2 dc2 pm2 an2 cd2 ct2), sl2⟩) (c2 : PySem.W.codeIn K cd2 "_law_spread" = true) (k2 : PySem.W.keepIn K (.ref f2) = true)
    (a3 : PySem.W.nsIn K mainGlobals "_law_take" = some (some (.ref f3))) (l3 : K.lookup f3 = some ⟨oc3, od3, .func (PySem.W.fnOf "_law_take" "_law_take" (defArgs (top 23)) (defBody (top 23)) (defScope (top 23)) .none kV3 dc3 pm3 an3 cd3 ct3), sl3⟩) (c3 : PySem.W.codeIn K cd3 "_law_take" = true) (k3 : PySem.W.keepIn K (.ref f3) = true)
    (a4 : PySem.W.nsIn K mainGlobals "_law_same" = some (some (.ref f4))) (l4 : K.lookup f4 = some ⟨oc4, od4, .func (PySem.W.fnOf "_law_same" "_law_same" (defArgs (top 24)) (defBody (top 24)) (defScope (top 24)) .none kV4 dc4 pm4 an4 cd4 ct4), sl4⟩) (c4 : PySem.W.codeIn K cd4 "_law_same" = true) (k4 : PySem.W.keepIn K (.ref f4) = true)
    (a5 : PySem.W.nsIn K mainGlobals "_law_kinds" = some (some (.ref f5))) (l5 : K.lookup f5 = some ⟨oc5, od5, .func (PySem.W.fnOf "_law_kinds" "_law_kinds" (defArgs (top 25)) (defBody (top 25)) (defScope (top 25)) .none kV5 dc5 pm5 an5 cd5 ct5), sl5⟩) (c5 : PySem.W.codeIn K cd5 "_law_kinds" = true) (k5 : PySem.W.keepIn K (.ref f5) = true)
    (a6 : PySem.W.nsIn K mainGlobals "law" = some (some (.ref f6))) (l6 : K.lookup f6 = some ⟨oc6, od6, .func (PySem.W.fnOf "law" "law" (defArgs (top 27)) (defBody (top 27)) (defScope (top 27)) .none kV6 dc6 pm6 an6 cd6 ct6), sl6⟩) (c6 : PySem.W.codeIn K cd6 "law" = true) (k6 : PySem.W.keepIn K (.ref f6) = true)
    (z0 : PySem.W.nsIn K mainGlobals "len" = some none)
    (z1 : PySem.W.nsIn K mainGlobals "isinstance" = some none)
    (z2 : PySem.W.nsIn K mainGlobals "all" = some none)
    (z3 : PySem.W.nsIn K mainGlobals "any" = some none)
    (z4 : PySem.W.nsIn K mainGlobals "sum" = some none)
    (z5 : PySem.W.nsIn K mainGlobals "min" = some none)
    (z6 : PySem.W.nsIn K mainGlobals "max" = some none)
    (z7 : PySem.W.nsIn K mainGlobals "tuple" = some none)
    (z8 : PySem.W.nsIn K mainGlobals "list" = some none)
    (z9 : PySem.W.nsIn K mainGlobals "int" = some none)
    (z10 : PySem.W.nsIn K mainGlobals "bool" = some none)
    (z11 : PySem.W.nsIn K mainGlobals "str" = some none)
    (z12 : PySem.W.nsIn K mainGlobals "range" = some none)
    (z13 : PySem.W.nsIn K mainGlobals "enumerate" = some none)
    (z14 : PySem.W.nsIn K mainGlobals "zip" = some none)
    (z15 : PySem.W.nsIn K mainGlobals "sorted" = some none)
    (z16 : PySem.W.nsIn K mainGlobals "abs" = some none)
    (z17 : PySem.W.nsIn K mainGlobals "repr" = some none)
    (xaB : PySem.W.nsIn K mainGlobals "BurnError" = some (some (.ref CB)))
    (xa0 : PySem.W.nsIn K mainGlobals "NoWeb" = some (some (.ref C0)))
    (xa1 : PySem.W.nsIn K mainGlobals "NoHeap" = some (some (.ref C1)))
    (xa2 : PySem.W.nsIn K mainGlobals "NoFiring" = some (some (.ref C2)))
    (xa3 : PySem.W.nsIn K mainGlobals "NoOrder" = some (some (.ref C3)))
    (xa4 : PySem.W.nsIn K mainGlobals "NoPlace" = some (some (.ref C4)))
    (xa5 : PySem.W.nsIn K mainGlobals "NoClass" = some (some (.ref C5)))
    (xa6 : PySem.W.nsIn K mainGlobals "NoTree" = some (some (.ref C6)))
    (xa7 : PySem.W.nsIn K mainGlobals "NoTaking" = some (some (.ref C7)))
    (xa8 : PySem.W.nsIn K mainGlobals "NoMap" = some (some (.ref C8)))
    (xa9 : PySem.W.nsIn K mainGlobals "NoTie" = some (some (.ref C9)))
    (xa10 : PySem.W.nsIn K mainGlobals "NoDeed" = some (some (.ref C10)))
    (xa11 : PySem.W.nsIn K mainGlobals "NoChange" = some (some (.ref C11)))
    (xa12 : PySem.W.nsIn K mainGlobals "TooMany" = some (some (.ref C12)))
    (xa13 : PySem.W.nsIn K mainGlobals "NoName" = some (some (.ref C13)))
    (xa14 : PySem.W.nsIn K mainGlobals "Standing" = some (some (.ref C14)))
    (xa15 : PySem.W.nsIn K mainGlobals "InUse" = some (some (.ref C15)))
    (xa16 : PySem.W.nsIn K mainGlobals "Full" = some (some (.ref C16)))
    (xa17 : PySem.W.nsIn K mainGlobals "NoMark" = some (some (.ref C17)))
    (xq0 : PySem.W.excIn K C0 [.type "ValueError", .type "Exception", .type "BaseException", .type "object"] "ValueError.__new__" = true)
    (xp0 : PySem.W.keepIn K (.ref C0) = true)
    (xs0 : PySem.W.subIn K (.ref C0) (.type "BaseException") = some true)
    (xt0 : PySem.W.typeIn K (.ref C0) = some (.type "type"))
    (xg0 : PySem.W.findIn K (.ref C0) "__getattribute__" = some (some (.builtin "BaseException.__getattribute__")))
    (xh0 : PySem.W.findIn K (.ref C0) "__getattr__" = some none)
    (xd0 : PySem.W.hasDictIn K C0 = true)
    (xc0 : PySem.W.findIn K (.ref C0) "__class__" = some (some (.builtin "object.__class__")))
    (xm0 : PySem.W.mroIn K C0 (.type "object") = some true)
    (xkb0 : PySem.W.kitOne K (.ref C0) (.ref CB) = some true)
    (xkv0 : PySem.W.kitOne K (.ref C0) (.type "ValueError") = some true)
    (xq1 : PySem.W.excIn K C1 [.type "ValueError", .type "Exception", .type "BaseException", .type "object"] "ValueError.__new__" = true)
    (xp1 : PySem.W.keepIn K (.ref C1) = true)
    (xs1 : PySem.W.subIn K (.ref C1) (.type "BaseException") = some true)
    (xt1 : PySem.W.typeIn K (.ref C1) = some (.type "type"))
    (xg1 : PySem.W.findIn K (.ref C1) "__getattribute__" = some (some (.builtin "BaseException.__getattribute__")))
    (xh1 : PySem.W.findIn K (.ref C1) "__getattr__" = some none)
    (xd1 : PySem.W.hasDictIn K C1 = true)
    (xc1 : PySem.W.findIn K (.ref C1) "__class__" = some (some (.builtin "object.__class__")))
    (xm1 : PySem.W.mroIn K C1 (.type "object") = some true)
    (xkb1 : PySem.W.kitOne K (.ref C1) (.ref CB) = some true)
    (xkv1 : PySem.W.kitOne K (.ref C1) (.type "ValueError") = some true)
    (xq2 : PySem.W.excIn K C2 [.type "ValueError", .type "Exception", .type "BaseException", .type "object"] "ValueError.__new__" = true)
    (xp2 : PySem.W.keepIn K (.ref C2) = true)
    (xs2 : PySem.W.subIn K (.ref C2) (.type "BaseException") = some true)
    (xt2 : PySem.W.typeIn K (.ref C2) = some (.type "type"))
    (xg2 : PySem.W.findIn K (.ref C2) "__getattribute__" = some (some (.builtin "BaseException.__getattribute__")))
    (xh2 : PySem.W.findIn K (.ref C2) "__getattr__" = some none)
    (xd2 : PySem.W.hasDictIn K C2 = true)
    (xc2 : PySem.W.findIn K (.ref C2) "__class__" = some (some (.builtin "object.__class__")))
    (xm2 : PySem.W.mroIn K C2 (.type "object") = some true)
    (xkb2 : PySem.W.kitOne K (.ref C2) (.ref CB) = some true)
    (xkv2 : PySem.W.kitOne K (.ref C2) (.type "ValueError") = some true)
    (xq3 : PySem.W.excIn K C3 [.type "ValueError", .type "Exception", .type "BaseException", .type "object"] "ValueError.__new__" = true)
    (xp3 : PySem.W.keepIn K (.ref C3) = true)
    (xs3 : PySem.W.subIn K (.ref C3) (.type "BaseException") = some true)
    (xt3 : PySem.W.typeIn K (.ref C3) = some (.type "type"))
    (xg3 : PySem.W.findIn K (.ref C3) "__getattribute__" = some (some (.builtin "BaseException.__getattribute__")))
    (xh3 : PySem.W.findIn K (.ref C3) "__getattr__" = some none)
    (xd3 : PySem.W.hasDictIn K C3 = true)
    (xc3 : PySem.W.findIn K (.ref C3) "__class__" = some (some (.builtin "object.__class__")))
    (xm3 : PySem.W.mroIn K C3 (.type "object") = some true)
    (xkb3 : PySem.W.kitOne K (.ref C3) (.ref CB) = some true)
    (xkv3 : PySem.W.kitOne K (.ref C3) (.type "ValueError") = some true)
    (xq4 : PySem.W.excIn K C4 [.type "ValueError", .type "Exception", .type "BaseException", .type "object"] "ValueError.__new__" = true)
    (xp4 : PySem.W.keepIn K (.ref C4) = true)
    (xs4 : PySem.W.subIn K (.ref C4) (.type "BaseException") = some true)
    (xt4 : PySem.W.typeIn K (.ref C4) = some (.type "type"))
    (xg4 : PySem.W.findIn K (.ref C4) "__getattribute__" = some (some (.builtin "BaseException.__getattribute__")))
    (xh4 : PySem.W.findIn K (.ref C4) "__getattr__" = some none)
    (xd4 : PySem.W.hasDictIn K C4 = true)
    (xc4 : PySem.W.findIn K (.ref C4) "__class__" = some (some (.builtin "object.__class__")))
    (xm4 : PySem.W.mroIn K C4 (.type "object") = some true)
    (xkb4 : PySem.W.kitOne K (.ref C4) (.ref CB) = some true)
    (xkv4 : PySem.W.kitOne K (.ref C4) (.type "ValueError") = some true)
    (xq5 : PySem.W.excIn K C5 [.type "ValueError", .type "Exception", .type "BaseException", .type "object"] "ValueError.__new__" = true)
    (xp5 : PySem.W.keepIn K (.ref C5) = true)
    (xs5 : PySem.W.subIn K (.ref C5) (.type "BaseException") = some true)
    (xt5 : PySem.W.typeIn K (.ref C5) = some (.type "type"))
    (xg5 : PySem.W.findIn K (.ref C5) "__getattribute__" = some (some (.builtin "BaseException.__getattribute__")))
    (xh5 : PySem.W.findIn K (.ref C5) "__getattr__" = some none)
    (xd5 : PySem.W.hasDictIn K C5 = true)
    (xc5 : PySem.W.findIn K (.ref C5) "__class__" = some (some (.builtin "object.__class__")))
    (xm5 : PySem.W.mroIn K C5 (.type "object") = some true)
    (xkb5 : PySem.W.kitOne K (.ref C5) (.ref CB) = some true)
    (xkv5 : PySem.W.kitOne K (.ref C5) (.type "ValueError") = some true)
    (xq6 : PySem.W.excIn K C6 [.type "ValueError", .type "Exception", .type "BaseException", .type "object"] "ValueError.__new__" = true)
    (xp6 : PySem.W.keepIn K (.ref C6) = true)
    (xs6 : PySem.W.subIn K (.ref C6) (.type "BaseException") = some true)
    (xt6 : PySem.W.typeIn K (.ref C6) = some (.type "type"))
    (xg6 : PySem.W.findIn K (.ref C6) "__getattribute__" = some (some (.builtin "BaseException.__getattribute__")))
    (xh6 : PySem.W.findIn K (.ref C6) "__getattr__" = some none)
    (xd6 : PySem.W.hasDictIn K C6 = true)
    (xc6 : PySem.W.findIn K (.ref C6) "__class__" = some (some (.builtin "object.__class__")))
    (xm6 : PySem.W.mroIn K C6 (.type "object") = some true)
    (xkb6 : PySem.W.kitOne K (.ref C6) (.ref CB) = some true)
    (xkv6 : PySem.W.kitOne K (.ref C6) (.type "ValueError") = some true)
    (xq7 : PySem.W.excIn K C7 [.type "ValueError", .type "Exception", .type "BaseException", .type "object"] "ValueError.__new__" = true)
    (xp7 : PySem.W.keepIn K (.ref C7) = true)
    (xs7 : PySem.W.subIn K (.ref C7) (.type "BaseException") = some true)
    (xt7 : PySem.W.typeIn K (.ref C7) = some (.type "type"))
    (xg7 : PySem.W.findIn K (.ref C7) "__getattribute__" = some (some (.builtin "BaseException.__getattribute__")))
    (xh7 : PySem.W.findIn K (.ref C7) "__getattr__" = some none)
    (xd7 : PySem.W.hasDictIn K C7 = true)
    (xc7 : PySem.W.findIn K (.ref C7) "__class__" = some (some (.builtin "object.__class__")))
    (xm7 : PySem.W.mroIn K C7 (.type "object") = some true)
    (xkb7 : PySem.W.kitOne K (.ref C7) (.ref CB) = some true)
    (xkv7 : PySem.W.kitOne K (.ref C7) (.type "ValueError") = some true)
    (xq8 : PySem.W.excIn K C8 [.type "ValueError", .type "Exception", .type "BaseException", .type "object"] "ValueError.__new__" = true)
    (xp8 : PySem.W.keepIn K (.ref C8) = true)
    (xs8 : PySem.W.subIn K (.ref C8) (.type "BaseException") = some true)
    (xt8 : PySem.W.typeIn K (.ref C8) = some (.type "type"))
    (xg8 : PySem.W.findIn K (.ref C8) "__getattribute__" = some (some (.builtin "BaseException.__getattribute__")))
    (xh8 : PySem.W.findIn K (.ref C8) "__getattr__" = some none)
    (xd8 : PySem.W.hasDictIn K C8 = true)
    (xc8 : PySem.W.findIn K (.ref C8) "__class__" = some (some (.builtin "object.__class__")))
    (xm8 : PySem.W.mroIn K C8 (.type "object") = some true)
    (xkb8 : PySem.W.kitOne K (.ref C8) (.ref CB) = some true)
    (xkv8 : PySem.W.kitOne K (.ref C8) (.type "ValueError") = some true)
    (xq9 : PySem.W.excIn K C9 [.type "ValueError", .type "Exception", .type "BaseException", .type "object"] "ValueError.__new__" = true)
    (xp9 : PySem.W.keepIn K (.ref C9) = true)
    (xs9 : PySem.W.subIn K (.ref C9) (.type "BaseException") = some true)
    (xt9 : PySem.W.typeIn K (.ref C9) = some (.type "type"))
    (xg9 : PySem.W.findIn K (.ref C9) "__getattribute__" = some (some (.builtin "BaseException.__getattribute__")))
    (xh9 : PySem.W.findIn K (.ref C9) "__getattr__" = some none)
    (xd9 : PySem.W.hasDictIn K C9 = true)
    (xc9 : PySem.W.findIn K (.ref C9) "__class__" = some (some (.builtin "object.__class__")))
    (xm9 : PySem.W.mroIn K C9 (.type "object") = some true)
    (xkb9 : PySem.W.kitOne K (.ref C9) (.ref CB) = some true)
    (xkv9 : PySem.W.kitOne K (.ref C9) (.type "ValueError") = some true)
    (xq10 : PySem.W.excIn K C10 [.type "ValueError", .type "Exception", .type "BaseException", .type "object"] "ValueError.__new__" = true)
    (xp10 : PySem.W.keepIn K (.ref C10) = true)
    (xs10 : PySem.W.subIn K (.ref C10) (.type "BaseException") = some true)
    (xt10 : PySem.W.typeIn K (.ref C10) = some (.type "type"))
    (xg10 : PySem.W.findIn K (.ref C10) "__getattribute__" = some (some (.builtin "BaseException.__getattribute__")))
    (xh10 : PySem.W.findIn K (.ref C10) "__getattr__" = some none)
    (xd10 : PySem.W.hasDictIn K C10 = true)
    (xc10 : PySem.W.findIn K (.ref C10) "__class__" = some (some (.builtin "object.__class__")))
    (xm10 : PySem.W.mroIn K C10 (.type "object") = some true)
    (xkb10 : PySem.W.kitOne K (.ref C10) (.ref CB) = some true)
    (xkv10 : PySem.W.kitOne K (.ref C10) (.type "ValueError") = some true)
    (xq11 : PySem.W.excIn K C11 [.type "ValueError", .type "Exception", .type "BaseException", .type "object"] "ValueError.__new__" = true)
    (xp11 : PySem.W.keepIn K (.ref C11) = true)
    (xs11 : PySem.W.subIn K (.ref C11) (.type "BaseException") = some true)
    (xt11 : PySem.W.typeIn K (.ref C11) = some (.type "type"))
    (xg11 : PySem.W.findIn K (.ref C11) "__getattribute__" = some (some (.builtin "BaseException.__getattribute__")))
    (xh11 : PySem.W.findIn K (.ref C11) "__getattr__" = some none)
    (xd11 : PySem.W.hasDictIn K C11 = true)
    (xc11 : PySem.W.findIn K (.ref C11) "__class__" = some (some (.builtin "object.__class__")))
    (xm11 : PySem.W.mroIn K C11 (.type "object") = some true)
    (xkb11 : PySem.W.kitOne K (.ref C11) (.ref CB) = some true)
    (xkv11 : PySem.W.kitOne K (.ref C11) (.type "ValueError") = some true)
    (xoi12 : oexIn K C12 = true)
    (xp12 : PySem.W.keepIn K (.ref C12) = true)
    (xs12 : PySem.W.subIn K (.ref C12) (.type "BaseException") = some true)
    (xt12 : PySem.W.typeIn K (.ref C12) = some (.type "type"))
    (xg12 : PySem.W.findIn K (.ref C12) "__getattribute__" = some (some (.builtin "BaseException.__getattribute__")))
    (xh12 : PySem.W.findIn K (.ref C12) "__getattr__" = some none)
    (xd12 : PySem.W.hasDictIn K C12 = true)
    (xc12 : PySem.W.findIn K (.ref C12) "__class__" = some (some (.builtin "object.__class__")))
    (xm12 : PySem.W.mroIn K C12 (.type "object") = some true)
    (xkb12 : PySem.W.kitOne K (.ref C12) (.ref CB) = some true)
    (xkv12 : PySem.W.kitOne K (.ref C12) (.type "ValueError") = some true)
    (xoi13 : oexIn K C13 = true)
    (xp13 : PySem.W.keepIn K (.ref C13) = true)
    (xs13 : PySem.W.subIn K (.ref C13) (.type "BaseException") = some true)
    (xt13 : PySem.W.typeIn K (.ref C13) = some (.type "type"))
    (xg13 : PySem.W.findIn K (.ref C13) "__getattribute__" = some (some (.builtin "BaseException.__getattribute__")))
    (xh13 : PySem.W.findIn K (.ref C13) "__getattr__" = some none)
    (xd13 : PySem.W.hasDictIn K C13 = true)
    (xc13 : PySem.W.findIn K (.ref C13) "__class__" = some (some (.builtin "object.__class__")))
    (xm13 : PySem.W.mroIn K C13 (.type "object") = some true)
    (xkb13 : PySem.W.kitOne K (.ref C13) (.ref CB) = some true)
    (xkv13 : PySem.W.kitOne K (.ref C13) (.type "ValueError") = some true)
    (xoi14 : oexIn K C14 = true)
    (xp14 : PySem.W.keepIn K (.ref C14) = true)
    (xs14 : PySem.W.subIn K (.ref C14) (.type "BaseException") = some true)
    (xt14 : PySem.W.typeIn K (.ref C14) = some (.type "type"))
    (xg14 : PySem.W.findIn K (.ref C14) "__getattribute__" = some (some (.builtin "BaseException.__getattribute__")))
    (xh14 : PySem.W.findIn K (.ref C14) "__getattr__" = some none)
    (xd14 : PySem.W.hasDictIn K C14 = true)
    (xc14 : PySem.W.findIn K (.ref C14) "__class__" = some (some (.builtin "object.__class__")))
    (xm14 : PySem.W.mroIn K C14 (.type "object") = some true)
    (xkb14 : PySem.W.kitOne K (.ref C14) (.ref CB) = some true)
    (xkv14 : PySem.W.kitOne K (.ref C14) (.type "ValueError") = some true)
    (xoi15 : oexIn K C15 = true)
    (xp15 : PySem.W.keepIn K (.ref C15) = true)
    (xs15 : PySem.W.subIn K (.ref C15) (.type "BaseException") = some true)
    (xt15 : PySem.W.typeIn K (.ref C15) = some (.type "type"))
    (xg15 : PySem.W.findIn K (.ref C15) "__getattribute__" = some (some (.builtin "BaseException.__getattribute__")))
    (xh15 : PySem.W.findIn K (.ref C15) "__getattr__" = some none)
    (xd15 : PySem.W.hasDictIn K C15 = true)
    (xc15 : PySem.W.findIn K (.ref C15) "__class__" = some (some (.builtin "object.__class__")))
    (xm15 : PySem.W.mroIn K C15 (.type "object") = some true)
    (xkb15 : PySem.W.kitOne K (.ref C15) (.ref CB) = some true)
    (xkv15 : PySem.W.kitOne K (.ref C15) (.type "ValueError") = some true)
    (xoi16 : oexIn K C16 = true)
    (xp16 : PySem.W.keepIn K (.ref C16) = true)
    (xs16 : PySem.W.subIn K (.ref C16) (.type "BaseException") = some true)
    (xt16 : PySem.W.typeIn K (.ref C16) = some (.type "type"))
    (xg16 : PySem.W.findIn K (.ref C16) "__getattribute__" = some (some (.builtin "BaseException.__getattribute__")))
    (xh16 : PySem.W.findIn K (.ref C16) "__getattr__" = some none)
    (xd16 : PySem.W.hasDictIn K C16 = true)
    (xc16 : PySem.W.findIn K (.ref C16) "__class__" = some (some (.builtin "object.__class__")))
    (xm16 : PySem.W.mroIn K C16 (.type "object") = some true)
    (xkb16 : PySem.W.kitOne K (.ref C16) (.ref CB) = some true)
    (xkv16 : PySem.W.kitOne K (.ref C16) (.type "ValueError") = some true)
    (xoi17 : oexIn K C17 = true)
    (xp17 : PySem.W.keepIn K (.ref C17) = true)
    (xs17 : PySem.W.subIn K (.ref C17) (.type "BaseException") = some true)
    (xt17 : PySem.W.typeIn K (.ref C17) = some (.type "type"))
    (xg17 : PySem.W.findIn K (.ref C17) "__getattribute__" = some (some (.builtin "BaseException.__getattribute__")))
    (xh17 : PySem.W.findIn K (.ref C17) "__getattr__" = some none)
    (xd17 : PySem.W.hasDictIn K C17 = true)
    (xc17 : PySem.W.findIn K (.ref C17) "__class__" = some (some (.builtin "object.__class__")))
    (xm17 : PySem.W.mroIn K C17 (.type "object") = some true)
    (xkb17 : PySem.W.kitOne K (.ref C17) (.ref CB) = some true)
    (xkv17 : PySem.W.kitOne K (.ref C17) (.type "ValueError") = some true)
    (xsa12 : PySem.W.findIn K (.ref C12) "__setattr__" = some (some (.builtin "object.__setattr__")))
    (xia12 : PySem.W.findIn K (.ref C12) "__init__" = some (some (.ref fE12)))
    (xil12 : K.lookup fE12 = some ⟨ocE12, odE12, .func (PySem.W.fnOf "__init__" "TooMany.__init__" (defArgs (inClass (top 14) 0)) (defBody (inClass (top 14) 0)) (defScope (inClass (top 14) 0)) .none kVE12 dcE12 pmE12 anE12 cdE12 ctE12), slE12⟩)
    (xic12 : PySem.W.codeIn K cdE12 "TooMany.__init__" = true)
    (xik12 : PySem.W.keepIn K (.ref fE12) = true)
    (xit12 : PySem.W.typeIn K (.ref fE12) = some (.type "function"))
    (xin12 : PySem.W.findIn K (.ref C12) "many" = some none)
    (xsa13 : PySem.W.findIn K (.ref C13) "__setattr__" = some (some (.builtin "object.__setattr__")))
    (xia13 : PySem.W.findIn K (.ref C13) "__init__" = some (some (.ref fE13)))
    (xil13 : K.lookup fE13 = some ⟨ocE13, odE13, .func (PySem.W.fnOf "__init__" "NoName.__init__" (defArgs (inClass (top 15) 0)) (defBody (inClass (top 15) 0)) (defScope (inClass (top 15) 0)) .none kVE13 dcE13 pmE13 anE13 cdE13 ctE13), slE13⟩)
    (xic13 : PySem.W.codeIn K cdE13 "NoName.__init__" = true)
    (xik13 : PySem.W.keepIn K (.ref fE13) = true)
    (xit13 : PySem.W.typeIn K (.ref fE13) = some (.type "function"))
    (xin13 : PySem.W.findIn K (.ref C13) "name" = some none)
    (xsa14 : PySem.W.findIn K (.ref C14) "__setattr__" = some (some (.builtin "object.__setattr__")))
    (xia14 : PySem.W.findIn K (.ref C14) "__init__" = some (some (.ref fE14)))
    (xil14 : K.lookup fE14 = some ⟨ocE14, odE14, .func (PySem.W.fnOf "__init__" "Standing.__init__" (defArgs (inClass (top 16) 0)) (defBody (inClass (top 16) 0)) (defScope (inClass (top 16) 0)) .none kVE14 dcE14 pmE14 anE14 cdE14 ctE14), slE14⟩)
    (xic14 : PySem.W.codeIn K cdE14 "Standing.__init__" = true)
    (xik14 : PySem.W.keepIn K (.ref fE14) = true)
    (xit14 : PySem.W.typeIn K (.ref fE14) = some (.type "function"))
    (xin14 : PySem.W.findIn K (.ref C14) "name" = some none)
    (xsa15 : PySem.W.findIn K (.ref C15) "__setattr__" = some (some (.builtin "object.__setattr__")))
    (xia15 : PySem.W.findIn K (.ref C15) "__init__" = some (some (.ref fE15)))
    (xil15 : K.lookup fE15 = some ⟨ocE15, odE15, .func (PySem.W.fnOf "__init__" "InUse.__init__" (defArgs (inClass (top 17) 0)) (defBody (inClass (top 17) 0)) (defScope (inClass (top 17) 0)) .none kVE15 dcE15 pmE15 anE15 cdE15 ctE15), slE15⟩)
    (xic15 : PySem.W.codeIn K cdE15 "InUse.__init__" = true)
    (xik15 : PySem.W.keepIn K (.ref fE15) = true)
    (xit15 : PySem.W.typeIn K (.ref fE15) = some (.type "function"))
    (xin15 : PySem.W.findIn K (.ref C15) "name" = some none)
    (xsa16 : PySem.W.findIn K (.ref C16) "__setattr__" = some (some (.builtin "object.__setattr__")))
    (xia16 : PySem.W.findIn K (.ref C16) "__init__" = some (some (.ref fE16)))
    (xil16 : K.lookup fE16 = some ⟨ocE16, odE16, .func (PySem.W.fnOf "__init__" "Full.__init__" (defArgs (inClass (top 18) 0)) (defBody (inClass (top 18) 0)) (defScope (inClass (top 18) 0)) .none kVE16 dcE16 pmE16 anE16 cdE16 ctE16), slE16⟩)
    (xic16 : PySem.W.codeIn K cdE16 "Full.__init__" = true)
    (xik16 : PySem.W.keepIn K (.ref fE16) = true)
    (xit16 : PySem.W.typeIn K (.ref fE16) = some (.type "function"))
    (xin16 : PySem.W.findIn K (.ref C16) "most" = some none)
    (xsa17 : PySem.W.findIn K (.ref C17) "__setattr__" = some (some (.builtin "object.__setattr__")))
    (xia17 : PySem.W.findIn K (.ref C17) "__init__" = some (some (.ref fE17)))
    (xil17 : K.lookup fE17 = some ⟨ocE17, odE17, .func (PySem.W.fnOf "__init__" "NoMark.__init__" (defArgs (inClass (top 19) 0)) (defBody (inClass (top 19) 0)) (defScope (inClass (top 19) 0)) .none kVE17 dcE17 pmE17 anE17 cdE17 ctE17), slE17⟩)
    (xic17 : PySem.W.codeIn K cdE17 "NoMark.__init__" = true)
    (xik17 : PySem.W.keepIn K (.ref fE17) = true)
    (xit17 : PySem.W.typeIn K (.ref fE17) = some (.type "function"))
    (xin17 : PySem.W.findIn K (.ref C17) "number" = some none)
    (xbm : PySem.W.typeIn K (.ref CB) = some (.type "type"))
    (xbr : PySem.W.readsIn K CB (.type "type") = true)
    (xbf : PySem.W.findCls K (.ref CB) (.type "type") "__init__" = some (.val (.builtin "ValueError.__init__")))
    (xbg : PySem.W.specialIn K (.ref CB) "__getattribute__" = some (some (.builtin "type.__getattribute__")))
    (xnb : PySem.W.kitOne K (.type "NoneType") (.ref CB) = some false)
    (xnv : PySem.W.kitOne K (.type "NoneType") (.type "ValueError") = some false)
    (xzv : PySem.W.nsIn K mainGlobals "ValueError" = some none)
    (xcn : PySem.W.specialIn K (.builtin "object.__class__") "__get__" = some (some (.builtin "getset_descriptor.__get__")))
    (xct : PySem.W.takesIn K (.builtin "object.__class__") = some true)
    (xw0_0 : PySem.W.kitOne K (.ref C0) (.ref C0) = some true)
    (xw1_0 : PySem.W.kitOne K (.ref C1) (.ref C0) = some false)
    (xw2_0 : PySem.W.kitOne K (.ref C2) (.ref C0) = some false)
    (xw3_0 : PySem.W.kitOne K (.ref C3) (.ref C0) = some false)
    (xw4_0 : PySem.W.kitOne K (.ref C4) (.ref C0) = some false)
    (xw5_0 : PySem.W.kitOne K (.ref C5) (.ref C0) = some false)
    (xw6_0 : PySem.W.kitOne K (.ref C6) (.ref C0) = some false)
    (xw7_0 : PySem.W.kitOne K (.ref C7) (.ref C0) = some false)
    (xw8_0 : PySem.W.kitOne K (.ref C8) (.ref C0) = some false)
    (xw9_0 : PySem.W.kitOne K (.ref C9) (.ref C0) = some false)
    (xw10_0 : PySem.W.kitOne K (.ref C10) (.ref C0) = some false)
    (xw11_0 : PySem.W.kitOne K (.ref C11) (.ref C0) = some false)
    (xw12_0 : PySem.W.kitOne K (.ref C12) (.ref C0) = some false)
    (xw13_0 : PySem.W.kitOne K (.ref C13) (.ref C0) = some false)
    (xw14_0 : PySem.W.kitOne K (.ref C14) (.ref C0) = some false)
    (xw15_0 : PySem.W.kitOne K (.ref C15) (.ref C0) = some false)
    (xw16_0 : PySem.W.kitOne K (.ref C16) (.ref C0) = some false)
    (xw17_0 : PySem.W.kitOne K (.ref C17) (.ref C0) = some false)
    (xv0 : PySem.W.kitOne K (.type "NoneType") (.ref C0) = some false)
    (xw0_1 : PySem.W.kitOne K (.ref C0) (.ref C1) = some false)
    (xw1_1 : PySem.W.kitOne K (.ref C1) (.ref C1) = some true)
    (xw2_1 : PySem.W.kitOne K (.ref C2) (.ref C1) = some false)
    (xw3_1 : PySem.W.kitOne K (.ref C3) (.ref C1) = some false)
    (xw4_1 : PySem.W.kitOne K (.ref C4) (.ref C1) = some false)
    (xw5_1 : PySem.W.kitOne K (.ref C5) (.ref C1) = some false)
    (xw6_1 : PySem.W.kitOne K (.ref C6) (.ref C1) = some false)
    (xw7_1 : PySem.W.kitOne K (.ref C7) (.ref C1) = some false)
    (xw8_1 : PySem.W.kitOne K (.ref C8) (.ref C1) = some false)
    (xw9_1 : PySem.W.kitOne K (.ref C9) (.ref C1) = some false)
    (xw10_1 : PySem.W.kitOne K (.ref C10) (.ref C1) = some false)
    (xw11_1 : PySem.W.kitOne K (.ref C11) (.ref C1) = some false)
    (xw12_1 : PySem.W.kitOne K (.ref C12) (.ref C1) = some false)
    (xw13_1 : PySem.W.kitOne K (.ref C13) (.ref C1) = some false)
    (xw14_1 : PySem.W.kitOne K (.ref C14) (.ref C1) = some false)
    (xw15_1 : PySem.W.kitOne K (.ref C15) (.ref C1) = some false)
    (xw16_1 : PySem.W.kitOne K (.ref C16) (.ref C1) = some false)
    (xw17_1 : PySem.W.kitOne K (.ref C17) (.ref C1) = some false)
    (xv1 : PySem.W.kitOne K (.type "NoneType") (.ref C1) = some false)
    (xw0_2 : PySem.W.kitOne K (.ref C0) (.ref C2) = some false)
    (xw1_2 : PySem.W.kitOne K (.ref C1) (.ref C2) = some false)
    (xw2_2 : PySem.W.kitOne K (.ref C2) (.ref C2) = some true)
    (xw3_2 : PySem.W.kitOne K (.ref C3) (.ref C2) = some false)
    (xw4_2 : PySem.W.kitOne K (.ref C4) (.ref C2) = some false)
    (xw5_2 : PySem.W.kitOne K (.ref C5) (.ref C2) = some false)
    (xw6_2 : PySem.W.kitOne K (.ref C6) (.ref C2) = some false)
    (xw7_2 : PySem.W.kitOne K (.ref C7) (.ref C2) = some false)
    (xw8_2 : PySem.W.kitOne K (.ref C8) (.ref C2) = some false)
    (xw9_2 : PySem.W.kitOne K (.ref C9) (.ref C2) = some false)
    (xw10_2 : PySem.W.kitOne K (.ref C10) (.ref C2) = some false)
    (xw11_2 : PySem.W.kitOne K (.ref C11) (.ref C2) = some false)
    (xw12_2 : PySem.W.kitOne K (.ref C12) (.ref C2) = some false)
    (xw13_2 : PySem.W.kitOne K (.ref C13) (.ref C2) = some false)
    (xw14_2 : PySem.W.kitOne K (.ref C14) (.ref C2) = some false)
    (xw15_2 : PySem.W.kitOne K (.ref C15) (.ref C2) = some false)
    (xw16_2 : PySem.W.kitOne K (.ref C16) (.ref C2) = some false)
    (xw17_2 : PySem.W.kitOne K (.ref C17) (.ref C2) = some false)
    (xv2 : PySem.W.kitOne K (.type "NoneType") (.ref C2) = some false)
    (xw0_4 : PySem.W.kitOne K (.ref C0) (.ref C4) = some false)
    (xw1_4 : PySem.W.kitOne K (.ref C1) (.ref C4) = some false)
    (xw2_4 : PySem.W.kitOne K (.ref C2) (.ref C4) = some false)
    (xw3_4 : PySem.W.kitOne K (.ref C3) (.ref C4) = some false)
    (xw4_4 : PySem.W.kitOne K (.ref C4) (.ref C4) = some true)
    (xw5_4 : PySem.W.kitOne K (.ref C5) (.ref C4) = some false)
    (xw6_4 : PySem.W.kitOne K (.ref C6) (.ref C4) = some false)
    (xw7_4 : PySem.W.kitOne K (.ref C7) (.ref C4) = some false)
    (xw8_4 : PySem.W.kitOne K (.ref C8) (.ref C4) = some false)
    (xw9_4 : PySem.W.kitOne K (.ref C9) (.ref C4) = some false)
    (xw10_4 : PySem.W.kitOne K (.ref C10) (.ref C4) = some false)
    (xw11_4 : PySem.W.kitOne K (.ref C11) (.ref C4) = some false)
    (xw12_4 : PySem.W.kitOne K (.ref C12) (.ref C4) = some false)
    (xw13_4 : PySem.W.kitOne K (.ref C13) (.ref C4) = some false)
    (xw14_4 : PySem.W.kitOne K (.ref C14) (.ref C4) = some false)
    (xw15_4 : PySem.W.kitOne K (.ref C15) (.ref C4) = some false)
    (xw16_4 : PySem.W.kitOne K (.ref C16) (.ref C4) = some false)
    (xw17_4 : PySem.W.kitOne K (.ref C17) (.ref C4) = some false)
    (xv4 : PySem.W.kitOne K (.type "NoneType") (.ref C4) = some false)
    (xw0_5 : PySem.W.kitOne K (.ref C0) (.ref C5) = some false)
    (xw1_5 : PySem.W.kitOne K (.ref C1) (.ref C5) = some false)
    (xw2_5 : PySem.W.kitOne K (.ref C2) (.ref C5) = some false)
    (xw3_5 : PySem.W.kitOne K (.ref C3) (.ref C5) = some false)
    (xw4_5 : PySem.W.kitOne K (.ref C4) (.ref C5) = some false)
    (xw5_5 : PySem.W.kitOne K (.ref C5) (.ref C5) = some true)
    (xw6_5 : PySem.W.kitOne K (.ref C6) (.ref C5) = some false)
    (xw7_5 : PySem.W.kitOne K (.ref C7) (.ref C5) = some false)
    (xw8_5 : PySem.W.kitOne K (.ref C8) (.ref C5) = some false)
    (xw9_5 : PySem.W.kitOne K (.ref C9) (.ref C5) = some false)
    (xw10_5 : PySem.W.kitOne K (.ref C10) (.ref C5) = some false)
    (xw11_5 : PySem.W.kitOne K (.ref C11) (.ref C5) = some false)
    (xw12_5 : PySem.W.kitOne K (.ref C12) (.ref C5) = some false)
    (xw13_5 : PySem.W.kitOne K (.ref C13) (.ref C5) = some false)
    (xw14_5 : PySem.W.kitOne K (.ref C14) (.ref C5) = some false)
    (xw15_5 : PySem.W.kitOne K (.ref C15) (.ref C5) = some false)
    (xw16_5 : PySem.W.kitOne K (.ref C16) (.ref C5) = some false)
    (xw17_5 : PySem.W.kitOne K (.ref C17) (.ref C5) = some false)
    (xv5 : PySem.W.kitOne K (.type "NoneType") (.ref C5) = some false)
    (xw0_6 : PySem.W.kitOne K (.ref C0) (.ref C6) = some false)
    (xw1_6 : PySem.W.kitOne K (.ref C1) (.ref C6) = some false)
    (xw2_6 : PySem.W.kitOne K (.ref C2) (.ref C6) = some false)
    (xw3_6 : PySem.W.kitOne K (.ref C3) (.ref C6) = some false)
    (xw4_6 : PySem.W.kitOne K (.ref C4) (.ref C6) = some false)
    (xw5_6 : PySem.W.kitOne K (.ref C5) (.ref C6) = some false)
    (xw6_6 : PySem.W.kitOne K (.ref C6) (.ref C6) = some true)
    (xw7_6 : PySem.W.kitOne K (.ref C7) (.ref C6) = some false)
    (xw8_6 : PySem.W.kitOne K (.ref C8) (.ref C6) = some false)
    (xw9_6 : PySem.W.kitOne K (.ref C9) (.ref C6) = some false)
    (xw10_6 : PySem.W.kitOne K (.ref C10) (.ref C6) = some false)
    (xw11_6 : PySem.W.kitOne K (.ref C11) (.ref C6) = some false)
    (xw12_6 : PySem.W.kitOne K (.ref C12) (.ref C6) = some false)
    (xw13_6 : PySem.W.kitOne K (.ref C13) (.ref C6) = some false)
    (xw14_6 : PySem.W.kitOne K (.ref C14) (.ref C6) = some false)
    (xw15_6 : PySem.W.kitOne K (.ref C15) (.ref C6) = some false)
    (xw16_6 : PySem.W.kitOne K (.ref C16) (.ref C6) = some false)
    (xw17_6 : PySem.W.kitOne K (.ref C17) (.ref C6) = some false)
    (xv6 : PySem.W.kitOne K (.type "NoneType") (.ref C6) = some false)
    (xw0_7 : PySem.W.kitOne K (.ref C0) (.ref C7) = some false)
    (xw1_7 : PySem.W.kitOne K (.ref C1) (.ref C7) = some false)
    (xw2_7 : PySem.W.kitOne K (.ref C2) (.ref C7) = some false)
    (xw3_7 : PySem.W.kitOne K (.ref C3) (.ref C7) = some false)
    (xw4_7 : PySem.W.kitOne K (.ref C4) (.ref C7) = some false)
    (xw5_7 : PySem.W.kitOne K (.ref C5) (.ref C7) = some false)
    (xw6_7 : PySem.W.kitOne K (.ref C6) (.ref C7) = some false)
    (xw7_7 : PySem.W.kitOne K (.ref C7) (.ref C7) = some true)
    (xw8_7 : PySem.W.kitOne K (.ref C8) (.ref C7) = some false)
    (xw9_7 : PySem.W.kitOne K (.ref C9) (.ref C7) = some false)
    (xw10_7 : PySem.W.kitOne K (.ref C10) (.ref C7) = some false)
    (xw11_7 : PySem.W.kitOne K (.ref C11) (.ref C7) = some false)
    (xw12_7 : PySem.W.kitOne K (.ref C12) (.ref C7) = some false)
    (xw13_7 : PySem.W.kitOne K (.ref C13) (.ref C7) = some false)
    (xw14_7 : PySem.W.kitOne K (.ref C14) (.ref C7) = some false)
    (xw15_7 : PySem.W.kitOne K (.ref C15) (.ref C7) = some false)
    (xw16_7 : PySem.W.kitOne K (.ref C16) (.ref C7) = some false)
    (xw17_7 : PySem.W.kitOne K (.ref C17) (.ref C7) = some false)
    (xv7 : PySem.W.kitOne K (.type "NoneType") (.ref C7) = some false)
    (xw0_8 : PySem.W.kitOne K (.ref C0) (.ref C8) = some false)
    (xw1_8 : PySem.W.kitOne K (.ref C1) (.ref C8) = some false)
    (xw2_8 : PySem.W.kitOne K (.ref C2) (.ref C8) = some false)
    (xw3_8 : PySem.W.kitOne K (.ref C3) (.ref C8) = some false)
    (xw4_8 : PySem.W.kitOne K (.ref C4) (.ref C8) = some false)
    (xw5_8 : PySem.W.kitOne K (.ref C5) (.ref C8) = some false)
    (xw6_8 : PySem.W.kitOne K (.ref C6) (.ref C8) = some false)
    (xw7_8 : PySem.W.kitOne K (.ref C7) (.ref C8) = some false)
    (xw8_8 : PySem.W.kitOne K (.ref C8) (.ref C8) = some true)
    (xw9_8 : PySem.W.kitOne K (.ref C9) (.ref C8) = some false)
    (xw10_8 : PySem.W.kitOne K (.ref C10) (.ref C8) = some false)
    (xw11_8 : PySem.W.kitOne K (.ref C11) (.ref C8) = some false)
    (xw12_8 : PySem.W.kitOne K (.ref C12) (.ref C8) = some false)
    (xw13_8 : PySem.W.kitOne K (.ref C13) (.ref C8) = some false)
    (xw14_8 : PySem.W.kitOne K (.ref C14) (.ref C8) = some false)
    (xw15_8 : PySem.W.kitOne K (.ref C15) (.ref C8) = some false)
    (xw16_8 : PySem.W.kitOne K (.ref C16) (.ref C8) = some false)
    (xw17_8 : PySem.W.kitOne K (.ref C17) (.ref C8) = some false)
    (xv8 : PySem.W.kitOne K (.type "NoneType") (.ref C8) = some false)
    (xw0_9 : PySem.W.kitOne K (.ref C0) (.ref C9) = some false)
    (xw1_9 : PySem.W.kitOne K (.ref C1) (.ref C9) = some false)
    (xw2_9 : PySem.W.kitOne K (.ref C2) (.ref C9) = some false)
    (xw3_9 : PySem.W.kitOne K (.ref C3) (.ref C9) = some false)
    (xw4_9 : PySem.W.kitOne K (.ref C4) (.ref C9) = some false)
    (xw5_9 : PySem.W.kitOne K (.ref C5) (.ref C9) = some false)
    (xw6_9 : PySem.W.kitOne K (.ref C6) (.ref C9) = some false)
    (xw7_9 : PySem.W.kitOne K (.ref C7) (.ref C9) = some false)
    (xw8_9 : PySem.W.kitOne K (.ref C8) (.ref C9) = some false)
    (xw9_9 : PySem.W.kitOne K (.ref C9) (.ref C9) = some true)
    (xw10_9 : PySem.W.kitOne K (.ref C10) (.ref C9) = some false)
    (xw11_9 : PySem.W.kitOne K (.ref C11) (.ref C9) = some false)
    (xw12_9 : PySem.W.kitOne K (.ref C12) (.ref C9) = some false)
    (xw13_9 : PySem.W.kitOne K (.ref C13) (.ref C9) = some false)
    (xw14_9 : PySem.W.kitOne K (.ref C14) (.ref C9) = some false)
    (xw15_9 : PySem.W.kitOne K (.ref C15) (.ref C9) = some false)
    (xw16_9 : PySem.W.kitOne K (.ref C16) (.ref C9) = some false)
    (xw17_9 : PySem.W.kitOne K (.ref C17) (.ref C9) = some false)
    (xv9 : PySem.W.kitOne K (.type "NoneType") (.ref C9) = some false)
    (xw0_10 : PySem.W.kitOne K (.ref C0) (.ref C10) = some false)
    (xw1_10 : PySem.W.kitOne K (.ref C1) (.ref C10) = some false)
    (xw2_10 : PySem.W.kitOne K (.ref C2) (.ref C10) = some false)
    (xw3_10 : PySem.W.kitOne K (.ref C3) (.ref C10) = some false)
    (xw4_10 : PySem.W.kitOne K (.ref C4) (.ref C10) = some false)
    (xw5_10 : PySem.W.kitOne K (.ref C5) (.ref C10) = some false)
    (xw6_10 : PySem.W.kitOne K (.ref C6) (.ref C10) = some false)
    (xw7_10 : PySem.W.kitOne K (.ref C7) (.ref C10) = some false)
    (xw8_10 : PySem.W.kitOne K (.ref C8) (.ref C10) = some false)
    (xw9_10 : PySem.W.kitOne K (.ref C9) (.ref C10) = some false)
    (xw10_10 : PySem.W.kitOne K (.ref C10) (.ref C10) = some true)
    (xw11_10 : PySem.W.kitOne K (.ref C11) (.ref C10) = some false)
    (xw12_10 : PySem.W.kitOne K (.ref C12) (.ref C10) = some false)
    (xw13_10 : PySem.W.kitOne K (.ref C13) (.ref C10) = some false)
    (xw14_10 : PySem.W.kitOne K (.ref C14) (.ref C10) = some false)
    (xw15_10 : PySem.W.kitOne K (.ref C15) (.ref C10) = some false)
    (xw16_10 : PySem.W.kitOne K (.ref C16) (.ref C10) = some false)
    (xw17_10 : PySem.W.kitOne K (.ref C17) (.ref C10) = some false)
    (xv10 : PySem.W.kitOne K (.type "NoneType") (.ref C10) = some false)
    (xw0_11 : PySem.W.kitOne K (.ref C0) (.ref C11) = some false)
    (xw1_11 : PySem.W.kitOne K (.ref C1) (.ref C11) = some false)
    (xw2_11 : PySem.W.kitOne K (.ref C2) (.ref C11) = some false)
    (xw3_11 : PySem.W.kitOne K (.ref C3) (.ref C11) = some false)
    (xw4_11 : PySem.W.kitOne K (.ref C4) (.ref C11) = some false)
    (xw5_11 : PySem.W.kitOne K (.ref C5) (.ref C11) = some false)
    (xw6_11 : PySem.W.kitOne K (.ref C6) (.ref C11) = some false)
    (xw7_11 : PySem.W.kitOne K (.ref C7) (.ref C11) = some false)
    (xw8_11 : PySem.W.kitOne K (.ref C8) (.ref C11) = some false)
    (xw9_11 : PySem.W.kitOne K (.ref C9) (.ref C11) = some false)
    (xw10_11 : PySem.W.kitOne K (.ref C10) (.ref C11) = some false)
    (xw11_11 : PySem.W.kitOne K (.ref C11) (.ref C11) = some true)
    (xw12_11 : PySem.W.kitOne K (.ref C12) (.ref C11) = some false)
    (xw13_11 : PySem.W.kitOne K (.ref C13) (.ref C11) = some false)
    (xw14_11 : PySem.W.kitOne K (.ref C14) (.ref C11) = some false)
    (xw15_11 : PySem.W.kitOne K (.ref C15) (.ref C11) = some false)
    (xw16_11 : PySem.W.kitOne K (.ref C16) (.ref C11) = some false)
    (xw17_11 : PySem.W.kitOne K (.ref C17) (.ref C11) = some false)
    (xv11 : PySem.W.kitOne K (.type "NoneType") (.ref C11) = some false)
    (xw0_3 : PySem.W.kitOne K (.ref C0) (.ref C3) = some false)
    (xw1_3 : PySem.W.kitOne K (.ref C1) (.ref C3) = some false)
    (xw2_3 : PySem.W.kitOne K (.ref C2) (.ref C3) = some false)
    (xw3_3 : PySem.W.kitOne K (.ref C3) (.ref C3) = some true)
    (xw4_3 : PySem.W.kitOne K (.ref C4) (.ref C3) = some false)
    (xw5_3 : PySem.W.kitOne K (.ref C5) (.ref C3) = some false)
    (xw6_3 : PySem.W.kitOne K (.ref C6) (.ref C3) = some false)
    (xw7_3 : PySem.W.kitOne K (.ref C7) (.ref C3) = some false)
    (xw8_3 : PySem.W.kitOne K (.ref C8) (.ref C3) = some false)
    (xw9_3 : PySem.W.kitOne K (.ref C9) (.ref C3) = some false)
    (xw10_3 : PySem.W.kitOne K (.ref C10) (.ref C3) = some false)
    (xw11_3 : PySem.W.kitOne K (.ref C11) (.ref C3) = some false)
    (xw12_3 : PySem.W.kitOne K (.ref C12) (.ref C3) = some false)
    (xw13_3 : PySem.W.kitOne K (.ref C13) (.ref C3) = some false)
    (xw14_3 : PySem.W.kitOne K (.ref C14) (.ref C3) = some false)
    (xw15_3 : PySem.W.kitOne K (.ref C15) (.ref C3) = some false)
    (xw16_3 : PySem.W.kitOne K (.ref C16) (.ref C3) = some false)
    (xw17_3 : PySem.W.kitOne K (.ref C17) (.ref C3) = some false)
    (xv3 : PySem.W.kitOne K (.type "NoneType") (.ref C3) = some false)
    (xw0_12 : PySem.W.kitOne K (.ref C0) (.ref C12) = some false)
    (xw1_12 : PySem.W.kitOne K (.ref C1) (.ref C12) = some false)
    (xw2_12 : PySem.W.kitOne K (.ref C2) (.ref C12) = some false)
    (xw3_12 : PySem.W.kitOne K (.ref C3) (.ref C12) = some false)
    (xw4_12 : PySem.W.kitOne K (.ref C4) (.ref C12) = some false)
    (xw5_12 : PySem.W.kitOne K (.ref C5) (.ref C12) = some false)
    (xw6_12 : PySem.W.kitOne K (.ref C6) (.ref C12) = some false)
    (xw7_12 : PySem.W.kitOne K (.ref C7) (.ref C12) = some false)
    (xw8_12 : PySem.W.kitOne K (.ref C8) (.ref C12) = some false)
    (xw9_12 : PySem.W.kitOne K (.ref C9) (.ref C12) = some false)
    (xw10_12 : PySem.W.kitOne K (.ref C10) (.ref C12) = some false)
    (xw11_12 : PySem.W.kitOne K (.ref C11) (.ref C12) = some false)
    (xw12_12 : PySem.W.kitOne K (.ref C12) (.ref C12) = some true)
    (xw13_12 : PySem.W.kitOne K (.ref C13) (.ref C12) = some false)
    (xw14_12 : PySem.W.kitOne K (.ref C14) (.ref C12) = some false)
    (xw15_12 : PySem.W.kitOne K (.ref C15) (.ref C12) = some false)
    (xw16_12 : PySem.W.kitOne K (.ref C16) (.ref C12) = some false)
    (xw17_12 : PySem.W.kitOne K (.ref C17) (.ref C12) = some false)
    (xv12 : PySem.W.kitOne K (.type "NoneType") (.ref C12) = some false)
    (xw0_13 : PySem.W.kitOne K (.ref C0) (.ref C13) = some false)
    (xw1_13 : PySem.W.kitOne K (.ref C1) (.ref C13) = some false)
    (xw2_13 : PySem.W.kitOne K (.ref C2) (.ref C13) = some false)
    (xw3_13 : PySem.W.kitOne K (.ref C3) (.ref C13) = some false)
    (xw4_13 : PySem.W.kitOne K (.ref C4) (.ref C13) = some false)
    (xw5_13 : PySem.W.kitOne K (.ref C5) (.ref C13) = some false)
    (xw6_13 : PySem.W.kitOne K (.ref C6) (.ref C13) = some false)
    (xw7_13 : PySem.W.kitOne K (.ref C7) (.ref C13) = some false)
    (xw8_13 : PySem.W.kitOne K (.ref C8) (.ref C13) = some false)
    (xw9_13 : PySem.W.kitOne K (.ref C9) (.ref C13) = some false)
    (xw10_13 : PySem.W.kitOne K (.ref C10) (.ref C13) = some false)
    (xw11_13 : PySem.W.kitOne K (.ref C11) (.ref C13) = some false)
    (xw12_13 : PySem.W.kitOne K (.ref C12) (.ref C13) = some false)
    (xw13_13 : PySem.W.kitOne K (.ref C13) (.ref C13) = some true)
    (xw14_13 : PySem.W.kitOne K (.ref C14) (.ref C13) = some false)
    (xw15_13 : PySem.W.kitOne K (.ref C15) (.ref C13) = some false)
    (xw16_13 : PySem.W.kitOne K (.ref C16) (.ref C13) = some false)
    (xw17_13 : PySem.W.kitOne K (.ref C17) (.ref C13) = some false)
    (xv13 : PySem.W.kitOne K (.type "NoneType") (.ref C13) = some false)
    (xw0_14 : PySem.W.kitOne K (.ref C0) (.ref C14) = some false)
    (xw1_14 : PySem.W.kitOne K (.ref C1) (.ref C14) = some false)
    (xw2_14 : PySem.W.kitOne K (.ref C2) (.ref C14) = some false)
    (xw3_14 : PySem.W.kitOne K (.ref C3) (.ref C14) = some false)
    (xw4_14 : PySem.W.kitOne K (.ref C4) (.ref C14) = some false)
    (xw5_14 : PySem.W.kitOne K (.ref C5) (.ref C14) = some false)
    (xw6_14 : PySem.W.kitOne K (.ref C6) (.ref C14) = some false)
    (xw7_14 : PySem.W.kitOne K (.ref C7) (.ref C14) = some false)
    (xw8_14 : PySem.W.kitOne K (.ref C8) (.ref C14) = some false)
    (xw9_14 : PySem.W.kitOne K (.ref C9) (.ref C14) = some false)
    (xw10_14 : PySem.W.kitOne K (.ref C10) (.ref C14) = some false)
    (xw11_14 : PySem.W.kitOne K (.ref C11) (.ref C14) = some false)
    (xw12_14 : PySem.W.kitOne K (.ref C12) (.ref C14) = some false)
    (xw13_14 : PySem.W.kitOne K (.ref C13) (.ref C14) = some false)
    (xw14_14 : PySem.W.kitOne K (.ref C14) (.ref C14) = some true)
    (xw15_14 : PySem.W.kitOne K (.ref C15) (.ref C14) = some false)
    (xw16_14 : PySem.W.kitOne K (.ref C16) (.ref C14) = some false)
    (xw17_14 : PySem.W.kitOne K (.ref C17) (.ref C14) = some false)
    (xv14 : PySem.W.kitOne K (.type "NoneType") (.ref C14) = some false)
    (xw0_15 : PySem.W.kitOne K (.ref C0) (.ref C15) = some false)
    (xw1_15 : PySem.W.kitOne K (.ref C1) (.ref C15) = some false)
    (xw2_15 : PySem.W.kitOne K (.ref C2) (.ref C15) = some false)
    (xw3_15 : PySem.W.kitOne K (.ref C3) (.ref C15) = some false)
    (xw4_15 : PySem.W.kitOne K (.ref C4) (.ref C15) = some false)
    (xw5_15 : PySem.W.kitOne K (.ref C5) (.ref C15) = some false)
    (xw6_15 : PySem.W.kitOne K (.ref C6) (.ref C15) = some false)
    (xw7_15 : PySem.W.kitOne K (.ref C7) (.ref C15) = some false)
    (xw8_15 : PySem.W.kitOne K (.ref C8) (.ref C15) = some false)
    (xw9_15 : PySem.W.kitOne K (.ref C9) (.ref C15) = some false)
    (xw10_15 : PySem.W.kitOne K (.ref C10) (.ref C15) = some false)
    (xw11_15 : PySem.W.kitOne K (.ref C11) (.ref C15) = some false)
    (xw12_15 : PySem.W.kitOne K (.ref C12) (.ref C15) = some false)
    (xw13_15 : PySem.W.kitOne K (.ref C13) (.ref C15) = some false)
    (xw14_15 : PySem.W.kitOne K (.ref C14) (.ref C15) = some false)
    (xw15_15 : PySem.W.kitOne K (.ref C15) (.ref C15) = some true)
    (xw16_15 : PySem.W.kitOne K (.ref C16) (.ref C15) = some false)
    (xw17_15 : PySem.W.kitOne K (.ref C17) (.ref C15) = some false)
    (xv15 : PySem.W.kitOne K (.type "NoneType") (.ref C15) = some false)
    (xw0_16 : PySem.W.kitOne K (.ref C0) (.ref C16) = some false)
    (xw1_16 : PySem.W.kitOne K (.ref C1) (.ref C16) = some false)
    (xw2_16 : PySem.W.kitOne K (.ref C2) (.ref C16) = some false)
    (xw3_16 : PySem.W.kitOne K (.ref C3) (.ref C16) = some false)
    (xw4_16 : PySem.W.kitOne K (.ref C4) (.ref C16) = some false)
    (xw5_16 : PySem.W.kitOne K (.ref C5) (.ref C16) = some false)
    (xw6_16 : PySem.W.kitOne K (.ref C6) (.ref C16) = some false)
    (xw7_16 : PySem.W.kitOne K (.ref C7) (.ref C16) = some false)
    (xw8_16 : PySem.W.kitOne K (.ref C8) (.ref C16) = some false)
    (xw9_16 : PySem.W.kitOne K (.ref C9) (.ref C16) = some false)
    (xw10_16 : PySem.W.kitOne K (.ref C10) (.ref C16) = some false)
    (xw11_16 : PySem.W.kitOne K (.ref C11) (.ref C16) = some false)
    (xw12_16 : PySem.W.kitOne K (.ref C12) (.ref C16) = some false)
    (xw13_16 : PySem.W.kitOne K (.ref C13) (.ref C16) = some false)
    (xw14_16 : PySem.W.kitOne K (.ref C14) (.ref C16) = some false)
    (xw15_16 : PySem.W.kitOne K (.ref C15) (.ref C16) = some false)
    (xw16_16 : PySem.W.kitOne K (.ref C16) (.ref C16) = some true)
    (xw17_16 : PySem.W.kitOne K (.ref C17) (.ref C16) = some false)
    (xv16 : PySem.W.kitOne K (.type "NoneType") (.ref C16) = some false)
    (xw0_17 : PySem.W.kitOne K (.ref C0) (.ref C17) = some false)
    (xw1_17 : PySem.W.kitOne K (.ref C1) (.ref C17) = some false)
    (xw2_17 : PySem.W.kitOne K (.ref C2) (.ref C17) = some false)
    (xw3_17 : PySem.W.kitOne K (.ref C3) (.ref C17) = some false)
    (xw4_17 : PySem.W.kitOne K (.ref C4) (.ref C17) = some false)
    (xw5_17 : PySem.W.kitOne K (.ref C5) (.ref C17) = some false)
    (xw6_17 : PySem.W.kitOne K (.ref C6) (.ref C17) = some false)
    (xw7_17 : PySem.W.kitOne K (.ref C7) (.ref C17) = some false)
    (xw8_17 : PySem.W.kitOne K (.ref C8) (.ref C17) = some false)
    (xw9_17 : PySem.W.kitOne K (.ref C9) (.ref C17) = some false)
    (xw10_17 : PySem.W.kitOne K (.ref C10) (.ref C17) = some false)
    (xw11_17 : PySem.W.kitOne K (.ref C11) (.ref C17) = some false)
    (xw12_17 : PySem.W.kitOne K (.ref C12) (.ref C17) = some false)
    (xw13_17 : PySem.W.kitOne K (.ref C13) (.ref C17) = some false)
    (xw14_17 : PySem.W.kitOne K (.ref C14) (.ref C17) = some false)
    (xw15_17 : PySem.W.kitOne K (.ref C15) (.ref C17) = some false)
    (xw16_17 : PySem.W.kitOne K (.ref C16) (.ref C17) = some false)
    (xw17_17 : PySem.W.kitOne K (.ref C17) (.ref C17) = some true)
    (xv17 : PySem.W.kitOne K (.type "NoneType") (.ref C17) = some false) :
    ∃ fd : FuncData, (∀ (s : Shared) (u : Value), BindsTo s fd ⟨[u], []⟩ [("_law_script", u)]) ∧ ∀ base : Heap, K.In base → base.Ns mainGlobals mg → FnG PySem.Challenge.pw_burnrank_k04_refusals wd K mg base CX0 7 fa fd ["_law_script"] (spLaw K) := by
  have bl : Bl mg := ⟨PySem.W.mg_none_of X G z0, PySem.W.mg_none_of X G z1, PySem.W.mg_none_of X G z2, PySem.W.mg_none_of X G z3, PySem.W.mg_none_of X G z4, PySem.W.mg_none_of X G z5, PySem.W.mg_none_of X G z6, PySem.W.mg_none_of X G z7, PySem.W.mg_none_of X G z8, PySem.W.mg_none_of X G z9, PySem.W.mg_none_of X G z10, PySem.W.mg_none_of X G z11, PySem.W.mg_none_of X G z12, PySem.W.mg_none_of X G z13, PySem.W.mg_none_of X G z14, PySem.W.mg_none_of X G z15, PySem.W.mg_none_of X G z16, PySem.W.mg_none_of X G z17⟩
  have E_NoWeb : ExcAt K mg (ctF [(0, C0), (1, C1), (2, C2), (3, C3), (4, C4), (5, C5), (6, C6), (7, C7), (8, C8), (9, C9), (10, C10), (11, C11), (12, C12), (13, C13), (14, C14), (15, C15), (16, C16), (17, C17)] [(12, ("many" : Str)), (13, ("name" : Str)), (14, ("name" : Str)), (15, ("name" : Str)), (16, ("most" : Str)), (17, ("number" : Str))]) 0 "NoWeb" := excAt X G rfl xa0 xq0 xp0 xs0 xt0
  have E_NoHeap : ExcAt K mg (ctF [(0, C0), (1, C1), (2, C2), (3, C3), (4, C4), (5, C5), (6, C6), (7, C7), (8, C8), (9, C9), (10, C10), (11, C11), (12, C12), (13, C13), (14, C14), (15, C15), (16, C16), (17, C17)] [(12, ("many" : Str)), (13, ("name" : Str)), (14, ("name" : Str)), (15, ("name" : Str)), (16, ("most" : Str)), (17, ("number" : Str))]) 1 "NoHeap" := excAt X G rfl xa1 xq1 xp1 xs1 xt1
  have E_NoFiring : ExcAt K mg (ctF [(0, C0), (1, C1), (2, C2), (3, C3), (4, C4), (5, C5), (6, C6), (7, C7), (8, C8), (9, C9), (10, C10), (11, C11), (12, C12), (13, C13), (14, C14), (15, C15), (16, C16), (17, C17)] [(12, ("many" : Str)), (13, ("name" : Str)), (14, ("name" : Str)), (15, ("name" : Str)), (16, ("most" : Str)), (17, ("number" : Str))]) 2 "NoFiring" := excAt X G rfl xa2 xq2 xp2 xs2 xt2
  have E_NoOrder : ExcAt K mg (ctF [(0, C0), (1, C1), (2, C2), (3, C3), (4, C4), (5, C5), (6, C6), (7, C7), (8, C8), (9, C9), (10, C10), (11, C11), (12, C12), (13, C13), (14, C14), (15, C15), (16, C16), (17, C17)] [(12, ("many" : Str)), (13, ("name" : Str)), (14, ("name" : Str)), (15, ("name" : Str)), (16, ("most" : Str)), (17, ("number" : Str))]) 3 "NoOrder" := excAt X G rfl xa3 xq3 xp3 xs3 xt3
  have E_NoPlace : ExcAt K mg (ctF [(0, C0), (1, C1), (2, C2), (3, C3), (4, C4), (5, C5), (6, C6), (7, C7), (8, C8), (9, C9), (10, C10), (11, C11), (12, C12), (13, C13), (14, C14), (15, C15), (16, C16), (17, C17)] [(12, ("many" : Str)), (13, ("name" : Str)), (14, ("name" : Str)), (15, ("name" : Str)), (16, ("most" : Str)), (17, ("number" : Str))]) 4 "NoPlace" := excAt X G rfl xa4 xq4 xp4 xs4 xt4
  have E_NoClass : ExcAt K mg (ctF [(0, C0), (1, C1), (2, C2), (3, C3), (4, C4), (5, C5), (6, C6), (7, C7), (8, C8), (9, C9), (10, C10), (11, C11), (12, C12), (13, C13), (14, C14), (15, C15), (16, C16), (17, C17)] [(12, ("many" : Str)), (13, ("name" : Str)), (14, ("name" : Str)), (15, ("name" : Str)), (16, ("most" : Str)), (17, ("number" : Str))]) 5 "NoClass" := excAt X G rfl xa5 xq5 xp5 xs5 xt5
  have E_NoTree : ExcAt K mg (ctF [(0, C0), (1, C1), (2, C2), (3, C3), (4, C4), (5, C5), (6, C6), (7, C7), (8, C8), (9, C9), (10, C10), (11, C11), (12, C12), (13, C13), (14, C14), (15, C15), (16, C16), (17, C17)] [(12, ("many" : Str)), (13, ("name" : Str)), (14, ("name" : Str)), (15, ("name" : Str)), (16, ("most" : Str)), (17, ("number" : Str))]) 6 "NoTree" := excAt X G rfl xa6 xq6 xp6 xs6 xt6
  have E_NoTaking : ExcAt K mg (ctF [(0, C0), (1, C1), (2, C2), (3, C3), (4, C4), (5, C5), (6, C6), (7, C7), (8, C8), (9, C9), (10, C10), (11, C11), (12, C12), (13, C13), (14, C14), (15, C15), (16, C16), (17, C17)] [(12, ("many" : Str)), (13, ("name" : Str)), (14, ("name" : Str)), (15, ("name" : Str)), (16, ("most" : Str)), (17, ("number" : Str))]) 7 "NoTaking" := excAt X G rfl xa7 xq7 xp7 xs7 xt7
  have E_NoMap : ExcAt K mg (ctF [(0, C0), (1, C1), (2, C2), (3, C3), (4, C4), (5, C5), (6, C6), (7, C7), (8, C8), (9, C9), (10, C10), (11, C11), (12, C12), (13, C13), (14, C14), (15, C15), (16, C16), (17, C17)] [(12, ("many" : Str)), (13, ("name" : Str)), (14, ("name" : Str)), (15, ("name" : Str)), (16, ("most" : Str)), (17, ("number" : Str))]) 8 "NoMap" := excAt X G rfl xa8 xq8 xp8 xs8 xt8
  have E_NoTie : ExcAt K mg (ctF [(0, C0), (1, C1), (2, C2), (3, C3), (4, C4), (5, C5), (6, C6), (7, C7), (8, C8), (9, C9), (10, C10), (11, C11), (12, C12), (13, C13), (14, C14), (15, C15), (16, C16), (17, C17)] [(12, ("many" : Str)), (13, ("name" : Str)), (14, ("name" : Str)), (15, ("name" : Str)), (16, ("most" : Str)), (17, ("number" : Str))]) 9 "NoTie" := excAt X G rfl xa9 xq9 xp9 xs9 xt9
  have E_NoDeed : ExcAt K mg (ctF [(0, C0), (1, C1), (2, C2), (3, C3), (4, C4), (5, C5), (6, C6), (7, C7), (8, C8), (9, C9), (10, C10), (11, C11), (12, C12), (13, C13), (14, C14), (15, C15), (16, C16), (17, C17)] [(12, ("many" : Str)), (13, ("name" : Str)), (14, ("name" : Str)), (15, ("name" : Str)), (16, ("most" : Str)), (17, ("number" : Str))]) 10 "NoDeed" := excAt X G rfl xa10 xq10 xp10 xs10 xt10
  have E_NoChange : ExcAt K mg (ctF [(0, C0), (1, C1), (2, C2), (3, C3), (4, C4), (5, C5), (6, C6), (7, C7), (8, C8), (9, C9), (10, C10), (11, C11), (12, C12), (13, C13), (14, C14), (15, C15), (16, C16), (17, C17)] [(12, ("many" : Str)), (13, ("name" : Str)), (14, ("name" : Str)), (15, ("name" : Str)), (16, ("most" : Str)), (17, ("number" : Str))]) 11 "NoChange" := excAt X G rfl xa11 xq11 xp11 xs11 xt11
  have xE : ∀ c, ExcC K ((ctF [(0, C0), (1, C1), (2, C2), (3, C3), (4, C4), (5, C5), (6, C6), (7, C7), (8, C8), (9, C9), (10, C10), (11, C11), (12, C12), (13, C13), (14, C14), (15, C15), (16, C16), (17, C17)] [(12, ("many" : Str)), (13, ("name" : Str)), (14, ("name" : Str)), (15, ("name" : Str)), (16, ("most" : Str)), (17, ("number" : Str))]) c).1 := ctF_all (P := fun _ a => ExcC K a) (by simp) (fun p hp => by
    simp only [List.mem_cons, List.not_mem_nil, or_false] at hp
    rcases hp with rfl | rfl | rfl | rfl | rfl | rfl | rfl | rfl | rfl | rfl | rfl | rfl | rfl | rfl | rfl | rfl | rfl | rfl
    · exact ⟨xg0, xh0, xs0, xd0, xc0, xcn, xct, xm0⟩
    · exact ⟨xg1, xh1, xs1, xd1, xc1, xcn, xct, xm1⟩
    · exact ⟨xg2, xh2, xs2, xd2, xc2, xcn, xct, xm2⟩
    · exact ⟨xg3, xh3, xs3, xd3, xc3, xcn, xct, xm3⟩
    · exact ⟨xg4, xh4, xs4, xd4, xc4, xcn, xct, xm4⟩
    · exact ⟨xg5, xh5, xs5, xd5, xc5, xcn, xct, xm5⟩
    · exact ⟨xg6, xh6, xs6, xd6, xc6, xcn, xct, xm6⟩
    · exact ⟨xg7, xh7, xs7, xd7, xc7, xcn, xct, xm7⟩
    · exact ⟨xg8, xh8, xs8, xd8, xc8, xcn, xct, xm8⟩
    · exact ⟨xg9, xh9, xs9, xd9, xc9, xcn, xct, xm9⟩
    · exact ⟨xg10, xh10, xs10, xd10, xc10, xcn, xct, xm10⟩
    · exact ⟨xg11, xh11, xs11, xd11, xc11, xcn, xct, xm11⟩
    · exact ⟨xg12, xh12, xs12, xd12, xc12, xcn, xct, xm12⟩
    · exact ⟨xg13, xh13, xs13, xd13, xc13, xcn, xct, xm13⟩
    · exact ⟨xg14, xh14, xs14, xd14, xc14, xcn, xct, xm14⟩
    · exact ⟨xg15, xh15, xs15, xd15, xc15, xcn, xct, xm15⟩
    · exact ⟨xg16, xh16, xs16, xd16, xc16, xcn, xct, xm16⟩
    · exact ⟨xg17, xh17, xs17, xd17, xc17, xcn, xct, xm17⟩)
  have mB := PySem.W.mg_of X G xaB
  have IB : InitC K CB := ⟨⟨_, xbm, xbr, xbf⟩, xbg⟩
  have gC_TooMany : mg "TooMany" = some (.ref ((ctF [(0, C0), (1, C1), (2, C2), (3, C3), (4, C4), (5, C5), (6, C6), (7, C7), (8, C8), (9, C9), (10, C10), (11, C11), (12, C12), (13, C13), (14, C14), (15, C15), (16, C16), (17, C17)] [(12, ("many" : Str)), (13, ("name" : Str)), (14, ("name" : Str)), (15, ("name" : Str)), (16, ("most" : Str)), (17, ("number" : Str))]) 12).1) := PySem.W.mg_of X G xa12
  have FE12 := fun_mk (st := (inClass (top 14) 0)) xil12 xic12 xik12
  have bE12 : Binds K _ ["self", "many"] [] := binds_mk FE12 fun _ _ _ _ _ _ us hl => match us, hl with | [_, _], _ => rfl
  have OE12 : OexC K ((ctF [(0, C0), (1, C1), (2, C2), (3, C3), (4, C4), (5, C5), (6, C6), (7, C7), (8, C8), (9, C9), (10, C10), (11, C11), (12, C12), (13, C13), (14, C14), (15, C15), (16, C16), (17, C17)] [(12, ("many" : Str)), (13, ("name" : Str)), (14, ("name" : Str)), (15, ("name" : Str)), (16, ("most" : Str)), (17, ("number" : Str))]) 12).1 := ⟨oex_cls xoi12, xsa12, xs12, xt12, xp12⟩
  have e_TooMany : ∀ base : Heap, KnE PySem.Challenge.pw_burnrank_k04_refusals wd K mg base (ctF [(0, C0), (1, C1), (2, C2), (3, C3), (4, C4), (5, C5), (6, C6), (7, C7), (8, C8), (9, C9), (10, C10), (11, C11), (12, C12), (13, C13), (14, C14), (15, C15), (16, C16), (17, C17)] [(12, ("many" : Str)), (13, ("name" : Str)), (14, ("name" : Str)), (15, ("name" : Str)), (16, ("most" : Str)), (17, ("number" : Str))]) 1 12 "TooMany" := fun base => k_TooMany FE12 bE12 OE12 xia12 xit12 gC_TooMany rfl xin12 mB IB
  have gC_NoName : mg "NoName" = some (.ref ((ctF [(0, C0), (1, C1), (2, C2), (3, C3), (4, C4), (5, C5), (6, C6), (7, C7), (8, C8), (9, C9), (10, C10), (11, C11), (12, C12), (13, C13), (14, C14), (15, C15), (16, C16), (17, C17)] [(12, ("many" : Str)), (13, ("name" : Str)), (14, ("name" : Str)), (15, ("name" : Str)), (16, ("most" : Str)), (17, ("number" : Str))]) 13).1) := PySem.W.mg_of X G xa13
  have FE13 := fun_mk (st := (inClass (top 15) 0)) xil13 xic13 xik13
  have bE13 : Binds K _ ["self", "name"] [] := binds_mk FE13 fun _ _ _ _ _ _ us hl => match us, hl with | [_, _], _ => rfl
  have OE13 : OexC K ((ctF [(0, C0), (1, C1), (2, C2), (3, C3), (4, C4), (5, C5), (6, C6), (7, C7), (8, C8), (9, C9), (10, C10), (11, C11), (12, C12), (13, C13), (14, C14), (15, C15), (16, C16), (17, C17)] [(12, ("many" : Str)), (13, ("name" : Str)), (14, ("name" : Str)), (15, ("name" : Str)), (16, ("most" : Str)), (17, ("number" : Str))]) 13).1 := ⟨oex_cls xoi13, xsa13, xs13, xt13, xp13⟩
  have e_NoName : ∀ base : Heap, KnE PySem.Challenge.pw_burnrank_k04_refusals wd K mg base (ctF [(0, C0), (1, C1), (2, C2), (3, C3), (4, C4), (5, C5), (6, C6), (7, C7), (8, C8), (9, C9), (10, C10), (11, C11), (12, C12), (13, C13), (14, C14), (15, C15), (16, C16), (17, C17)] [(12, ("many" : Str)), (13, ("name" : Str)), (14, ("name" : Str)), (15, ("name" : Str)), (16, ("most" : Str)), (17, ("number" : Str))]) 1 13 "NoName" := fun base => k_NoName FE13 bE13 OE13 xia13 xit13 gC_NoName rfl xin13 mB IB
  have gC_Standing : mg "Standing" = some (.ref ((ctF [(0, C0), (1, C1), (2, C2), (3, C3), (4, C4), (5, C5), (6, C6), (7, C7), (8, C8), (9, C9), (10, C10), (11, C11), (12, C12), (13, C13), (14, C14), (15, C15), (16, C16), (17, C17)] [(12, ("many" : Str)), (13, ("name" : Str)), (14, ("name" : Str)), (15, ("name" : Str)), (16, ("most" : Str)), (17, ("number" : Str))]) 14).1) := PySem.W.mg_of X G xa14
  have FE14 := fun_mk (st := (inClass (top 16) 0)) xil14 xic14 xik14
  have bE14 : Binds K _ ["self", "name"] [] := binds_mk FE14 fun _ _ _ _ _ _ us hl => match us, hl with | [_, _], _ => rfl
  have OE14 : OexC K ((ctF [(0, C0), (1, C1), (2, C2), (3, C3), (4, C4), (5, C5), (6, C6), (7, C7), (8, C8), (9, C9), (10, C10), (11, C11), (12, C12), (13, C13), (14, C14), (15, C15), (16, C16), (17, C17)] [(12, ("many" : Str)), (13, ("name" : Str)), (14, ("name" : Str)), (15, ("name" : Str)), (16, ("most" : Str)), (17, ("number" : Str))]) 14).1 := ⟨oex_cls xoi14, xsa14, xs14, xt14, xp14⟩
  have e_Standing : ∀ base : Heap, KnE PySem.Challenge.pw_burnrank_k04_refusals wd K mg base (ctF [(0, C0), (1, C1), (2, C2), (3, C3), (4, C4), (5, C5), (6, C6), (7, C7), (8, C8), (9, C9), (10, C10), (11, C11), (12, C12), (13, C13), (14, C14), (15, C15), (16, C16), (17, C17)] [(12, ("many" : Str)), (13, ("name" : Str)), (14, ("name" : Str)), (15, ("name" : Str)), (16, ("most" : Str)), (17, ("number" : Str))]) 1 14 "Standing" := fun base => k_Standing FE14 bE14 OE14 xia14 xit14 gC_Standing rfl xin14 mB IB
  have gC_InUse : mg "InUse" = some (.ref ((ctF [(0, C0), (1, C1), (2, C2), (3, C3), (4, C4), (5, C5), (6, C6), (7, C7), (8, C8), (9, C9), (10, C10), (11, C11), (12, C12), (13, C13), (14, C14), (15, C15), (16, C16), (17, C17)] [(12, ("many" : Str)), (13, ("name" : Str)), (14, ("name" : Str)), (15, ("name" : Str)), (16, ("most" : Str)), (17, ("number" : Str))]) 15).1) := PySem.W.mg_of X G xa15
  have FE15 := fun_mk (st := (inClass (top 17) 0)) xil15 xic15 xik15
  have bE15 : Binds K _ ["self", "name"] [] := binds_mk FE15 fun _ _ _ _ _ _ us hl => match us, hl with | [_, _], _ => rfl
  have OE15 : OexC K ((ctF [(0, C0), (1, C1), (2, C2), (3, C3), (4, C4), (5, C5), (6, C6), (7, C7), (8, C8), (9, C9), (10, C10), (11, C11), (12, C12), (13, C13), (14, C14), (15, C15), (16, C16), (17, C17)] [(12, ("many" : Str)), (13, ("name" : Str)), (14, ("name" : Str)), (15, ("name" : Str)), (16, ("most" : Str)), (17, ("number" : Str))]) 15).1 := ⟨oex_cls xoi15, xsa15, xs15, xt15, xp15⟩
  have e_InUse : ∀ base : Heap, KnE PySem.Challenge.pw_burnrank_k04_refusals wd K mg base (ctF [(0, C0), (1, C1), (2, C2), (3, C3), (4, C4), (5, C5), (6, C6), (7, C7), (8, C8), (9, C9), (10, C10), (11, C11), (12, C12), (13, C13), (14, C14), (15, C15), (16, C16), (17, C17)] [(12, ("many" : Str)), (13, ("name" : Str)), (14, ("name" : Str)), (15, ("name" : Str)), (16, ("most" : Str)), (17, ("number" : Str))]) 1 15 "InUse" := fun base => k_InUse FE15 bE15 OE15 xia15 xit15 gC_InUse rfl xin15 mB IB
  have gC_Full : mg "Full" = some (.ref ((ctF [(0, C0), (1, C1), (2, C2), (3, C3), (4, C4), (5, C5), (6, C6), (7, C7), (8, C8), (9, C9), (10, C10), (11, C11), (12, C12), (13, C13), (14, C14), (15, C15), (16, C16), (17, C17)] [(12, ("many" : Str)), (13, ("name" : Str)), (14, ("name" : Str)), (15, ("name" : Str)), (16, ("most" : Str)), (17, ("number" : Str))]) 16).1) := PySem.W.mg_of X G xa16
  have FE16 := fun_mk (st := (inClass (top 18) 0)) xil16 xic16 xik16
  have bE16 : Binds K _ ["self", "most"] [] := binds_mk FE16 fun _ _ _ _ _ _ us hl => match us, hl with | [_, _], _ => rfl
  have OE16 : OexC K ((ctF [(0, C0), (1, C1), (2, C2), (3, C3), (4, C4), (5, C5), (6, C6), (7, C7), (8, C8), (9, C9), (10, C10), (11, C11), (12, C12), (13, C13), (14, C14), (15, C15), (16, C16), (17, C17)] [(12, ("many" : Str)), (13, ("name" : Str)), (14, ("name" : Str)), (15, ("name" : Str)), (16, ("most" : Str)), (17, ("number" : Str))]) 16).1 := ⟨oex_cls xoi16, xsa16, xs16, xt16, xp16⟩
  have e_Full : ∀ base : Heap, KnE PySem.Challenge.pw_burnrank_k04_refusals wd K mg base (ctF [(0, C0), (1, C1), (2, C2), (3, C3), (4, C4), (5, C5), (6, C6), (7, C7), (8, C8), (9, C9), (10, C10), (11, C11), (12, C12), (13, C13), (14, C14), (15, C15), (16, C16), (17, C17)] [(12, ("many" : Str)), (13, ("name" : Str)), (14, ("name" : Str)), (15, ("name" : Str)), (16, ("most" : Str)), (17, ("number" : Str))]) 1 16 "Full" := fun base => k_Full FE16 bE16 OE16 xia16 xit16 gC_Full rfl xin16 mB IB
  have gC_NoMark : mg "NoMark" = some (.ref ((ctF [(0, C0), (1, C1), (2, C2), (3, C3), (4, C4), (5, C5), (6, C6), (7, C7), (8, C8), (9, C9), (10, C10), (11, C11), (12, C12), (13, C13), (14, C14), (15, C15), (16, C16), (17, C17)] [(12, ("many" : Str)), (13, ("name" : Str)), (14, ("name" : Str)), (15, ("name" : Str)), (16, ("most" : Str)), (17, ("number" : Str))]) 17).1) := PySem.W.mg_of X G xa17
  have FE17 := fun_mk (st := (inClass (top 19) 0)) xil17 xic17 xik17
  have bE17 : Binds K _ ["self", "number"] [] := binds_mk FE17 fun _ _ _ _ _ _ us hl => match us, hl with | [_, _], _ => rfl
  have OE17 : OexC K ((ctF [(0, C0), (1, C1), (2, C2), (3, C3), (4, C4), (5, C5), (6, C6), (7, C7), (8, C8), (9, C9), (10, C10), (11, C11), (12, C12), (13, C13), (14, C14), (15, C15), (16, C16), (17, C17)] [(12, ("many" : Str)), (13, ("name" : Str)), (14, ("name" : Str)), (15, ("name" : Str)), (16, ("most" : Str)), (17, ("number" : Str))]) 17).1 := ⟨oex_cls xoi17, xsa17, xs17, xt17, xp17⟩
  have e_NoMark : ∀ base : Heap, KnE PySem.Challenge.pw_burnrank_k04_refusals wd K mg base (ctF [(0, C0), (1, C1), (2, C2), (3, C3), (4, C4), (5, C5), (6, C6), (7, C7), (8, C8), (9, C9), (10, C10), (11, C11), (12, C12), (13, C13), (14, C14), (15, C15), (16, C16), (17, C17)] [(12, ("many" : Str)), (13, ("name" : Str)), (14, ("name" : Str)), (15, ("name" : Str)), (16, ("most" : Str)), (17, ("number" : Str))]) 1 17 "NoMark" := fun base => k_NoMark FE17 bE17 OE17 xia17 xit17 gC_NoMark rfl xin17 mB IB
  have xf_many : ∀ c, [12].contains c = true → XfC K ((ctF [(0, C0), (1, C1), (2, C2), (3, C3), (4, C4), (5, C5), (6, C6), (7, C7), (8, C8), (9, C9), (10, C10), (11, C11), (12, C12), (13, C13), (14, C14), (15, C15), (16, C16), (17, C17)] [(12, ("many" : Str)), (13, ("name" : Str)), (14, ("name" : Str)), (15, ("name" : Str)), (16, ("most" : Str)), (17, ("number" : Str))]) c).1 ∧ PySem.W.findIn K (.ref ((ctF [(0, C0), (1, C1), (2, C2), (3, C3), (4, C4), (5, C5), (6, C6), (7, C7), (8, C8), (9, C9), (10, C10), (11, C11), (12, C12), (13, C13), (14, C14), (15, C15), (16, C16), (17, C17)] [(12, ("many" : Str)), (13, ("name" : Str)), (14, ("name" : Str)), (15, ("name" : Str)), (16, ("most" : Str)), (17, ("number" : Str))]) c).1) "many" = some none ∧ ((ctF [(0, C0), (1, C1), (2, C2), (3, C3), (4, C4), (5, C5), (6, C6), (7, C7), (8, C8), (9, C9), (10, C10), (11, C11), (12, C12), (13, C13), (14, C14), (15, C15), (16, C16), (17, C17)] [(12, ("many" : Str)), (13, ("name" : Str)), (14, ("name" : Str)), (15, ("name" : Str)), (16, ("most" : Str)), (17, ("number" : Str))])).fld c = "many" := fun c hc => by
    have hc := List.contains_iff_mem.mp hc
    simp only [List.mem_cons, List.not_mem_nil, or_false] at hc
    rcases hc with rfl
    · exact ⟨⟨xg12, xh12, xs12, xd12⟩, xin12, rfl⟩
  have xf_most : ∀ c, [16].contains c = true → XfC K ((ctF [(0, C0), (1, C1), (2, C2), (3, C3), (4, C4), (5, C5), (6, C6), (7, C7), (8, C8), (9, C9), (10, C10), (11, C11), (12, C12), (13, C13), (14, C14), (15, C15), (16, C16), (17, C17)] [(12, ("many" : Str)), (13, ("name" : Str)), (14, ("name" : Str)), (15, ("name" : Str)), (16, ("most" : Str)), (17, ("number" : Str))]) c).1 ∧ PySem.W.findIn K (.ref ((ctF [(0, C0), (1, C1), (2, C2), (3, C3), (4, C4), (5, C5), (6, C6), (7, C7), (8, C8), (9, C9), (10, C10), (11, C11), (12, C12), (13, C13), (14, C14), (15, C15), (16, C16), (17, C17)] [(12, ("many" : Str)), (13, ("name" : Str)), (14, ("name" : Str)), (15, ("name" : Str)), (16, ("most" : Str)), (17, ("number" : Str))]) c).1) "most" = some none ∧ ((ctF [(0, C0), (1, C1), (2, C2), (3, C3), (4, C4), (5, C5), (6, C6), (7, C7), (8, C8), (9, C9), (10, C10), (11, C11), (12, C12), (13, C13), (14, C14), (15, C15), (16, C16), (17, C17)] [(12, ("many" : Str)), (13, ("name" : Str)), (14, ("name" : Str)), (15, ("name" : Str)), (16, ("most" : Str)), (17, ("number" : Str))])).fld c = "most" := fun c hc => by
    have hc := List.contains_iff_mem.mp hc
    simp only [List.mem_cons, List.not_mem_nil, or_false] at hc
    rcases hc with rfl
    · exact ⟨⟨xg16, xh16, xs16, xd16⟩, xin16, rfl⟩
  have xf_name : ∀ c, [13, 14, 15].contains c = true → XfC K ((ctF [(0, C0), (1, C1), (2, C2), (3, C3), (4, C4), (5, C5), (6, C6), (7, C7), (8, C8), (9, C9), (10, C10), (11, C11), (12, C12), (13, C13), (14, C14), (15, C15), (16, C16), (17, C17)] [(12, ("many" : Str)), (13, ("name" : Str)), (14, ("name" : Str)), (15, ("name" : Str)), (16, ("most" : Str)), (17, ("number" : Str))]) c).1 ∧ PySem.W.findIn K (.ref ((ctF [(0, C0), (1, C1), (2, C2), (3, C3), (4, C4), (5, C5), (6, C6), (7, C7), (8, C8), (9, C9), (10, C10), (11, C11), (12, C12), (13, C13), (14, C14), (15, C15), (16, C16), (17, C17)] [(12, ("many" : Str)), (13, ("name" : Str)), (14, ("name" : Str)), (15, ("name" : Str)), (16, ("most" : Str)), (17, ("number" : Str))]) c).1) "name" = some none ∧ ((ctF [(0, C0), (1, C1), (2, C2), (3, C3), (4, C4), (5, C5), (6, C6), (7, C7), (8, C8), (9, C9), (10, C10), (11, C11), (12, C12), (13, C13), (14, C14), (15, C15), (16, C16), (17, C17)] [(12, ("many" : Str)), (13, ("name" : Str)), (14, ("name" : Str)), (15, ("name" : Str)), (16, ("most" : Str)), (17, ("number" : Str))])).fld c = "name" := fun c hc => by
    have hc := List.contains_iff_mem.mp hc
    simp only [List.mem_cons, List.not_mem_nil, or_false] at hc
    rcases hc with rfl | rfl | rfl
    · exact ⟨⟨xg13, xh13, xs13, xd13⟩, xin13, rfl⟩
    · exact ⟨⟨xg14, xh14, xs14, xd14⟩, xin14, rfl⟩
    · exact ⟨⟨xg15, xh15, xs15, xd15⟩, xin15, rfl⟩
  have xf_number : ∀ c, [17].contains c = true → XfC K ((ctF [(0, C0), (1, C1), (2, C2), (3, C3), (4, C4), (5, C5), (6, C6), (7, C7), (8, C8), (9, C9), (10, C10), (11, C11), (12, C12), (13, C13), (14, C14), (15, C15), (16, C16), (17, C17)] [(12, ("many" : Str)), (13, ("name" : Str)), (14, ("name" : Str)), (15, ("name" : Str)), (16, ("most" : Str)), (17, ("number" : Str))]) c).1 ∧ PySem.W.findIn K (.ref ((ctF [(0, C0), (1, C1), (2, C2), (3, C3), (4, C4), (5, C5), (6, C6), (7, C7), (8, C8), (9, C9), (10, C10), (11, C11), (12, C12), (13, C13), (14, C14), (15, C15), (16, C16), (17, C17)] [(12, ("many" : Str)), (13, ("name" : Str)), (14, ("name" : Str)), (15, ("name" : Str)), (16, ("most" : Str)), (17, ("number" : Str))]) c).1) "number" = some none ∧ ((ctF [(0, C0), (1, C1), (2, C2), (3, C3), (4, C4), (5, C5), (6, C6), (7, C7), (8, C8), (9, C9), (10, C10), (11, C11), (12, C12), (13, C13), (14, C14), (15, C15), (16, C16), (17, C17)] [(12, ("many" : Str)), (13, ("name" : Str)), (14, ("name" : Str)), (15, ("name" : Str)), (16, ("most" : Str)), (17, ("number" : Str))])).fld c = "number" := fun c hc => by
    have hc := List.contains_iff_mem.mp hc
    simp only [List.mem_cons, List.not_mem_nil, or_false] at hc
    rcases hc with rfl
    · exact ⟨⟨xg17, xh17, xs17, xd17⟩, xin17, rfl⟩
  have xkB : ∀ c, PySem.W.kitOne K (.ref ((ctF [(0, C0), (1, C1), (2, C2), (3, C3), (4, C4), (5, C5), (6, C6), (7, C7), (8, C8), (9, C9), (10, C10), (11, C11), (12, C12), (13, C13), (14, C14), (15, C15), (16, C16), (17, C17)] [(12, ("many" : Str)), (13, ("name" : Str)), (14, ("name" : Str)), (15, ("name" : Str)), (16, ("most" : Str)), (17, ("number" : Str))]) c).1) (.ref CB) = some true := ctF_all (P := fun _ a => PySem.W.kitOne K (.ref a) (.ref CB) = some true) (by simp) (fun p hp => by
    simp only [List.mem_cons, List.not_mem_nil, or_false] at hp
    rcases hp with rfl | rfl | rfl | rfl | rfl | rfl | rfl | rfl | rfl | rfl | rfl | rfl | rfl | rfl | rfl | rfl | rfl | rfl
    · exact xkb0
    · exact xkb1
    · exact xkb2
    · exact xkb3
    · exact xkb4
    · exact xkb5
    · exact xkb6
    · exact xkb7
    · exact xkb8
    · exact xkb9
    · exact xkb10
    · exact xkb11
    · exact xkb12
    · exact xkb13
    · exact xkb14
    · exact xkb15
    · exact xkb16
    · exact xkb17)
  have xnB := xnb
  have xkV : ∀ c, PySem.W.kitOne K (.ref ((ctF [(0, C0), (1, C1), (2, C2), (3, C3), (4, C4), (5, C5), (6, C6), (7, C7), (8, C8), (9, C9), (10, C10), (11, C11), (12, C12), (13, C13), (14, C14), (15, C15), (16, C16), (17, C17)] [(12, ("many" : Str)), (13, ("name" : Str)), (14, ("name" : Str)), (15, ("name" : Str)), (16, ("most" : Str)), (17, ("number" : Str))]) c).1) (.type "ValueError") = some true := ctF_all (P := fun _ a => PySem.W.kitOne K (.ref a) (.type "ValueError") = some true) (by simp) (fun p hp => by
    simp only [List.mem_cons, List.not_mem_nil, or_false] at hp
    rcases hp with rfl | rfl | rfl | rfl | rfl | rfl | rfl | rfl | rfl | rfl | rfl | rfl | rfl | rfl | rfl | rfl | rfl | rfl
    · exact xkv0
    · exact xkv1
    · exact xkv2
    · exact xkv3
    · exact xkv4
    · exact xkv5
    · exact xkv6
    · exact xkv7
    · exact xkv8
    · exact xkv9
    · exact xkv10
    · exact xkv11
    · exact xkv12
    · exact xkv13
    · exact xkv14
    · exact xkv15
    · exact xkv16
    · exact xkv17)
  have xnV := xnv
  have mV := PySem.W.mg_none_of X G xzv
  have xk_NoWeb : ∀ c, PySem.W.kitOne K (.ref ((ctF [(0, C0), (1, C1), (2, C2), (3, C3), (4, C4), (5, C5), (6, C6), (7, C7), (8, C8), (9, C9), (10, C10), (11, C11), (12, C12), (13, C13), (14, C14), (15, C15), (16, C16), (17, C17)] [(12, ("many" : Str)), (13, ("name" : Str)), (14, ("name" : Str)), (15, ("name" : Str)), (16, ("most" : Str)), (17, ("number" : Str))]) c).1) (.ref ((ctF [(0, C0), (1, C1), (2, C2), (3, C3), (4, C4), (5, C5), (6, C6), (7, C7), (8, C8), (9, C9), (10, C10), (11, C11), (12, C12), (13, C13), (14, C14), (15, C15), (16, C16), (17, C17)] [(12, ("many" : Str)), (13, ("name" : Str)), (14, ("name" : Str)), (15, ("name" : Str)), (16, ("most" : Str)), (17, ("number" : Str))]) 0).1) = some (subP [0, 1, 2, 3, 4, 5, 6, 7, 8, 9, 10, 11, 12, 13, 14, 15, 16, 17] 0 c) := ctF_all (P := fun n a => PySem.W.kitOne K (.ref a) (.ref C0) = some (decide (n = 0))) (l := [(0, C0), (1, C1), (2, C2), (3, C3), (4, C4), (5, C5), (6, C6), (7, C7), (8, C8), (9, C9), (10, C10), (11, C11), (12, C12), (13, C13), (14, C14), (15, C15), (16, C16), (17, C17)]) (by simp) (fun p hp => by
    simp only [List.mem_cons, List.not_mem_nil, or_false] at hp
    rcases hp with rfl | rfl | rfl | rfl | rfl | rfl | rfl | rfl | rfl | rfl | rfl | rfl | rfl | rfl | rfl | rfl | rfl | rfl
    · exact xw0_0
    · exact xw1_0
    · exact xw2_0
    · exact xw3_0
    · exact xw4_0
    · exact xw5_0
    · exact xw6_0
    · exact xw7_0
    · exact xw8_0
    · exact xw9_0
    · exact xw10_0
    · exact xw11_0
    · exact xw12_0
    · exact xw13_0
    · exact xw14_0
    · exact xw15_0
    · exact xw16_0
    · exact xw17_0)
  have xn_NoWeb : PySem.W.kitOne K (.type "NoneType") (.ref ((ctF [(0, C0), (1, C1), (2, C2), (3, C3), (4, C4), (5, C5), (6, C6), (7, C7), (8, C8), (9, C9), (10, C10), (11, C11), (12, C12), (13, C13), (14, C14), (15, C15), (16, C16), (17, C17)] [(12, ("many" : Str)), (13, ("name" : Str)), (14, ("name" : Str)), (15, ("name" : Str)), (16, ("most" : Str)), (17, ("number" : Str))]) 0).1) = some false := xv0
  have xk_NoHeap : ∀ c, PySem.W.kitOne K (.ref ((ctF [(0, C0), (1, C1), (2, C2), (3, C3), (4, C4), (5, C5), (6, C6), (7, C7), (8, C8), (9, C9), (10, C10), (11, C11), (12, C12), (13, C13), (14, C14), (15, C15), (16, C16), (17, C17)] [(12, ("many" : Str)), (13, ("name" : Str)), (14, ("name" : Str)), (15, ("name" : Str)), (16, ("most" : Str)), (17, ("number" : Str))]) c).1) (.ref ((ctF [(0, C0), (1, C1), (2, C2), (3, C3), (4, C4), (5, C5), (6, C6), (7, C7), (8, C8), (9, C9), (10, C10), (11, C11), (12, C12), (13, C13), (14, C14), (15, C15), (16, C16), (17, C17)] [(12, ("many" : Str)), (13, ("name" : Str)), (14, ("name" : Str)), (15, ("name" : Str)), (16, ("most" : Str)), (17, ("number" : Str))]) 1).1) = some (subP [0, 1, 2, 3, 4, 5, 6, 7, 8, 9, 10, 11, 12, 13, 14, 15, 16, 17] 1 c) := ctF_all (P := fun n a => PySem.W.kitOne K (.ref a) (.ref C1) = some (decide (n = 1))) (l := [(0, C0), (1, C1), (2, C2), (3, C3), (4, C4), (5, C5), (6, C6), (7, C7), (8, C8), (9, C9), (10, C10), (11, C11), (12, C12), (13, C13), (14, C14), (15, C15), (16, C16), (17, C17)]) (by simp) (fun p hp => by
    simp only [List.mem_cons, List.not_mem_nil, or_false] at hp
    rcases hp with rfl | rfl | rfl | rfl | rfl | rfl | rfl | rfl | rfl | rfl | rfl | rfl | rfl | rfl | rfl | rfl | rfl | rfl
    · exact xw0_1
    · exact xw1_1
    · exact xw2_1
    · exact xw3_1
    · exact xw4_1
    · exact xw5_1
    · exact xw6_1
    · exact xw7_1
    · exact xw8_1
    · exact xw9_1
    · exact xw10_1
    · exact xw11_1
    · exact xw12_1
    · exact xw13_1
    · exact xw14_1
    · exact xw15_1
    · exact xw16_1
    · exact xw17_1)
  have xn_NoHeap : PySem.W.kitOne K (.type "NoneType") (.ref ((ctF [(0, C0), (1, C1), (2, C2), (3, C3), (4, C4), (5, C5), (6, C6), (7, C7), (8, C8), (9, C9), (10, C10), (11, C11), (12, C12), (13, C13), (14, C14), (15, C15), (16, C16), (17, C17)] [(12, ("many" : Str)), (13, ("name" : Str)), (14, ("name" : Str)), (15, ("name" : Str)), (16, ("most" : Str)), (17, ("number" : Str))]) 1).1) = some false := xv1
  have xk_NoFiring : ∀ c, PySem.W.kitOne K (.ref ((ctF [(0, C0), (1, C1), (2, C2), (3, C3), (4, C4), (5, C5), (6, C6), (7, C7), (8, C8), (9, C9), (10, C10), (11, C11), (12, C12), (13, C13), (14, C14), (15, C15), (16, C16), (17, C17)] [(12, ("many" : Str)), (13, ("name" : Str)), (14, ("name" : Str)), (15, ("name" : Str)), (16, ("most" : Str)), (17, ("number" : Str))]) c).1) (.ref ((ctF [(0, C0), (1, C1), (2, C2), (3, C3), (4, C4), (5, C5), (6, C6), (7, C7), (8, C8), (9, C9), (10, C10), (11, C11), (12, C12), (13, C13), (14, C14), (15, C15), (16, C16), (17, C17)] [(12, ("many" : Str)), (13, ("name" : Str)), (14, ("name" : Str)), (15, ("name" : Str)), (16, ("most" : Str)), (17, ("number" : Str))]) 2).1) = some (subP [0, 1, 2, 3, 4, 5, 6, 7, 8, 9, 10, 11, 12, 13, 14, 15, 16, 17] 2 c) := ctF_all (P := fun n a => PySem.W.kitOne K (.ref a) (.ref C2) = some (decide (n = 2))) (l := [(0, C0), (1, C1), (2, C2), (3, C3), (4, C4), (5, C5), (6, C6), (7, C7), (8, C8), (9, C9), (10, C10), (11, C11), (12, C12), (13, C13), (14, C14), (15, C15), (16, C16), (17, C17)]) (by simp) (fun p hp => by
    simp only [List.mem_cons, List.not_mem_nil, or_false] at hp
    rcases hp with rfl | rfl | rfl | rfl | rfl | rfl | rfl | rfl | rfl | rfl | rfl | rfl | rfl | rfl | rfl | rfl | rfl | rfl
    · exact xw0_2
    · exact xw1_2
    · exact xw2_2
    · exact xw3_2
    · exact xw4_2
    · exact xw5_2
    · exact xw6_2
    · exact xw7_2
    · exact xw8_2
    · exact xw9_2
    · exact xw10_2
    · exact xw11_2
    · exact xw12_2
    · exact xw13_2
    · exact xw14_2
    · exact xw15_2
    · exact xw16_2
    · exact xw17_2)
  have xn_NoFiring : PySem.W.kitOne K (.type "NoneType") (.ref ((ctF [(0, C0), (1, C1), (2, C2), (3, C3), (4, C4), (5, C5), (6, C6), (7, C7), (8, C8), (9, C9), (10, C10), (11, C11), (12, C12), (13, C13), (14, C14), (15, C15), (16, C16), (17, C17)] [(12, ("many" : Str)), (13, ("name" : Str)), (14, ("name" : Str)), (15, ("name" : Str)), (16, ("most" : Str)), (17, ("number" : Str))]) 2).1) = some false := xv2
  have xk_NoPlace : ∀ c, PySem.W.kitOne K (.ref ((ctF [(0, C0), (1, C1), (2, C2), (3, C3), (4, C4), (5, C5), (6, C6), (7, C7), (8, C8), (9, C9), (10, C10), (11, C11), (12, C12), (13, C13), (14, C14), (15, C15), (16, C16), (17, C17)] [(12, ("many" : Str)), (13, ("name" : Str)), (14, ("name" : Str)), (15, ("name" : Str)), (16, ("most" : Str)), (17, ("number" : Str))]) c).1) (.ref ((ctF [(0, C0), (1, C1), (2, C2), (3, C3), (4, C4), (5, C5), (6, C6), (7, C7), (8, C8), (9, C9), (10, C10), (11, C11), (12, C12), (13, C13), (14, C14), (15, C15), (16, C16), (17, C17)] [(12, ("many" : Str)), (13, ("name" : Str)), (14, ("name" : Str)), (15, ("name" : Str)), (16, ("most" : Str)), (17, ("number" : Str))]) 4).1) = some (subP [0, 1, 2, 3, 4, 5, 6, 7, 8, 9, 10, 11, 12, 13, 14, 15, 16, 17] 4 c) := ctF_all (P := fun n a => PySem.W.kitOne K (.ref a) (.ref C4) = some (decide (n = 4))) (l := [(0, C0), (1, C1), (2, C2), (3, C3), (4, C4), (5, C5), (6, C6), (7, C7), (8, C8), (9, C9), (10, C10), (11, C11), (12, C12), (13, C13), (14, C14), (15, C15), (16, C16), (17, C17)]) (by simp) (fun p hp => by
    simp only [List.mem_cons, List.not_mem_nil, or_false] at hp
    rcases hp with rfl | rfl | rfl | rfl | rfl | rfl | rfl | rfl | rfl | rfl | rfl | rfl | rfl | rfl | rfl | rfl | rfl | rfl
    · exact xw0_4
    · exact xw1_4
    · exact xw2_4
    · exact xw3_4
    · exact xw4_4
    · exact xw5_4
    · exact xw6_4
    · exact xw7_4
    · exact xw8_4
    · exact xw9_4
    · exact xw10_4
    · exact xw11_4
    · exact xw12_4
    · exact xw13_4
    · exact xw14_4
    · exact xw15_4
    · exact xw16_4
    · exact xw17_4)
  have xn_NoPlace : PySem.W.kitOne K (.type "NoneType") (.ref ((ctF [(0, C0), (1, C1), (2, C2), (3, C3), (4, C4), (5, C5), (6, C6), (7, C7), (8, C8), (9, C9), (10, C10), (11, C11), (12, C12), (13, C13), (14, C14), (15, C15), (16, C16), (17, C17)] [(12, ("many" : Str)), (13, ("name" : Str)), (14, ("name" : Str)), (15, ("name" : Str)), (16, ("most" : Str)), (17, ("number" : Str))]) 4).1) = some false := xv4
  have xk_NoClass : ∀ c, PySem.W.kitOne K (.ref ((ctF [(0, C0), (1, C1), (2, C2), (3, C3), (4, C4), (5, C5), (6, C6), (7, C7), (8, C8), (9, C9), (10, C10), (11, C11), (12, C12), (13, C13), (14, C14), (15, C15), (16, C16), (17, C17)] [(12, ("many" : Str)), (13, ("name" : Str)), (14, ("name" : Str)), (15, ("name" : Str)), (16, ("most" : Str)), (17, ("number" : Str))]) c).1) (.ref ((ctF [(0, C0), (1, C1), (2, C2), (3, C3), (4, C4), (5, C5), (6, C6), (7, C7), (8, C8), (9, C9), (10, C10), (11, C11), (12, C12), (13, C13), (14, C14), (15, C15), (16, C16), (17, C17)] [(12, ("many" : Str)), (13, ("name" : Str)), (14, ("name" : Str)), (15, ("name" : Str)), (16, ("most" : Str)), (17, ("number" : Str))]) 5).1) = some (subP [0, 1, 2, 3, 4, 5, 6, 7, 8, 9, 10, 11, 12, 13, 14, 15, 16, 17] 5 c) := ctF_all (P := fun n a => PySem.W.kitOne K (.ref a) (.ref C5) = some (decide (n = 5))) (l := [(0, C0), (1, C1), (2, C2), (3, C3), (4, C4), (5, C5), (6, C6), (7, C7), (8, C8), (9, C9), (10, C10), (11, C11), (12, C12), (13, C13), (14, C14), (15, C15), (16, C16), (17, C17)]) (by simp) (fun p hp => by
    simp only [List.mem_cons, List.not_mem_nil, or_false] at hp
    rcases hp with rfl | rfl | rfl | rfl | rfl | rfl | rfl | rfl | rfl | rfl | rfl | rfl | rfl | rfl | rfl | rfl | rfl | rfl
    · exact xw0_5
    · exact xw1_5
    · exact xw2_5
    · exact xw3_5
    · exact xw4_5
    · exact xw5_5
    · exact xw6_5
    · exact xw7_5
    · exact xw8_5
    · exact xw9_5
    · exact xw10_5
    · exact xw11_5
    · exact xw12_5
    · exact xw13_5
    · exact xw14_5
    · exact xw15_5
    · exact xw16_5
    · exact xw17_5)
  have xn_NoClass : PySem.W.kitOne K (.type "NoneType") (.ref ((ctF [(0, C0), (1, C1), (2, C2), (3, C3), (4, C4), (5, C5), (6, C6), (7, C7), (8, C8), (9, C9), (10, C10), (11, C11), (12, C12), (13, C13), (14, C14), (15, C15), (16, C16), (17, C17)] [(12, ("many" : Str)), (13, ("name" : Str)), (14, ("name" : Str)), (15, ("name" : Str)), (16, ("most" : Str)), (17, ("number" : Str))]) 5).1) = some false := xv5
  have xk_NoTree : ∀ c, PySem.W.kitOne K (.ref ((ctF [(0, C0), (1, C1), (2, C2), (3, C3), (4, C4), (5, C5), (6, C6), (7, C7), (8, C8), (9, C9), (10, C10), (11, C11), (12, C12), (13, C13), (14, C14), (15, C15), (16, C16), (17, C17)] [(12, ("many" : Str)), (13, ("name" : Str)), (14, ("name" : Str)), (15, ("name" : Str)), (16, ("most" : Str)), (17, ("number" : Str))]) c).1) (.ref ((ctF [(0, C0), (1, C1), (2, C2), (3, C3), (4, C4), (5, C5), (6, C6), (7, C7), (8, C8), (9, C9), (10, C10), (11, C11), (12, C12), (13, C13), (14, C14), (15, C15), (16, C16), (17, C17)] [(12, ("many" : Str)), (13, ("name" : Str)), (14, ("name" : Str)), (15, ("name" : Str)), (16, ("most" : Str)), (17, ("number" : Str))]) 6).1) = some (subP [0, 1, 2, 3, 4, 5, 6, 7, 8, 9, 10, 11, 12, 13, 14, 15, 16, 17] 6 c) := ctF_all (P := fun n a => PySem.W.kitOne K (.ref a) (.ref C6) = some (decide (n = 6))) (l := [(0, C0), (1, C1), (2, C2), (3, C3), (4, C4), (5, C5), (6, C6), (7, C7), (8, C8), (9, C9), (10, C10), (11, C11), (12, C12), (13, C13), (14, C14), (15, C15), (16, C16), (17, C17)]) (by simp) (fun p hp => by
    simp only [List.mem_cons, List.not_mem_nil, or_false] at hp
    rcases hp with rfl | rfl | rfl | rfl | rfl | rfl | rfl | rfl | rfl | rfl | rfl | rfl | rfl | rfl | rfl | rfl | rfl | rfl
    · exact xw0_6
    · exact xw1_6
    · exact xw2_6
    · exact xw3_6
    · exact xw4_6
    · exact xw5_6
    · exact xw6_6
    · exact xw7_6
    · exact xw8_6
    · exact xw9_6
    · exact xw10_6
    · exact xw11_6
    · exact xw12_6
    · exact xw13_6
    · exact xw14_6
    · exact xw15_6
    · exact xw16_6
    · exact xw17_6)
  have xn_NoTree : PySem.W.kitOne K (.type "NoneType") (.ref ((ctF [(0, C0), (1, C1), (2, C2), (3, C3), (4, C4), (5, C5), (6, C6), (7, C7), (8, C8), (9, C9), (10, C10), (11, C11), (12, C12), (13, C13), (14, C14), (15, C15), (16, C16), (17, C17)] [(12, ("many" : Str)), (13, ("name" : Str)), (14, ("name" : Str)), (15, ("name" : Str)), (16, ("most" : Str)), (17, ("number" : Str))]) 6).1) = some false := xv6
  have xk_NoTaking : ∀ c, PySem.W.kitOne K (.ref ((ctF [(0, C0), (1, C1), (2, C2), (3, C3), (4, C4), (5, C5), (6, C6), (7, C7), (8, C8), (9, C9), (10, C10), (11, C11), (12, C12), (13, C13), (14, C14), (15, C15), (16, C16), (17, C17)] [(12, ("many" : Str)), (13, ("name" : Str)), (14, ("name" : Str)), (15, ("name" : Str)), (16, ("most" : Str)), (17, ("number" : Str))]) c).1) (.ref ((ctF [(0, C0), (1, C1), (2, C2), (3, C3), (4, C4), (5, C5), (6, C6), (7, C7), (8, C8), (9, C9), (10, C10), (11, C11), (12, C12), (13, C13), (14, C14), (15, C15), (16, C16), (17, C17)] [(12, ("many" : Str)), (13, ("name" : Str)), (14, ("name" : Str)), (15, ("name" : Str)), (16, ("most" : Str)), (17, ("number" : Str))]) 7).1) = some (subP [0, 1, 2, 3, 4, 5, 6, 7, 8, 9, 10, 11, 12, 13, 14, 15, 16, 17] 7 c) := ctF_all (P := fun n a => PySem.W.kitOne K (.ref a) (.ref C7) = some (decide (n = 7))) (l := [(0, C0), (1, C1), (2, C2), (3, C3), (4, C4), (5, C5), (6, C6), (7, C7), (8, C8), (9, C9), (10, C10), (11, C11), (12, C12), (13, C13), (14, C14), (15, C15), (16, C16), (17, C17)]) (by simp) (fun p hp => by
    simp only [List.mem_cons, List.not_mem_nil, or_false] at hp
    rcases hp with rfl | rfl | rfl | rfl | rfl | rfl | rfl | rfl | rfl | rfl | rfl | rfl | rfl | rfl | rfl | rfl | rfl | rfl
    · exact xw0_7
    · exact xw1_7
    · exact xw2_7
    · exact xw3_7
    · exact xw4_7
    · exact xw5_7
    · exact xw6_7
    · exact xw7_7
    · exact xw8_7
    · exact xw9_7
    · exact xw10_7
    · exact xw11_7
    · exact xw12_7
    · exact xw13_7
    · exact xw14_7
    · exact xw15_7
    · exact xw16_7
    · exact xw17_7)
  have xn_NoTaking : PySem.W.kitOne K (.type "NoneType") (.ref ((ctF [(0, C0), (1, C1), (2, C2), (3, C3), (4, C4), (5, C5), (6, C6), (7, C7), (8, C8), (9, C9), (10, C10), (11, C11), (12, C12), (13, C13), (14, C14), (15, C15), (16, C16), (17, C17)] [(12, ("many" : Str)), (13, ("name" : Str)), (14, ("name" : Str)), (15, ("name" : Str)), (16, ("most" : Str)), (17, ("number" : Str))]) 7).1) = some false := xv7
  have xk_NoMap : ∀ c, PySem.W.kitOne K (.ref ((ctF [(0, C0), (1, C1), (2, C2), (3, C3), (4, C4), (5, C5), (6, C6), (7, C7), (8, C8), (9, C9), (10, C10), (11, C11), (12, C12), (13, C13), (14, C14), (15, C15), (16, C16), (17, C17)] [(12, ("many" : Str)), (13, ("name" : Str)), (14, ("name" : Str)), (15, ("name" : Str)), (16, ("most" : Str)), (17, ("number" : Str))]) c).1) (.ref ((ctF [(0, C0), (1, C1), (2, C2), (3, C3), (4, C4), (5, C5), (6, C6), (7, C7), (8, C8), (9, C9), (10, C10), (11, C11), (12, C12), (13, C13), (14, C14), (15, C15), (16, C16), (17, C17)] [(12, ("many" : Str)), (13, ("name" : Str)), (14, ("name" : Str)), (15, ("name" : Str)), (16, ("most" : Str)), (17, ("number" : Str))]) 8).1) = some (subP [0, 1, 2, 3, 4, 5, 6, 7, 8, 9, 10, 11, 12, 13, 14, 15, 16, 17] 8 c) := ctF_all (P := fun n a => PySem.W.kitOne K (.ref a) (.ref C8) = some (decide (n = 8))) (l := [(0, C0), (1, C1), (2, C2), (3, C3), (4, C4), (5, C5), (6, C6), (7, C7), (8, C8), (9, C9), (10, C10), (11, C11), (12, C12), (13, C13), (14, C14), (15, C15), (16, C16), (17, C17)]) (by simp) (fun p hp => by
    simp only [List.mem_cons, List.not_mem_nil, or_false] at hp
    rcases hp with rfl | rfl | rfl | rfl | rfl | rfl | rfl | rfl | rfl | rfl | rfl | rfl | rfl | rfl | rfl | rfl | rfl | rfl
    · exact xw0_8
    · exact xw1_8
    · exact xw2_8
    · exact xw3_8
    · exact xw4_8
    · exact xw5_8
    · exact xw6_8
    · exact xw7_8
    · exact xw8_8
    · exact xw9_8
    · exact xw10_8
    · exact xw11_8
    · exact xw12_8
    · exact xw13_8
    · exact xw14_8
    · exact xw15_8
    · exact xw16_8
    · exact xw17_8)
  have xn_NoMap : PySem.W.kitOne K (.type "NoneType") (.ref ((ctF [(0, C0), (1, C1), (2, C2), (3, C3), (4, C4), (5, C5), (6, C6), (7, C7), (8, C8), (9, C9), (10, C10), (11, C11), (12, C12), (13, C13), (14, C14), (15, C15), (16, C16), (17, C17)] [(12, ("many" : Str)), (13, ("name" : Str)), (14, ("name" : Str)), (15, ("name" : Str)), (16, ("most" : Str)), (17, ("number" : Str))]) 8).1) = some false := xv8
  have xk_NoTie : ∀ c, PySem.W.kitOne K (.ref ((ctF [(0, C0), (1, C1), (2, C2), (3, C3), (4, C4), (5, C5), (6, C6), (7, C7), (8, C8), (9, C9), (10, C10), (11, C11), (12, C12), (13, C13), (14, C14), (15, C15), (16, C16), (17, C17)] [(12, ("many" : Str)), (13, ("name" : Str)), (14, ("name" : Str)), (15, ("name" : Str)), (16, ("most" : Str)), (17, ("number" : Str))]) c).1) (.ref ((ctF [(0, C0), (1, C1), (2, C2), (3, C3), (4, C4), (5, C5), (6, C6), (7, C7), (8, C8), (9, C9), (10, C10), (11, C11), (12, C12), (13, C13), (14, C14), (15, C15), (16, C16), (17, C17)] [(12, ("many" : Str)), (13, ("name" : Str)), (14, ("name" : Str)), (15, ("name" : Str)), (16, ("most" : Str)), (17, ("number" : Str))]) 9).1) = some (subP [0, 1, 2, 3, 4, 5, 6, 7, 8, 9, 10, 11, 12, 13, 14, 15, 16, 17] 9 c) := ctF_all (P := fun n a => PySem.W.kitOne K (.ref a) (.ref C9) = some (decide (n = 9))) (l := [(0, C0), (1, C1), (2, C2), (3, C3), (4, C4), (5, C5), (6, C6), (7, C7), (8, C8), (9, C9), (10, C10), (11, C11), (12, C12), (13, C13), (14, C14), (15, C15), (16, C16), (17, C17)]) (by simp) (fun p hp => by
    simp only [List.mem_cons, List.not_mem_nil, or_false] at hp
    rcases hp with rfl | rfl | rfl | rfl | rfl | rfl | rfl | rfl | rfl | rfl | rfl | rfl | rfl | rfl | rfl | rfl | rfl | rfl
    · exact xw0_9
    · exact xw1_9
    · exact xw2_9
    · exact xw3_9
    · exact xw4_9
    · exact xw5_9
    · exact xw6_9
    · exact xw7_9
    · exact xw8_9
    · exact xw9_9
    · exact xw10_9
    · exact xw11_9
    · exact xw12_9
    · exact xw13_9
    · exact xw14_9
    · exact xw15_9
    · exact xw16_9
    · exact xw17_9)
  have xn_NoTie : PySem.W.kitOne K (.type "NoneType") (.ref ((ctF [(0, C0), (1, C1), (2, C2), (3, C3), (4, C4), (5, C5), (6, C6), (7, C7), (8, C8), (9, C9), (10, C10), (11, C11), (12, C12), (13, C13), (14, C14), (15, C15), (16, C16), (17, C17)] [(12, ("many" : Str)), (13, ("name" : Str)), (14, ("name" : Str)), (15, ("name" : Str)), (16, ("most" : Str)), (17, ("number" : Str))]) 9).1) = some false := xv9
  have xk_NoDeed : ∀ c, PySem.W.kitOne K (.ref ((ctF [(0, C0), (1, C1), (2, C2), (3, C3), (4, C4), (5, C5), (6, C6), (7, C7), (8, C8), (9, C9), (10, C10), (11, C11), (12, C12), (13, C13), (14, C14), (15, C15), (16, C16), (17, C17)] [(12, ("many" : Str)), (13, ("name" : Str)), (14, ("name" : Str)), (15, ("name" : Str)), (16, ("most" : Str)), (17, ("number" : Str))]) c).1) (.ref ((ctF [(0, C0), (1, C1), (2, C2), (3, C3), (4, C4), (5, C5), (6, C6), (7, C7), (8, C8), (9, C9), (10, C10), (11, C11), (12, C12), (13, C13), (14, C14), (15, C15), (16, C16), (17, C17)] [(12, ("many" : Str)), (13, ("name" : Str)), (14, ("name" : Str)), (15, ("name" : Str)), (16, ("most" : Str)), (17, ("number" : Str))]) 10).1) = some (subP [0, 1, 2, 3, 4, 5, 6, 7, 8, 9, 10, 11, 12, 13, 14, 15, 16, 17] 10 c) := ctF_all (P := fun n a => PySem.W.kitOne K (.ref a) (.ref C10) = some (decide (n = 10))) (l := [(0, C0), (1, C1), (2, C2), (3, C3), (4, C4), (5, C5), (6, C6), (7, C7), (8, C8), (9, C9), (10, C10), (11, C11), (12, C12), (13, C13), (14, C14), (15, C15), (16, C16), (17, C17)]) (by simp) (fun p hp => by
    simp only [List.mem_cons, List.not_mem_nil, or_false] at hp
    rcases hp with rfl | rfl | rfl | rfl | rfl | rfl | rfl | rfl | rfl | rfl | rfl | rfl | rfl | rfl | rfl | rfl | rfl | rfl
    · exact xw0_10
    · exact xw1_10
    · exact xw2_10
    · exact xw3_10
    · exact xw4_10
    · exact xw5_10
    · exact xw6_10
    · exact xw7_10
    · exact xw8_10
    · exact xw9_10
    · exact xw10_10
    · exact xw11_10
    · exact xw12_10
    · exact xw13_10
    · exact xw14_10
    · exact xw15_10
    · exact xw16_10
    · exact xw17_10)
  have xn_NoDeed : PySem.W.kitOne K (.type "NoneType") (.ref ((ctF [(0, C0), (1, C1), (2, C2), (3, C3), (4, C4), (5, C5), (6, C6), (7, C7), (8, C8), (9, C9), (10, C10), (11, C11), (12, C12), (13, C13), (14, C14), (15, C15), (16, C16), (17, C17)] [(12, ("many" : Str)), (13, ("name" : Str)), (14, ("name" : Str)), (15, ("name" : Str)), (16, ("most" : Str)), (17, ("number" : Str))]) 10).1) = some false := xv10
  have xk_NoChange : ∀ c, PySem.W.kitOne K (.ref ((ctF [(0, C0), (1, C1), (2, C2), (3, C3), (4, C4), (5, C5), (6, C6), (7, C7), (8, C8), (9, C9), (10, C10), (11, C11), (12, C12), (13, C13), (14, C14), (15, C15), (16, C16), (17, C17)] [(12, ("many" : Str)), (13, ("name" : Str)), (14, ("name" : Str)), (15, ("name" : Str)), (16, ("most" : Str)), (17, ("number" : Str))]) c).1) (.ref ((ctF [(0, C0), (1, C1), (2, C2), (3, C3), (4, C4), (5, C5), (6, C6), (7, C7), (8, C8), (9, C9), (10, C10), (11, C11), (12, C12), (13, C13), (14, C14), (15, C15), (16, C16), (17, C17)] [(12, ("many" : Str)), (13, ("name" : Str)), (14, ("name" : Str)), (15, ("name" : Str)), (16, ("most" : Str)), (17, ("number" : Str))]) 11).1) = some (subP [0, 1, 2, 3, 4, 5, 6, 7, 8, 9, 10, 11, 12, 13, 14, 15, 16, 17] 11 c) := ctF_all (P := fun n a => PySem.W.kitOne K (.ref a) (.ref C11) = some (decide (n = 11))) (l := [(0, C0), (1, C1), (2, C2), (3, C3), (4, C4), (5, C5), (6, C6), (7, C7), (8, C8), (9, C9), (10, C10), (11, C11), (12, C12), (13, C13), (14, C14), (15, C15), (16, C16), (17, C17)]) (by simp) (fun p hp => by
    simp only [List.mem_cons, List.not_mem_nil, or_false] at hp
    rcases hp with rfl | rfl | rfl | rfl | rfl | rfl | rfl | rfl | rfl | rfl | rfl | rfl | rfl | rfl | rfl | rfl | rfl | rfl
    · exact xw0_11
    · exact xw1_11
    · exact xw2_11
    · exact xw3_11
    · exact xw4_11
    · exact xw5_11
    · exact xw6_11
    · exact xw7_11
    · exact xw8_11
    · exact xw9_11
    · exact xw10_11
    · exact xw11_11
    · exact xw12_11
    · exact xw13_11
    · exact xw14_11
    · exact xw15_11
    · exact xw16_11
    · exact xw17_11)
  have xn_NoChange : PySem.W.kitOne K (.type "NoneType") (.ref ((ctF [(0, C0), (1, C1), (2, C2), (3, C3), (4, C4), (5, C5), (6, C6), (7, C7), (8, C8), (9, C9), (10, C10), (11, C11), (12, C12), (13, C13), (14, C14), (15, C15), (16, C16), (17, C17)] [(12, ("many" : Str)), (13, ("name" : Str)), (14, ("name" : Str)), (15, ("name" : Str)), (16, ("most" : Str)), (17, ("number" : Str))]) 11).1) = some false := xv11
  have xk_NoOrder : ∀ c, PySem.W.kitOne K (.ref ((ctF [(0, C0), (1, C1), (2, C2), (3, C3), (4, C4), (5, C5), (6, C6), (7, C7), (8, C8), (9, C9), (10, C10), (11, C11), (12, C12), (13, C13), (14, C14), (15, C15), (16, C16), (17, C17)] [(12, ("many" : Str)), (13, ("name" : Str)), (14, ("name" : Str)), (15, ("name" : Str)), (16, ("most" : Str)), (17, ("number" : Str))]) c).1) (.ref ((ctF [(0, C0), (1, C1), (2, C2), (3, C3), (4, C4), (5, C5), (6, C6), (7, C7), (8, C8), (9, C9), (10, C10), (11, C11), (12, C12), (13, C13), (14, C14), (15, C15), (16, C16), (17, C17)] [(12, ("many" : Str)), (13, ("name" : Str)), (14, ("name" : Str)), (15, ("name" : Str)), (16, ("most" : Str)), (17, ("number" : Str))]) 3).1) = some (subP [0, 1, 2, 3, 4, 5, 6, 7, 8, 9, 10, 11, 12, 13, 14, 15, 16, 17] 3 c) := ctF_all (P := fun n a => PySem.W.kitOne K (.ref a) (.ref C3) = some (decide (n = 3))) (l := [(0, C0), (1, C1), (2, C2), (3, C3), (4, C4), (5, C5), (6, C6), (7, C7), (8, C8), (9, C9), (10, C10), (11, C11), (12, C12), (13, C13), (14, C14), (15, C15), (16, C16), (17, C17)]) (by simp) (fun p hp => by
    simp only [List.mem_cons, List.not_mem_nil, or_false] at hp
    rcases hp with rfl | rfl | rfl | rfl | rfl | rfl | rfl | rfl | rfl | rfl | rfl | rfl | rfl | rfl | rfl | rfl | rfl | rfl
    · exact xw0_3
    · exact xw1_3
    · exact xw2_3
    · exact xw3_3
    · exact xw4_3
    · exact xw5_3
    · exact xw6_3
    · exact xw7_3
    · exact xw8_3
    · exact xw9_3
    · exact xw10_3
    · exact xw11_3
    · exact xw12_3
    · exact xw13_3
    · exact xw14_3
    · exact xw15_3
    · exact xw16_3
    · exact xw17_3)
  have xn_NoOrder : PySem.W.kitOne K (.type "NoneType") (.ref ((ctF [(0, C0), (1, C1), (2, C2), (3, C3), (4, C4), (5, C5), (6, C6), (7, C7), (8, C8), (9, C9), (10, C10), (11, C11), (12, C12), (13, C13), (14, C14), (15, C15), (16, C16), (17, C17)] [(12, ("many" : Str)), (13, ("name" : Str)), (14, ("name" : Str)), (15, ("name" : Str)), (16, ("most" : Str)), (17, ("number" : Str))]) 3).1) = some false := xv3
  have xk_TooMany : ∀ c, PySem.W.kitOne K (.ref ((ctF [(0, C0), (1, C1), (2, C2), (3, C3), (4, C4), (5, C5), (6, C6), (7, C7), (8, C8), (9, C9), (10, C10), (11, C11), (12, C12), (13, C13), (14, C14), (15, C15), (16, C16), (17, C17)] [(12, ("many" : Str)), (13, ("name" : Str)), (14, ("name" : Str)), (15, ("name" : Str)), (16, ("most" : Str)), (17, ("number" : Str))]) c).1) (.ref ((ctF [(0, C0), (1, C1), (2, C2), (3, C3), (4, C4), (5, C5), (6, C6), (7, C7), (8, C8), (9, C9), (10, C10), (11, C11), (12, C12), (13, C13), (14, C14), (15, C15), (16, C16), (17, C17)] [(12, ("many" : Str)), (13, ("name" : Str)), (14, ("name" : Str)), (15, ("name" : Str)), (16, ("most" : Str)), (17, ("number" : Str))]) 12).1) = some (subP [0, 1, 2, 3, 4, 5, 6, 7, 8, 9, 10, 11, 12, 13, 14, 15, 16, 17] 12 c) := ctF_all (P := fun n a => PySem.W.kitOne K (.ref a) (.ref C12) = some (decide (n = 12))) (l := [(0, C0), (1, C1), (2, C2), (3, C3), (4, C4), (5, C5), (6, C6), (7, C7), (8, C8), (9, C9), (10, C10), (11, C11), (12, C12), (13, C13), (14, C14), (15, C15), (16, C16), (17, C17)]) (by simp) (fun p hp => by
    simp only [List.mem_cons, List.not_mem_nil, or_false] at hp
    rcases hp with rfl | rfl | rfl | rfl | rfl | rfl | rfl | rfl | rfl | rfl | rfl | rfl | rfl | rfl | rfl | rfl | rfl | rfl
    · exact xw0_12
    · exact xw1_12
    · exact xw2_12
    · exact xw3_12
    · exact xw4_12
    · exact xw5_12
    · exact xw6_12
    · exact xw7_12
    · exact xw8_12
    · exact xw9_12
    · exact xw10_12
    · exact xw11_12
    · exact xw12_12
    · exact xw13_12
    · exact xw14_12
    · exact xw15_12
    · exact xw16_12
    · exact xw17_12)
  have xn_TooMany : PySem.W.kitOne K (.type "NoneType") (.ref ((ctF [(0, C0), (1, C1), (2, C2), (3, C3), (4, C4), (5, C5), (6, C6), (7, C7), (8, C8), (9, C9), (10, C10), (11, C11), (12, C12), (13, C13), (14, C14), (15, C15), (16, C16), (17, C17)] [(12, ("many" : Str)), (13, ("name" : Str)), (14, ("name" : Str)), (15, ("name" : Str)), (16, ("most" : Str)), (17, ("number" : Str))]) 12).1) = some false := xv12
  have xk_NoName : ∀ c, PySem.W.kitOne K (.ref ((ctF [(0, C0), (1, C1), (2, C2), (3, C3), (4, C4), (5, C5), (6, C6), (7, C7), (8, C8), (9, C9), (10, C10), (11, C11), (12, C12), (13, C13), (14, C14), (15, C15), (16, C16), (17, C17)] [(12, ("many" : Str)), (13, ("name" : Str)), (14, ("name" : Str)), (15, ("name" : Str)), (16, ("most" : Str)), (17, ("number" : Str))]) c).1) (.ref ((ctF [(0, C0), (1, C1), (2, C2), (3, C3), (4, C4), (5, C5), (6, C6), (7, C7), (8, C8), (9, C9), (10, C10), (11, C11), (12, C12), (13, C13), (14, C14), (15, C15), (16, C16), (17, C17)] [(12, ("many" : Str)), (13, ("name" : Str)), (14, ("name" : Str)), (15, ("name" : Str)), (16, ("most" : Str)), (17, ("number" : Str))]) 13).1) = some (subP [0, 1, 2, 3, 4, 5, 6, 7, 8, 9, 10, 11, 12, 13, 14, 15, 16, 17] 13 c) := ctF_all (P := fun n a => PySem.W.kitOne K (.ref a) (.ref C13) = some (decide (n = 13))) (l := [(0, C0), (1, C1), (2, C2), (3, C3), (4, C4), (5, C5), (6, C6), (7, C7), (8, C8), (9, C9), (10, C10), (11, C11), (12, C12), (13, C13), (14, C14), (15, C15), (16, C16), (17, C17)]) (by simp) (fun p hp => by
    simp only [List.mem_cons, List.not_mem_nil, or_false] at hp
    rcases hp with rfl | rfl | rfl | rfl | rfl | rfl | rfl | rfl | rfl | rfl | rfl | rfl | rfl | rfl | rfl | rfl | rfl | rfl
    · exact xw0_13
    · exact xw1_13
    · exact xw2_13
    · exact xw3_13
    · exact xw4_13
    · exact xw5_13
    · exact xw6_13
    · exact xw7_13
    · exact xw8_13
    · exact xw9_13
    · exact xw10_13
    · exact xw11_13
    · exact xw12_13
    · exact xw13_13
    · exact xw14_13
    · exact xw15_13
    · exact xw16_13
    · exact xw17_13)
  have xn_NoName : PySem.W.kitOne K (.type "NoneType") (.ref ((ctF [(0, C0), (1, C1), (2, C2), (3, C3), (4, C4), (5, C5), (6, C6), (7, C7), (8, C8), (9, C9), (10, C10), (11, C11), (12, C12), (13, C13), (14, C14), (15, C15), (16, C16), (17, C17)] [(12, ("many" : Str)), (13, ("name" : Str)), (14, ("name" : Str)), (15, ("name" : Str)), (16, ("most" : Str)), (17, ("number" : Str))]) 13).1) = some false := xv13
  have xk_Standing : ∀ c, PySem.W.kitOne K (.ref ((ctF [(0, C0), (1, C1), (2, C2), (3, C3), (4, C4), (5, C5), (6, C6), (7, C7), (8, C8), (9, C9), (10, C10), (11, C11), (12, C12), (13, C13), (14, C14), (15, C15), (16, C16), (17, C17)] [(12, ("many" : Str)), (13, ("name" : Str)), (14, ("name" : Str)), (15, ("name" : Str)), (16, ("most" : Str)), (17, ("number" : Str))]) c).1) (.ref ((ctF [(0, C0), (1, C1), (2, C2), (3, C3), (4, C4), (5, C5), (6, C6), (7, C7), (8, C8), (9, C9), (10, C10), (11, C11), (12, C12), (13, C13), (14, C14), (15, C15), (16, C16), (17, C17)] [(12, ("many" : Str)), (13, ("name" : Str)), (14, ("name" : Str)), (15, ("name" : Str)), (16, ("most" : Str)), (17, ("number" : Str))]) 14).1) = some (subP [0, 1, 2, 3, 4, 5, 6, 7, 8, 9, 10, 11, 12, 13, 14, 15, 16, 17] 14 c) := ctF_all (P := fun n a => PySem.W.kitOne K (.ref a) (.ref C14) = some (decide (n = 14))) (l := [(0, C0), (1, C1), (2, C2), (3, C3), (4, C4), (5, C5), (6, C6), (7, C7), (8, C8), (9, C9), (10, C10), (11, C11), (12, C12), (13, C13), (14, C14), (15, C15), (16, C16), (17, C17)]) (by simp) (fun p hp => by
    simp only [List.mem_cons, List.not_mem_nil, or_false] at hp
    rcases hp with rfl | rfl | rfl | rfl | rfl | rfl | rfl | rfl | rfl | rfl | rfl | rfl | rfl | rfl | rfl | rfl | rfl | rfl
    · exact xw0_14
    · exact xw1_14
    · exact xw2_14
    · exact xw3_14
    · exact xw4_14
    · exact xw5_14
    · exact xw6_14
    · exact xw7_14
    · exact xw8_14
    · exact xw9_14
    · exact xw10_14
    · exact xw11_14
    · exact xw12_14
    · exact xw13_14
    · exact xw14_14
    · exact xw15_14
    · exact xw16_14
    · exact xw17_14)
  have xn_Standing : PySem.W.kitOne K (.type "NoneType") (.ref ((ctF [(0, C0), (1, C1), (2, C2), (3, C3), (4, C4), (5, C5), (6, C6), (7, C7), (8, C8), (9, C9), (10, C10), (11, C11), (12, C12), (13, C13), (14, C14), (15, C15), (16, C16), (17, C17)] [(12, ("many" : Str)), (13, ("name" : Str)), (14, ("name" : Str)), (15, ("name" : Str)), (16, ("most" : Str)), (17, ("number" : Str))]) 14).1) = some false := xv14
  have xk_InUse : ∀ c, PySem.W.kitOne K (.ref ((ctF [(0, C0), (1, C1), (2, C2), (3, C3), (4, C4), (5, C5), (6, C6), (7, C7), (8, C8), (9, C9), (10, C10), (11, C11), (12, C12), (13, C13), (14, C14), (15, C15), (16, C16), (17, C17)] [(12, ("many" : Str)), (13, ("name" : Str)), (14, ("name" : Str)), (15, ("name" : Str)), (16, ("most" : Str)), (17, ("number" : Str))]) c).1) (.ref ((ctF [(0, C0), (1, C1), (2, C2), (3, C3), (4, C4), (5, C5), (6, C6), (7, C7), (8, C8), (9, C9), (10, C10), (11, C11), (12, C12), (13, C13), (14, C14), (15, C15), (16, C16), (17, C17)] [(12, ("many" : Str)), (13, ("name" : Str)), (14, ("name" : Str)), (15, ("name" : Str)), (16, ("most" : Str)), (17, ("number" : Str))]) 15).1) = some (subP [0, 1, 2, 3, 4, 5, 6, 7, 8, 9, 10, 11, 12, 13, 14, 15, 16, 17] 15 c) := ctF_all (P := fun n a => PySem.W.kitOne K (.ref a) (.ref C15) = some (decide (n = 15))) (l := [(0, C0), (1, C1), (2, C2), (3, C3), (4, C4), (5, C5), (6, C6), (7, C7), (8, C8), (9, C9), (10, C10), (11, C11), (12, C12), (13, C13), (14, C14), (15, C15), (16, C16), (17, C17)]) (by simp) (fun p hp => by
    simp only [List.mem_cons, List.not_mem_nil, or_false] at hp
    rcases hp with rfl | rfl | rfl | rfl | rfl | rfl | rfl | rfl | rfl | rfl | rfl | rfl | rfl | rfl | rfl | rfl | rfl | rfl
    · exact xw0_15
    · exact xw1_15
    · exact xw2_15
    · exact xw3_15
    · exact xw4_15
    · exact xw5_15
    · exact xw6_15
    · exact xw7_15
    · exact xw8_15
    · exact xw9_15
    · exact xw10_15
    · exact xw11_15
    · exact xw12_15
    · exact xw13_15
    · exact xw14_15
    · exact xw15_15
    · exact xw16_15
    · exact xw17_15)
  have xn_InUse : PySem.W.kitOne K (.type "NoneType") (.ref ((ctF [(0, C0), (1, C1), (2, C2), (3, C3), (4, C4), (5, C5), (6, C6), (7, C7), (8, C8), (9, C9), (10, C10), (11, C11), (12, C12), (13, C13), (14, C14), (15, C15), (16, C16), (17, C17)] [(12, ("many" : Str)), (13, ("name" : Str)), (14, ("name" : Str)), (15, ("name" : Str)), (16, ("most" : Str)), (17, ("number" : Str))]) 15).1) = some false := xv15
  have xk_Full : ∀ c, PySem.W.kitOne K (.ref ((ctF [(0, C0), (1, C1), (2, C2), (3, C3), (4, C4), (5, C5), (6, C6), (7, C7), (8, C8), (9, C9), (10, C10), (11, C11), (12, C12), (13, C13), (14, C14), (15, C15), (16, C16), (17, C17)] [(12, ("many" : Str)), (13, ("name" : Str)), (14, ("name" : Str)), (15, ("name" : Str)), (16, ("most" : Str)), (17, ("number" : Str))]) c).1) (.ref ((ctF [(0, C0), (1, C1), (2, C2), (3, C3), (4, C4), (5, C5), (6, C6), (7, C7), (8, C8), (9, C9), (10, C10), (11, C11), (12, C12), (13, C13), (14, C14), (15, C15), (16, C16), (17, C17)] [(12, ("many" : Str)), (13, ("name" : Str)), (14, ("name" : Str)), (15, ("name" : Str)), (16, ("most" : Str)), (17, ("number" : Str))]) 16).1) = some (subP [0, 1, 2, 3, 4, 5, 6, 7, 8, 9, 10, 11, 12, 13, 14, 15, 16, 17] 16 c) := ctF_all (P := fun n a => PySem.W.kitOne K (.ref a) (.ref C16) = some (decide (n = 16))) (l := [(0, C0), (1, C1), (2, C2), (3, C3), (4, C4), (5, C5), (6, C6), (7, C7), (8, C8), (9, C9), (10, C10), (11, C11), (12, C12), (13, C13), (14, C14), (15, C15), (16, C16), (17, C17)]) (by simp) (fun p hp => by
    simp only [List.mem_cons, List.not_mem_nil, or_false] at hp
    rcases hp with rfl | rfl | rfl | rfl | rfl | rfl | rfl | rfl | rfl | rfl | rfl | rfl | rfl | rfl | rfl | rfl | rfl | rfl
    · exact xw0_16
    · exact xw1_16
    · exact xw2_16
    · exact xw3_16
    · exact xw4_16
    · exact xw5_16
    · exact xw6_16
    · exact xw7_16
    · exact xw8_16
    · exact xw9_16
    · exact xw10_16
    · exact xw11_16
    · exact xw12_16
    · exact xw13_16
    · exact xw14_16
    · exact xw15_16
    · exact xw16_16
    · exact xw17_16)
  have xn_Full : PySem.W.kitOne K (.type "NoneType") (.ref ((ctF [(0, C0), (1, C1), (2, C2), (3, C3), (4, C4), (5, C5), (6, C6), (7, C7), (8, C8), (9, C9), (10, C10), (11, C11), (12, C12), (13, C13), (14, C14), (15, C15), (16, C16), (17, C17)] [(12, ("many" : Str)), (13, ("name" : Str)), (14, ("name" : Str)), (15, ("name" : Str)), (16, ("most" : Str)), (17, ("number" : Str))]) 16).1) = some false := xv16
  have xk_NoMark : ∀ c, PySem.W.kitOne K (.ref ((ctF [(0, C0), (1, C1), (2, C2), (3, C3), (4, C4), (5, C5), (6, C6), (7, C7), (8, C8), (9, C9), (10, C10), (11, C11), (12, C12), (13, C13), (14, C14), (15, C15), (16, C16), (17, C17)] [(12, ("many" : Str)), (13, ("name" : Str)), (14, ("name" : Str)), (15, ("name" : Str)), (16, ("most" : Str)), (17, ("number" : Str))]) c).1) (.ref ((ctF [(0, C0), (1, C1), (2, C2), (3, C3), (4, C4), (5, C5), (6, C6), (7, C7), (8, C8), (9, C9), (10, C10), (11, C11), (12, C12), (13, C13), (14, C14), (15, C15), (16, C16), (17, C17)] [(12, ("many" : Str)), (13, ("name" : Str)), (14, ("name" : Str)), (15, ("name" : Str)), (16, ("most" : Str)), (17, ("number" : Str))]) 17).1) = some (subP [0, 1, 2, 3, 4, 5, 6, 7, 8, 9, 10, 11, 12, 13, 14, 15, 16, 17] 17 c) := ctF_all (P := fun n a => PySem.W.kitOne K (.ref a) (.ref C17) = some (decide (n = 17))) (l := [(0, C0), (1, C1), (2, C2), (3, C3), (4, C4), (5, C5), (6, C6), (7, C7), (8, C8), (9, C9), (10, C10), (11, C11), (12, C12), (13, C13), (14, C14), (15, C15), (16, C16), (17, C17)]) (by simp) (fun p hp => by
    simp only [List.mem_cons, List.not_mem_nil, or_false] at hp
    rcases hp with rfl | rfl | rfl | rfl | rfl | rfl | rfl | rfl | rfl | rfl | rfl | rfl | rfl | rfl | rfl | rfl | rfl | rfl
    · exact xw0_17
    · exact xw1_17
    · exact xw2_17
    · exact xw3_17
    · exact xw4_17
    · exact xw5_17
    · exact xw6_17
    · exact xw7_17
    · exact xw8_17
    · exact xw9_17
    · exact xw10_17
    · exact xw11_17
    · exact xw12_17
    · exact xw13_17
    · exact xw14_17
    · exact xw15_17
    · exact xw16_17
    · exact xw17_17)
  have xn_NoMark : PySem.W.kitOne K (.type "NoneType") (.ref ((ctF [(0, C0), (1, C1), (2, C2), (3, C3), (4, C4), (5, C5), (6, C6), (7, C7), (8, C8), (9, C9), (10, C10), (11, C11), (12, C12), (13, C13), (14, C14), (15, C15), (16, C16), (17, C17)] [(12, ("many" : Str)), (13, ("name" : Str)), (14, ("name" : Str)), (15, ("name" : Str)), (16, ("most" : Str)), (17, ("number" : Str))]) 17).1) = some false := xv17
  have D0 : Df K mg "_law_open" ["_law_script"] (top 21) := df_mk X G a0 l0 c0 k0 fun _ _ _ _ _ _ us hl => match us, hl with | [_], _ => rfl
  have D1 : Df K mg "_law_all" ["_law_word", "_law_some"] (top 26) := df_mk X G a1 l1 c1 k1 fun _ _ _ _ _ _ us hl => match us, hl with | [_, _], _ => rfl
  have D2 : Df K mg "_law_spread" ["_law_cell", "_law_at"] (top 22) := df_mk X G a2 l2 c2 k2 fun _ _ _ _ _ _ us hl => match us, hl with | [_, _], _ => rfl
  have D3 : Df K mg "_law_take" ["_law_pen", "_law_many"] (top 23) := df_mk X G a3 l3 c3 k3 fun _ _ _ _ _ _ us hl => match us, hl with | [_, _], _ => rfl
  have D4 : Df K mg "_law_same" ["_law_found", "_law_due"] (top 24) := df_mk X G a4 l4 c4 k4 fun _ _ _ _ _ _ us hl => match us, hl with | [_, _], _ => rfl
  have D5 : Df K mg "_law_kinds" ["_law_one"] (top 25) := df_mk X G a5 l5 c5 k5 fun _ _ _ _ _ _ us hl => match us, hl with | [_], _ => rfl
  have D6 : Df K mg "law" ["_law_script"] (top 27) := df_mk X G a6 l6 c6 k6 fun _ _ _ _ _ _ us hl => match us, hl with | [_], _ => rfl
  have c__law_open : ∀ base : Heap, Kn PySem.Challenge.pw_burnrank_k04_refusals wd K mg base (ctF [(0, C0), (1, C1), (2, C2), (3, C3), (4, C4), (5, C5), (6, C6), (7, C7), (8, C8), (9, C9), (10, C10), (11, C11), (12, C12), (13, C13), (14, C14), (15, C15), (16, C16), (17, C17)] [(12, ("many" : Str)), (13, ("name" : Str)), (14, ("name" : Str)), (15, ("name" : Str)), (16, ("most" : Str)), (17, ("number" : Str))]) 1 "_law_open" 1 f_law_open := fun base => k__law_open bl D0 
  have c__law_all : ∀ base : Heap, Kn PySem.Challenge.pw_burnrank_k04_refusals wd K mg base (ctF [(0, C0), (1, C1), (2, C2), (3, C3), (4, C4), (5, C5), (6, C6), (7, C7), (8, C8), (9, C9), (10, C10), (11, C11), (12, C12), (13, C13), (14, C14), (15, C15), (16, C16), (17, C17)] [(12, ("many" : Str)), (13, ("name" : Str)), (14, ("name" : Str)), (15, ("name" : Str)), (16, ("most" : Str)), (17, ("number" : Str))]) 3 "_law_all" 2 f_law_all := fun base => k__law_all bl D1 E_NoChange E_NoClass E_NoDeed E_NoFiring E_NoHeap E_NoMap E_NoOrder E_NoPlace E_NoTaking E_NoTie E_NoTree E_NoWeb (e_Full base) (e_InUse base) (e_NoMark base) (e_NoName base) (e_Standing base) (e_TooMany base)
  have c__law_spread : ∀ base : Heap, Kn PySem.Challenge.pw_burnrank_k04_refusals wd K mg base (ctF [(0, C0), (1, C1), (2, C2), (3, C3), (4, C4), (5, C5), (6, C6), (7, C7), (8, C8), (9, C9), (10, C10), (11, C11), (12, C12), (13, C13), (14, C14), (15, C15), (16, C16), (17, C17)] [(12, ("many" : Str)), (13, ("name" : Str)), (14, ("name" : Str)), (15, ("name" : Str)), (16, ("most" : Str)), (17, ("number" : Str))]) 1 "_law_spread" 2 f_law_spread := fun base => k__law_spread bl D2 
  have c__law_take : ∀ base : Heap, Kn PySem.Challenge.pw_burnrank_k04_refusals wd K mg base (ctF [(0, C0), (1, C1), (2, C2), (3, C3), (4, C4), (5, C5), (6, C6), (7, C7), (8, C8), (9, C9), (10, C10), (11, C11), (12, C12), (13, C13), (14, C14), (15, C15), (16, C16), (17, C17)] [(12, ("many" : Str)), (13, ("name" : Str)), (14, ("name" : Str)), (15, ("name" : Str)), (16, ("most" : Str)), (17, ("number" : Str))]) 2 "_law_take" 2 f_law_take := fun base => k__law_take bl D3 (c__law_spread base)
  have c__law_same : ∀ base : Heap, Kn PySem.Challenge.pw_burnrank_k04_refusals wd K mg base (ctF [(0, C0), (1, C1), (2, C2), (3, C3), (4, C4), (5, C5), (6, C6), (7, C7), (8, C8), (9, C9), (10, C10), (11, C11), (12, C12), (13, C13), (14, C14), (15, C15), (16, C16), (17, C17)] [(12, ("many" : Str)), (13, ("name" : Str)), (14, ("name" : Str)), (15, ("name" : Str)), (16, ("most" : Str)), (17, ("number" : Str))]) 6 "_law_same" 2 f_law_same := fun base => k__law_same bl D4 
  have c__law_kinds : ∀ base : Heap, Kn PySem.Challenge.pw_burnrank_k04_refusals wd K mg base (ctF [(0, C0), (1, C1), (2, C2), (3, C3), (4, C4), (5, C5), (6, C6), (7, C7), (8, C8), (9, C9), (10, C10), (11, C11), (12, C12), (13, C13), (14, C14), (15, C15), (16, C16), (17, C17)] [(12, ("many" : Str)), (13, ("name" : Str)), (14, ("name" : Str)), (15, ("name" : Str)), (16, ("most" : Str)), (17, ("number" : Str))]) 1 "_law_kinds" 1 f_law_kinds := fun base => k__law_kinds bl D5 E_NoChange E_NoClass E_NoDeed E_NoFiring E_NoHeap E_NoMap E_NoOrder E_NoPlace E_NoTaking E_NoTie E_NoTree E_NoWeb xE gC_Full gC_InUse gC_NoMark gC_NoName gC_Standing gC_TooMany xn_Full xn_InUse xn_NoChange xn_NoClass xn_NoDeed xn_NoFiring xn_NoHeap xn_NoMap xn_NoMark xn_NoName xn_NoOrder xn_NoPlace xn_NoTaking xn_NoTie xn_NoTree xn_NoWeb xn_Standing xn_TooMany xk_Full xk_InUse xk_NoChange xk_NoClass xk_NoDeed xk_NoFiring xk_NoHeap xk_NoMap xk_NoMark xk_NoName xk_NoOrder xk_NoPlace xk_NoTaking xk_NoTie xk_NoTree xk_NoWeb xk_Standing xk_TooMany
  exact law_fin (k_law (ct := (ctF [(0, C0), (1, C1), (2, C2), (3, C3), (4, C4), (5, C5), (6, C6), (7, C7), (8, C8), (9, C9), (10, C10), (11, C11), (12, C12), (13, C13), (14, C14), (15, C15), (16, C16), (17, C17)] [(12, ("many" : Str)), (13, ("name" : Str)), (14, ("name" : Str)), (15, ("name" : Str)), (16, ("most" : Str)), (17, ("number" : Str))])) bl D6 (fun base => c__law_open base) (fun base => c__law_take base) (fun base => c__law_all base) (fun base => c__law_same base) (fun base => c__law_kinds base) xE mV xkV xnV xf_many xf_most xf_name xf_number xkB xnB mB) hfa hg
end
end BR

namespace BR
open PySem
theorem eTup_eq (a : EA) (σ : Sg) (h : Hd) : eTup a σ h = (a σ h).bind fun ds h => if ds.length ≤ LIM then .ok (.tup ds) h else .bad := rfl
theorem eLst_eq (a : EA) (σ : Sg) (h : Hd) : eLst a σ h = (a σ h).bind fun ds h => if ds.length ≤ LIM then .ok (.lst ds) h else .bad := rfl
theorem eLstR_eq (a : EA) (σ : Sg) (h : Hd) : eLstR a σ h = (a σ h).bind fun ds h => if ds.length ≤ LIM then .ok (.ref h.length) (h ++ [.lst ds]) else .bad := rfl
/-- a tuple of ints, a tuple of rows -/
def dI (xs : List Int) : D := .tup (xs.map .int)
def dW (m : List (List Int)) : D := .tup (m.map dI)
theorem okOld_refl (h : Hd) : okOld h h := fun a ha => ⟨h[a], by simp [ha], .inl (by simp [ha])⟩
theorem fin_same {h : Hd} {d : D} (e : noRef h.length d = true) : fin h d h = .ok d h := by
  unfold fin
  rw [if_pos (okOld_refl h)]
  unfold frz
  rw [if_pos e, List.take_length]
theorem fin_bl (h : Hd) (b : Bool) : fin h (.bl b) h = .ok (.bl b) h := fin_same rfl
theorem fin_int (h : Hd) (i : Int) : fin h (.int i) h = .ok (.int i) h := fin_same rfl
/-- a clause whose parts leave the heap as it is -/
theorem lcF_map {g : EG} {c : ET} {e : Sg → Hd → Res (List D)} {σ : Sg} {h : Hd} {α : Type} (k : α → D) (v : α → List D) : ∀ xs : List α,
    (∀ x ∈ xs, ∃ σ1, g (k x) σ h = .ok σ1 h ∧ c σ1 h = .ok true h ∧ e σ1 h = .ok (v x) h) → lcF g c e [] σ (xs.map k) h = .ok ((xs.map v).flatten) h
  | [], _ => by
    unfold lcF
    rw [List.map_nil]
    simp
  | x :: xs, H => by
    obtain ⟨σ1, h1, h2, h3⟩ := H x List.mem_cons_self
    have ih := lcF_map k v xs fun y hy => H y (List.mem_cons_of_mem _ hy)
    rw [List.map_cons]
    unfold lcF
    rw [if_pos (okChk_nil h), h1]
    simp only [Res.bind_ok, h2, if_true, h3, ih, List.map_cons, List.flatten_cons]
theorem lcF_one {g : EG} {c : ET} {e : EE} {σ : Sg} {h : Hd} {α : Type} (k v : α → D) (xs : List α)
    (H : ∀ x ∈ xs, ∃ σ1, g (k x) σ h = .ok σ1 h ∧ c σ1 h = .ok true h ∧ e σ1 h = .ok (v x) h) : lcF g c (lcOne e) [] σ (xs.map k) h = .ok (xs.map v) h := by
  have := lcF_map (g := g) (c := c) (e := lcOne e) (σ := σ) (h := h) k (fun x => [v x]) xs fun x hx => by
    obtain ⟨σ1, h1, h2, h3⟩ := H x hx
    exact ⟨σ1, h1, h2, by simp [lcOne, h3]⟩
  rw [this]
  congr 1
  clear this H
  induction xs with
  | nil => rfl
  | cons x xs ih => simp [ih]
theorem toPys_ints (h : Hd) : ∀ xs : List Int, toPys h (xs.map D.int) = some (xs.map PyData.int)
  | [] => rfl
  | x :: xs => by
    rw [List.map_cons]
    unfold toPys
    rw [toPys_ints h xs]; rfl
theorem lay_ints : ∀ xs : List Int, PyData.canLayAll0 (xs.map PyData.int) = true ∧ PyData.depthAll (xs.map PyData.int) = 0
  | [] => ⟨rfl, rfl⟩
  | x :: xs => by
    obtain ⟨a, b⟩ := lay_ints xs
    rw [List.map_cons]
    constructor
    · unfold PyData.canLayAll0; rw [a]; rfl
    · unfold PyData.depthAll; rw [b]; rfl
theorem eqv_ints : ∀ xs ys : List Int, PyData.eqvAll (xs.map PyData.int) (ys.map PyData.int) = decide (xs = ys)
  | [], [] => by unfold PyData.eqvAll; simp
  | [], y :: ys => by simp [PyData.eqvAll]
  | x :: xs, [] => by simp [PyData.eqvAll]
  | x :: xs, y :: ys => by
    rw [List.map_cons, List.map_cons]
    unfold PyData.eqvAll
    rw [eqv_ints xs ys]
    simp [PyData.eqv]
    by_cases h1 : x = y <;> by_cases h2 : xs = ys <;> simp [h1, h2]
theorem shaped_ints (xs : List Int) : SeqAt.shaped (.tuple (xs.map PyData.int)) = true := by
  obtain ⟨a, b⟩ := lay_ints xs
  unfold SeqAt.shaped
  have h1 : PyData.canLay0 (.tuple (xs.map PyData.int)) = true := by unfold PyData.canLay0; exact a
  have h2 : PyData.depth (.tuple (xs.map PyData.int)) = 1 := by
    unfold PyData.depth
    rw [b]
  rw [h1, h2]; rfl
theorem gEq_int (a b : Int) (h : Hd) : gEq [.int a, .int b] h = .ok (.bl (decide (a = b))) h := by
  simp [gEq, eqD, strOf, toPyR, toPy, SeqAt.shaped, PyData.canLay0, PyData.depth, PyData.eqv]
  by_cases e : a = b <;> simp [e]
theorem gNe_int (a b : Int) (h : Hd) : gNe [.int a, .int b] h = .ok (.bl (!decide (a = b))) h := by
  simp [gNe, eqD, strOf, toPyR, toPy, SeqAt.shaped, PyData.canLay0, PyData.depth, PyData.eqv]
  by_cases e : a = b <;> simp [e]
theorem gEq_dI (a b : List Int) (h : Hd) : gEq [dI a, dI b] h = .ok (.bl (decide (a = b))) h := by
  have e : ∀ xs, toPyR h (dI xs) = some (.tuple (xs.map PyData.int)) := fun xs => by
    show (toPys h (xs.map D.int)).map PyData.tuple = _
    rw [toPys_ints]; rfl
  have z : PyData.eqv (.tuple (a.map PyData.int)) (.tuple (b.map PyData.int)) = decide (a = b) := by
    unfold PyData.eqv
    exact eqv_ints a b
  have zs : ∀ xs, strOf (dI xs) = none := fun _ => rfl
  unfold gEq eqD
  simp only [zs, e, shaped_ints, z, and_self, if_true]
end BR

namespace BR
open PySem
theorem forF_inv {g : EG} {body : SS} {chk : List (Nat × List D)} {α : Type} (k : α → D) (I : List α → Sg → Hd → Prop) (xs : List α) (hchk : ∀ done σ h, I done σ h → okChk chk h)
    (H : ∀ done x rest σ h, xs = done ++ x :: rest → I done σ h → ∃ σ1 h1 σ2 h2, g (k x) σ h = .ok σ1 h1 ∧ (body σ1 h1 = .ok (.nx σ2) h2 ∨ body σ1 h1 = .ok (.ct σ2) h2) ∧ I (done ++ [x]) σ2 h2) :
    ∀ (rest done : List α) (σ : Sg) (h : Hd), xs = done ++ rest → I done σ h → ∃ σ' h', forF g body chk (rest.map k) σ h = .ok (.nx σ') h' ∧ I xs σ' h'
  | [], done, σ, h, e, i => by
    rw [List.append_nil] at e
    subst e
    exact ⟨σ, h, by rw [List.map_nil]; unfold forF; rw [if_pos (hchk _ _ _ i)], i⟩
  | x :: rest, done, σ, h, e, i => by
    obtain ⟨σ1, h1, σ2, h2, e1, e2, i2⟩ := H done x rest σ h e i
    obtain ⟨σ', h', e3, i3⟩ := forF_inv k I xs hchk H rest (done ++ [x]) σ2 h2 (by rw [e]; simp) i2
    refine ⟨σ', h', ?_, i3⟩
    rw [List.map_cons]
    unfold forF
    rw [if_pos (hchk _ _ _ i), e1]
    simp only [Res.bind_ok]
    rcases e2 with e2 | e2 <;> (rw [e2]; exact e3)
theorem forF_inv0 {g : EG} {body : SS} {chk : List (Nat × List D)} {α : Type} (k : α → D) (I : List α → Sg → Hd → Prop) (xs : List α) (hchk : ∀ done σ h, I done σ h → okChk chk h)
    (H : ∀ done x rest σ h, xs = done ++ x :: rest → I done σ h → ∃ σ1 h1 σ2 h2, g (k x) σ h = .ok σ1 h1 ∧ (body σ1 h1 = .ok (.nx σ2) h2 ∨ body σ1 h1 = .ok (.ct σ2) h2) ∧ I (done ++ [x]) σ2 h2) {σ : Sg} {h : Hd} (i : I [] σ h) :
    ∃ σ' h', forF g body chk (xs.map k) σ h = .ok (.nx σ') h' ∧ I xs σ' h' := forF_inv k I xs hchk H xs [] σ h rfl i
theorem enumFrom_map : ∀ (k : Nat) (xs : List D), enumFrom k xs = (List.range xs.length).map fun i => .tup [.int ((k + i : Nat) : Int), (xs.getD i .non)]
  | k, [] => rfl
  | k, x :: xs => by
    rw [enumFrom, enumFrom_map (k + 1) xs, List.length_cons, List.range_succ_eq_map, List.map_cons, List.map_map]
    congr 1
    apply List.map_congr_left
    intro i _
    simp
    omega
theorem okOld_app (h r : Hd) : okOld h (h ++ r) := fun a ha => ⟨h[a], by rw [List.getElem?_append_left ha]; simp [ha], .inl (by simp [ha])⟩
theorem fin_app {h r : Hd} {d : D} (e : noRef h.length d = true) : fin h d (h ++ r) = .ok d h := by
  unfold fin
  rw [if_pos (okOld_app h r)]
  unfold frz
  rw [if_pos e]
  simp
theorem ixN_nat {n i : Nat} (h : i < n) : L2.ixN n (i : Int) = some i := by
  unfold L2.ixN
  rw [if_pos (by omega), if_pos (by omega)]
  simp
theorem atI_nat {α : Type} {xs : List α} {i : Nat} (h : i < xs.length) : L2.atI xs (i : Int) = some xs[i] := by
  unfold L2.atI
  rw [ixN_nat h]
  simp [h]
/-- the entry -/
def ent (m : List (List Int)) (u v : Nat) : Int := (m.getD u []).getD v 0
theorem gSum_dI (xs : List Int) (h : Hd) : gSum [dI xs] h = .ok (.int xs.sum) h := by
  unfold gSum gInts dI
  simp only [seqOf, intsOf_map]
theorem gSum_lst (xs : List Int) (h : Hd) : gSum [.lst (xs.map D.int)] h = .ok (.int xs.sum) h := by
  unfold gSum gInts
  simp only [seqOf, intsOf_map]
end BR

namespace BR
open PySem
theorem nd_sub {α : Type} [DecidableEq α] : ∀ (a b : List α), a.Nodup → (∀ x ∈ a, x ∈ b) → a.length ≤ b.length
  | [], b, _, _ => Nat.zero_le _
  | x :: a, b, nd, h => by
    obtain ⟨n1, n2⟩ := List.nodup_cons.mp nd
    have hx : x ∈ b := h x List.mem_cons_self
    have ih := nd_sub a (b.erase x) n2 fun y hy => by
      have ne : y ≠ x := fun e => n1 (e ▸ hy)
      exact (List.mem_erase_of_ne ne).mpr (h y (List.mem_cons_of_mem _ hy))
    rw [List.length_erase_of_mem hx] at ih
    have : 0 < b.length := List.length_pos_of_mem hx
    simp only [List.length_cons]
    omega
/-- what is a web -/
structure IsWeb (m : List (List Int)) : Prop where
  n1 : 1 ≤ m.length
  n10 : m.length ≤ 10
  row : ∀ r ∈ m, r.length = m.length ∧ ∀ x ∈ r, 0 ≤ x
  sym : ∀ u v, u < m.length → v < m.length → ent m u v = ent m v u
  nul : ∀ u, u < m.length → ent m u u = 0
  sum : (m.map List.sum).sum ≤ 24
  con : ∀ S : Nat → Prop, S 0 → (∀ u v, u < m.length → v < m.length → S u → 0 < ent m u v → S v) → ∀ v, v < m.length → S v
/-- what stands between two turns of the walk -/
structure JP (m : List (List Int)) (ks left : List Nat) : Prop where
  nd : ks.Nodup
  lt : ∀ k ∈ ks, k < m.length
  z : 0 ∈ ks
  sub : ∀ k ∈ left, k ∈ ks
  cl : ∀ k ∈ ks, k ∉ left → ∀ v, v < m.length → 0 < ent m k v → v ∈ ks
theorem JP.len {m : List (List Int)} {ks left : List Nat} (j : JP m ks left) : ks.length ≤ m.length := by
  have := nd_sub ks (List.range m.length) j.nd fun x hx => List.mem_range.mpr (j.lt x hx)
  simpa using this
theorem enum_ints (xs : List Int) : enumFrom 0 (xs.map D.int) = (List.range xs.length).map fun (i : Nat) => .tup [.int (i : Int), .int (xs.getD i 0)] := by
  rw [enumFrom_map, List.length_map]
  apply List.map_congr_left
  intro i hi
  have hi := List.mem_range.mp hi
  simp [hi]
theorem range_split {n : Nat} {done : List Nat} {x : Nat} {rest : List Nat} (e : List.range n = done ++ x :: rest) : done = List.range x ∧ x < n := by
  have hl := congrArg List.length e
  simp at hl
  have hx : x < n := by
    have : x ∈ List.range n := by rw [e]; simp
    simpa using this
  have h1 : (List.range n)[done.length]? = some x := by rw [e]; simp
  rw [List.getElem?_range (by omega)] at h1
  have h2 : done.length = x := by simpa using h1
  refine ⟨?_, hx⟩
  have h3 : (List.range n).take done.length = done := by rw [e]; simp
  rw [← h3, h2, List.take_range]
  congr 1
  omega
end BR

namespace BR
open PySem
def sm (n : Nat) (f : Nat → Int) : Int := ((List.range n).map f).sum
theorem sum_app (a b : List Int) : (a ++ b).sum = a.sum + b.sum := by
  induction a with
  | nil => simp
  | cons x a ih => simp [ih]; omega
theorem sm_succ (n : Nat) (f : Nat → Int) : sm (n + 1) f = sm n f + f n := by
  unfold sm
  rw [List.range_succ, List.map_append, sum_app]
  simp
theorem sm_nil (n : Nat) : sm n (fun _ => 0) = 0 := by
  induction n with
  | zero => rfl
  | succ n ih => rw [sm_succ, ih]; rfl
theorem getD_mem {α : Type} {l : List α} {i : Nat} {d : α} (h : i < l.length) : l.getD i d ∈ l := by simp [h]
theorem mulOk_l {a b : Int} (h1 : -(2 ^ 64) < a) (h2 : a < 2 ^ 64) : mulOk a b := .inl ⟨h1, h2⟩
theorem mulOk_r {a b : Int} (h1 : -(2 ^ 64) < b) (h2 : b < 2 ^ 64) : mulOk a b := .inr (.inl ⟨h1, h2⟩)
theorem log2_bd {n k : Nat} (h : n < 2 ^ k) (hk : 0 < k) : n.log2 < k := by
  by_cases e : n = 0
  · subst e
    simpa using hk
  · exact (Nat.log2_lt e).mpr h
theorem gLen_dW (m : List (List Int)) (h : Hd) : gLen [dW m] h = .ok (.int m.length) h := by simp [gLen, dW]
end BR

namespace BR
open PySem
/-- the heap: the cells, the pen (t drawn, a left over), the rest -/
def hp (c : List Int) (t a : Int) (r : Hd) : Hd := .lst (c.map D.int) :: .lst [.ref 0, .int t, .int a] :: r
/-- the most cells drawn -/
def TM : Int := 1000000000
theorem fin_pen {c : List Int} {t a t' a' : Int} {r s : Hd} {d : D} (e : noRef (r.length + 2) d = true) : fin (hp c t a r) d (hp c t' a' (r ++ s)) = .ok d (hp c t' a' r) := by
  have ho : okOld (hp c t a r) (hp c t' a' (r ++ s)) := fun i hi => by
    match i, hi with
    | 0, _ => exact ⟨_, rfl, .inl rfl⟩
    | 1, _ => exact ⟨_, rfl, .inr (by simp [obNoRef, noRef, hp])⟩
    | i + 2, hi =>
      have hi : i < r.length := by simp [hp] at hi; omega
      exact ⟨r[i], by
        show (r ++ _)[i]? = some r[i]
        rw [List.getElem?_append_left hi]; simp [hi], .inl (by simp [hp, hi])⟩
  unfold fin
  rw [if_pos ho]
  unfold frz
  have hl : (hp c t a r).length = r.length + 2 := by simp [hp]
  rw [hl, if_pos e]
  simp [hp]
theorem fin_pen0 {c : List Int} {t a t' a' : Int} {r : Hd} {d : D} (e : noRef (r.length + 2) d = true) : fin (hp c t a r) d (hp c t' a' r) = .ok d (hp c t' a' r) := by
  have := fin_pen (c := c) (t := t) (a := a) (t' := t') (a' := a') (r := r) (s := []) e
  rw [List.append_nil] at this
  exact this
theorem fmod_lt {a b : Int} (h : 0 < b) : 0 ≤ a.fmod b ∧ a.fmod b < b := by
  rw [Int.fmod_eq_emod_of_nonneg _ (by omega)]
  exact ⟨Int.emod_nonneg _ (by omega), Int.emod_lt_of_pos _ h⟩
theorem gIx_at {d : D} {xs : List D} {h : Hd} {i : Int} (e : seqOf h d = some xs) (h0 : 0 ≤ i) (h1 : i < xs.length) : gIx [d, .int i] h = .ok (xs.getD i.toNat .non) h := by
  unfold gIx
  have hi : i.toNat < xs.length := by omega
  have e2 := atI_nat (xs := xs) (i := i.toNat) hi
  have : ((i.toNat : Nat) : Int) = i := by omega
  rw [this] at e2
  simp only [e, e2]
  congr 1
  simp [hi]
def PR : List Int := [2147483629, 2147483587, 2147483579, 2147483563, 2147483549, 2147483543, 2147483497, 2147483489, 2147483477, 2147483423, 2147483399, 2147483353, 2147483323]
theorem pr_at (x : Int) (h : Hd) : ∃ q : Int, gIx [.lst (PR.map D.int), .int (x.fmod 13)] h = .ok (.int q) h ∧ 2147483323 ≤ q ∧ q ≤ 2147483629 := by
  obtain ⟨h0, h1⟩ := fmod_lt (a := x) (b := 13) (by decide)
  have hi : (x.fmod 13).toNat < PR.length := by show _ < 13; omega
  refine ⟨PR.getD (x.fmod 13).toNat 0, ?_, ?_⟩
  · rw [gIx_at (xs := PR.map D.int) rfl h0 (by rw [List.length_map]; show x.fmod 13 < (13 : Nat); omega)]
    congr 1
    simp [hi]
  · have := getD_mem (d := (0 : Int)) hi
    have all : ∀ q ∈ PR, 2147483323 ≤ q ∧ q ≤ 2147483629 := by decide
    exact all _ this
theorem gPow_ok {i : Int} {k : Nat} (hk : k ≤ 10) (h1 : 0 ≤ i) (h2 : i < 2 ^ 64) (h : Hd) : gPow [.int i, .int (k : Int)] h = .ok (.int (i ^ k)) h := by
  unfold gPow
  have : 0 ≤ (k : Int) ∧ (k : Int) ≤ 1000000 ∧ i.natAbs < 2 ^ 64 := ⟨by omega, by omega, by omega⟩
  simp only [this, and_self, if_true]
  simp
theorem gPow10 (k : Nat) (hk : k ≤ 100) (h : Hd) : gPow [.int 10, .int (k : Int)] h = .ok (.int (10 ^ k)) h := by
  unfold gPow
  have : 0 ≤ (k : Int) ∧ (k : Int) ≤ 1000000 ∧ (10 : Int).natAbs < 2 ^ 64 := ⟨by omega, by omega, by decide⟩
  simp only [this, and_self, if_true]
  simp
theorem gMod_ok {i j : Int} (hj : j ≠ 0) (h : Hd) : gMod [.int i, .int j] h = .ok (.int (i.fmod j)) h := by
  unfold gMod
  simp only [hj, ne_eq, not_false_eq_true, if_true]
theorem gMul_ok {i j : Int} (e : mulOk i j) (h : Hd) : gMul [.int i, .int j] h = .ok (.int (i * j)) h := by
  unfold gMul
  simp only [e, if_true]
theorem gMul_s {i j : Int} (h1 : -(2 ^ 64) < i) (h2 : i < 2 ^ 64) (h : Hd) : gMul [.int i, .int j] h = .ok (.int (i * j)) h := gMul_ok (mulOk_l h1 h2) h
theorem gMul_r {i j : Int} (h1 : -(2 ^ 64) < j) (h2 : j < 2 ^ 64) (h : Hd) : gMul [.int i, .int j] h = .ok (.int (i * j)) h := gMul_ok (mulOk_r h1 h2) h
theorem gAdd_ii (i j : Int) (h : Hd) : gAdd [.int i, .int j] h = .ok (.int (i + j)) h := rfl
theorem spread_eq (x t : Int) (h0 : 0 ≤ t) (h1 : t ≤ TM) (h : Hd) : ∃ v, f_law_spread [.int x, .int t] h = .ok (.int v) h := by
  unfold TM at h1
  by_cases hx : 10 ^ 18 ≤ x
  · refine ⟨x, ?_⟩
    have e1 : gPow [.int 10, .int 18] h = .ok (.int (10 ^ 18)) h := gPow10 18 (by decide) h
    unfold f_law_spread
    simp only [fn, fnK, sNop, sSeq, sEx, sRet, sIf, sBrk, sCnt, sAsg, gVar, gAll, gTup, gSub, sAug, sAugS, sPar2, sPar3, eVar, eC, aNil, aCons, eAp, eAp1_eq, eAp2_eq, tB, tAnd, tOr, tNot, tTT, eT, eIf, eAnd, eOr, eNot, eCh, oNo, oP, eSl, eMtL, eTup_eq, eLst_eq, eLstR_eq, Res.bind_ok, Res.bind_bad, Res.bind_exc, List.map_cons, List.map_nil, List.length_cons, List.length_nil, List.replicate, List.cons_append, List.nil_append, List.getElem?_cons_zero, List.getElem?_cons_succ, List.set_cons_zero, List.set_cons_succ, if_true, if_false, Nat.reduceAdd, Nat.reduceSub, Nat.reduceEqDiff, reduceIte, Bool.false_eq_true, e1, gGe, hx, decide_true, fin_int]
  · have e1 : gPow [.int 10, .int 18] h = .ok (.int (10 ^ 18)) h := gPow10 18 (by decide) h
    obtain ⟨q1, p1, b1, c1⟩ := pr_at t h
    obtain ⟨q2, p2, b2, c2⟩ := pr_at (t + 5) h
    obtain ⟨q3, p3, b3, c3⟩ := pr_at (t + 7) h
    obtain ⟨m1, m2⟩ := fmod_lt (a := x) (b := 1000000007) (by decide)
    obtain ⟨m3, m4⟩ := fmod_lt (a := x) (b := 65537) (by decide)
    have z1 : x.fmod 1000000007 * (2 * t + 69069) ≤ 1000000006 * (2 * t + 69069) := Int.mul_le_mul_of_nonneg_right (by omega) (by omega)
    have z2 : 0 ≤ x.fmod 1000000007 * (2 * t + 69069) := Int.mul_nonneg m1 (by omega)
    obtain ⟨n1, n2⟩ := fmod_lt (a := (x.fmod 1000000007 * (2 * t + 69069) + t * 40503 + 977) ^ 3) (b := q1) (by omega)
    generalize ho : ((x.fmod 1000000007 * (2 * t + 69069) + t * 40503 + 977) ^ 3).fmod q1 = one at n1 n2
    have z3 : one * (t + 3) ≤ 2147483629 * (t + 3) := Int.mul_le_mul_of_nonneg_right (by omega) (by omega)
    have z4 : 0 ≤ one * (t + 3) := Int.mul_nonneg n1 (by omega)
    obtain ⟨o1, o2⟩ := fmod_lt (a := (one * (t + 3) + x.fmod 65537 + 5) ^ 5) (b := q2) (by omega)
    generalize hw : ((one * (t + 3) + x.fmod 65537 + 5) ^ 5).fmod q2 = two at o1 o2
    obtain ⟨s1, s2⟩ := fmod_lt (a := one) (b := 1009) (by decide)
    refine ⟨(one * 2147483647 + two) * 2147483647 + ((two + one.fmod 1009 + t) ^ 3).fmod q3, ?_⟩
    have d1 : gMul [.int (x.fmod 1000000007), .int (2 * t + 69069)] h = _ := gMul_s (by omega) (by omega) h
    have d2 : gMul [.int 2, .int t] h = _ := gMul_s (by omega) (by omega) h
    have d3 : gMul [.int t, .int 40503] h = _ := gMul_r (by omega) (by omega) h
    have d4 : gPow [.int (x.fmod 1000000007 * (2 * t + 69069) + t * 40503 + 977), .int 3] h = _ := gPow_ok (k := 3) (by decide) (by omega) (by omega) h
    have d5 : gMul [.int one, .int (t + 3)] h = _ := gMul_s (by omega) (by omega) h
    have d6 : gPow [.int (one * (t + 3) + x.fmod 65537 + 5), .int 5] h = _ := gPow_ok (k := 5) (by decide) (by omega) (by omega) h
    have d7 : gPow [.int (two + one.fmod 1009 + t), .int 3] h = _ := gPow_ok (k := 3) (by decide) (by omega) (by omega) h
    have d8 : gMul [.int one, .int 2147483647] h = _ := gMul_s (by omega) (by omega) h
    have d9 : gMul [.int (one * 2147483647 + two), .int 2147483647] h = _ := gMul_r (by omega) (by omega) h
    have g1 : gMod [.int x, .int 1000000007] h = _ := gMod_ok (by decide) h
    have g2 : gMod [.int x, .int 65537] h = _ := gMod_ok (by decide) h
    have g3 : gMod [.int one, .int 1009] h = _ := gMod_ok (by decide) h
    have g4 : ∀ y : Int, gMod [.int y, .int 13] h = _ := fun y => gMod_ok (by decide) h
    have g5 : ∀ y : Int, gMod [.int y, .int q1] h = _ := fun y => gMod_ok (by omega) h
    have g6 : ∀ y : Int, gMod [.int y, .int q2] h = _ := fun y => gMod_ok (by omega) h
    have g7 : ∀ y : Int, gMod [.int y, .int q3] h = _ := fun y => gMod_ok (by omega) h
    have hx' : decide ((10 : Int) ^ 18 ≤ x) = false := decide_eq_false hx
    have l1 : (8 : Nat) ≤ LIM := by decide
    have l2 : (5 : Nat) ≤ LIM := by decide
    have l3 : (8 : Nat) + 5 ≤ LIM := by decide
    unfold PR at p1 p2 p3
    simp only [List.map_cons, List.map_nil] at p1 p2 p3
    unfold f_law_spread
    simp only [fn, fnK, sNop, sSeq, sEx, sRet, sIf, sBrk, sCnt, sAsg, gVar, gAll, gTup, gSub, sAug, sAugS, sPar2, sPar3, eVar, eC, aNil, aCons, eAp, eAp1_eq, eAp2_eq, tB, tAnd, tOr, tNot, tTT, eT, eIf, eAnd, eOr, eNot, eCh, oNo, oP, eSl, eMtL, eTup_eq, eLst_eq, eLstR_eq, Res.bind_ok, Res.bind_bad, Res.bind_exc, List.map_cons, List.map_nil, List.length_cons, List.length_nil, List.replicate, List.cons_append, List.nil_append, List.getElem?_cons_zero, List.getElem?_cons_succ, List.set_cons_zero, List.set_cons_succ, if_true, if_false, Nat.reduceAdd, Nat.reduceSub, Nat.reduceEqDiff, reduceIte, Bool.false_eq_true, e1, gGe, hx', l1, l2]
    have a1 : gAdd [.lst [.int 2147483629, .int 2147483587, .int 2147483579, .int 2147483563, .int 2147483549, .int 2147483543, .int 2147483497, .int 2147483489], .lst [.int 2147483477, .int 2147483423, .int 2147483399, .int 2147483353, .int 2147483323]] h =
      .ok (.lst [.int 2147483629, .int 2147483587, .int 2147483579, .int 2147483563, .int 2147483549, .int 2147483543, .int 2147483497, .int 2147483489, .int 2147483477, .int 2147483423, .int 2147483399, .int 2147483353, .int 2147483323]) h := by
      unfold gAdd
      simp [LIM]
    have k3 : ((3 : Nat) : Int) = 3 := rfl
    simp only [fn, fnK, sNop, sSeq, sEx, sRet, sIf, sBrk, sCnt, sAsg, gVar, gAll, gTup, gSub, sAug, sAugS, sPar2, sPar3, eVar, eC, aNil, aCons, eAp, eAp1_eq, eAp2_eq, tB, tAnd, tOr, tNot, tTT, eT, eIf, eAnd, eOr, eNot, eCh, oNo, oP, eSl, eMtL, eTup_eq, eLst_eq, eLstR_eq, Res.bind_ok, Res.bind_bad, Res.bind_exc, List.map_cons, List.map_nil, List.length_cons, List.length_nil, List.replicate, List.cons_append, List.nil_append, List.getElem?_cons_zero, List.getElem?_cons_succ, List.set_cons_zero, List.set_cons_succ, if_true, if_false, Nat.reduceAdd, Nat.reduceSub, Nat.reduceEqDiff, reduceIte, Bool.false_eq_true, a1, g1, g2, g4, gAdd_ii, d1, d2, d3, d4, p1, g5, ho, d5, d6, p2, g6, hw, g3, d7, p3, g7, d8, d9, fin_int]
end BR

namespace BR
open PySem
theorem pen0 (c : List Int) (t a : Int) (r : Hd) : gIx [.ref 1, .int 0] (hp c t a r) = .ok (.ref 0) (hp c t a r) := rfl
theorem pen1 (c : List Int) (t a : Int) (r : Hd) : gIx [.ref 1, .int 1] (hp c t a r) = .ok (.int t) (hp c t a r) := rfl
theorem pen2 (c : List Int) (t a : Int) (r : Hd) : gIx [.ref 1, .int 2] (hp c t a r) = .ok (.int a) (hp c t a r) := rfl
theorem pens1 (c : List Int) (t a t' : Int) (r : Hd) : gSet [.ref 1, .int 1, .int t'] (hp c t a r) = .ok .non (hp c t' a r) := rfl
theorem pens2 (c : List Int) (t a a' : Int) (r : Hd) : gSet [.ref 1, .int 2, .int a'] (hp c t a r) = .ok .non (hp c t a' r) := rfl
theorem cell_len (c : List Int) (t a : Int) (r : Hd) : gLen [.ref 0] (hp c t a r) = .ok (.int c.length) (hp c t a r) := by
  simp [gLen, hp]
theorem cell_at (c : List Int) (t a i : Int) (r : Hd) (h0 : 0 ≤ i) (h1 : i < c.length) : gIx [.ref 0, .int i] (hp c t a r) = .ok (.int (c.getD i.toNat 0)) (hp c t a r) := by
  rw [gIx_at (xs := c.map D.int) rfl h0 (by simpa using h1)]
  congr 1
  have : i.toNat < c.length := by omega
  simp [this]
noncomputable def tkM : SS := (sIf (tB (eAp2 gLt (eVar 2) (eAp gLen (aCons (eAp2 gIx (eVar 0) (eC (.int 0))) aNil)))) (sAsg (eAp2 gIx (eAp2 gIx (eVar 0) (eC (.int 0))) (eVar 2)) (gVar 3)) (sIf (tB (eAp2 gGt (eAp gLen (aCons (eAp2 gIx (eVar 0) (eC (.int 0))) aNil)) (eC (.int 0)))) (sAsg (eAp2 gMod (eAp2 gIx (eAp2 gIx (eVar 0) (eC (.int 0))) (eAp2 gMod (eAp2 gAdd (eAp2 gMul (eVar 2) (eC (.int 5))) (eC (.int 3))) (eAp gLen (aCons (eAp2 gIx (eVar 0) (eC (.int 0))) aNil)))) (eAp2 gAdd (eAp2 gPow (eC (.int 10)) (eC (.int 17))) (eVar 2))) (gVar 3)) sNop))
def tkT : SS := (sSeq (sAsg (eAp2 gMod (eAp2 gIx (eVar 0) (eC (.int 2))) (eVar 1)) (gVar 4))
  (sSeq (sAsg (eAp2 gFdv (eAp2 gIx (eVar 0) (eC (.int 2))) (eVar 1)) (gSub (eVar 0) (eC (.int 2)) gSet))
  (sRet (eVar 4))))
theorem take_def : f_law_take = fn 2 5 (sSeq (sIf (tB (eAp2 gLt (eAp2 gIx (eVar 0) (eC (.int 2))) (eVar 1))) (sSeq (sAsg (eAp2 gIx (eVar 0) (eC (.int 1))) (gVar 2))
  (sSeq (sAsg (eC (.int 0)) (gVar 3)) (sSeq tkM
  (sSeq (sAsg (eAp2 gAdd (eVar 2) (eC (.int 1))) (gSub (eVar 0) (eC (.int 1)) gSet))
  (sAsg (eAp f_law_spread (aCons (eVar 3) (aCons (eVar 2) aNil))) (gSub (eVar 0) (eC (.int 2)) gSet)))))) sNop) tkT) := rfl
/-- one drawn number -/
theorem take_eq (c : List Int) (t a m : Int) (r : Hd) (h0 : 0 ≤ t) (h1 : t ≤ TM) (hm : 1 ≤ m) (hm2 : m ≤ 10 ^ 40) :
    ∃ x t' a', f_law_take [.ref 1, .int m] (hp c t a r) = .ok (.int x) (hp c t' a' r) ∧ 0 ≤ x ∧ x < m ∧ t ≤ t' ∧ t' ≤ t + 1 := by
  have fl : ∀ (y : Int) (h : Hd), gFdv [.int y, .int m] h = .ok (.int (y.fdiv m)) h := fun y h => by
    unfold gFdv
    have hz : m ≠ 0 ∧ m.natAbs.log2 < 9000 := by
      refine ⟨by omega, Nat.lt_of_lt_of_le (m := 140) (log2_bd (by omega) (by decide)) (by decide)⟩
    simp only [hz, and_self, ne_eq, not_false_eq_true, if_true]
  have md : ∀ (y : Int) (h : Hd), gMod [.int y, .int m] h = .ok (.int (y.fmod m)) h := fun y h => gMod_ok (by omega) h
  have tail : ∀ (t' a' : Int) (u v : Option D), t ≤ t' → t' ≤ t + 1 → ∃ x t2 a2, (tkT [some (.ref 1), some (.int m), u, v, none] (hp c t' a' r)).bind (fun f h' => match f with
      | .rt d => fin (hp c t a r) d h'
      | .nx _ => fin (hp c t a r) .non h'
      | _ => .bad) = .ok (.int x) (hp c t2 a2 r) ∧ 0 ≤ x ∧ x < m ∧ t ≤ t2 ∧ t2 ≤ t + 1 := by
    intro t' a' u v l1 l2
    obtain ⟨f0, f1⟩ := fmod_lt (a := a') (b := m) (by omega)
    refine ⟨a'.fmod m, t', a'.fdiv m, ?_, f0, f1, l1, l2⟩
    unfold tkT
    simp only [fn, fnK, sNop, sSeq, sEx, sRet, sIf, sBrk, sCnt, sAsg, gVar, gAll, gTup, gSub, sAug, sAugS, sPar2, sPar3, eVar, eC, aNil, aCons, eAp, eAp1_eq, eAp2_eq, tB, tAnd, tOr, tNot, tTT, eT, eIf, eAnd, eOr, eNot, eCh, oNo, oP, eSl, eMtL, eTup_eq, eLst_eq, eLstR_eq, Res.bind_ok, Res.bind_bad, Res.bind_exc, List.map_cons, List.map_nil, List.length_cons, List.length_nil, List.replicate, List.cons_append, List.nil_append, List.getElem?_cons_zero, List.getElem?_cons_succ, List.set_cons_zero, List.set_cons_succ, if_true, if_false, Nat.reduceAdd, Nat.reduceSub, Nat.reduceEqDiff, reduceIte, Bool.false_eq_true, pen2, md, fl, pens2]
    exact fin_pen0 rfl
  rw [take_def]
  by_cases ha : a < m
  · have ha' : decide (a < m) = true := decide_eq_true ha
    obtain ⟨v, hv⟩ : ∃ cell : Int, ∀ (h : Hd) (u : Option D), h = hp c t a r → (tkM
        [some (.ref 1), some (.int m), some (.int t), some (.int 0), none] h) = .ok (.nx [some (.ref 1), some (.int m), some (.int t), some (.int cell), none]) h := by
      unfold TM at h1
      unfold tkM
      by_cases hl : t < c.length
      · refine ⟨c.getD t.toNat 0, fun h u e => ?_⟩
        subst e
        simp only [fn, fnK, sNop, sSeq, sEx, sRet, sIf, sBrk, sCnt, sAsg, gVar, gAll, gTup, gSub, sAug, sAugS, sPar2, sPar3, eVar, eC, aNil, aCons, eAp, eAp1_eq, eAp2_eq, tB, tAnd, tOr, tNot, tTT, eT, eIf, eAnd, eOr, eNot, eCh, oNo, oP, eSl, eMtL, eTup_eq, eLst_eq, eLstR_eq, Res.bind_ok, Res.bind_bad, Res.bind_exc, List.map_cons, List.map_nil, List.length_cons, List.length_nil, List.replicate, List.cons_append, List.nil_append, List.getElem?_cons_zero, List.getElem?_cons_succ, List.set_cons_zero, List.set_cons_succ, if_true, if_false, Nat.reduceAdd, Nat.reduceSub, Nat.reduceEqDiff, reduceIte, Bool.false_eq_true, pen0, cell_len, gLt, hl, decide_true, cell_at c t a t r h0 hl]
      · by_cases hz : 0 < (c.length : Int)
        · obtain ⟨f0, f1⟩ := fmod_lt (a := t * 5 + 3) (b := c.length) hz
          refine ⟨(c.getD ((t * 5 + 3).fmod c.length).toNat 0).fmod (10 ^ 17 + t), fun h u e => ?_⟩
          subst e
          have hl' : decide (t < (c.length : Int)) = false := decide_eq_false hl
          have e1 : gMul [.int t, .int 5] (hp c t a r) = _ := gMul_r (by decide) (by decide) _
          have e2 : gMod [.int (t * 5 + 3), .int c.length] (hp c t a r) = _ := gMod_ok (by omega) _
          have e3 : gPow [.int 10, .int 17] (hp c t a r) = .ok (.int (10 ^ 17)) _ := gPow10 17 (by decide) _
          have e4 : gMod [.int (c.getD ((t * 5 + 3).fmod c.length).toNat 0), .int (10 ^ 17 + t)] (hp c t a r) = _ := gMod_ok (by omega) _
          simp only [fn, fnK, sNop, sSeq, sEx, sRet, sIf, sBrk, sCnt, sAsg, gVar, gAll, gTup, gSub, sAug, sAugS, sPar2, sPar3, eVar, eC, aNil, aCons, eAp, eAp1_eq, eAp2_eq, tB, tAnd, tOr, tNot, tTT, eT, eIf, eAnd, eOr, eNot, eCh, oNo, oP, eSl, eMtL, eTup_eq, eLst_eq, eLstR_eq, Res.bind_ok, Res.bind_bad, Res.bind_exc, List.map_cons, List.map_nil, List.length_cons, List.length_nil, List.replicate, List.cons_append, List.nil_append, List.getElem?_cons_zero, List.getElem?_cons_succ, List.set_cons_zero, List.set_cons_succ, if_true, if_false, Nat.reduceAdd, Nat.reduceSub, Nat.reduceEqDiff, reduceIte, Bool.false_eq_true, pen0, cell_len, gLt, hl', gGt, hz, decide_true, e1, gAdd_ii, e2, cell_at c t a _ r f0 f1, e3, e4]
        · refine ⟨0, fun h u e => ?_⟩
          subst e
          have hl' : decide (t < (c.length : Int)) = false := decide_eq_false hl
          have hz' : decide (0 < (c.length : Int)) = false := decide_eq_false hz
          simp only [fn, fnK, sNop, sSeq, sEx, sRet, sIf, sBrk, sCnt, sAsg, gVar, gAll, gTup, gSub, sAug, sAugS, sPar2, sPar3, eVar, eC, aNil, aCons, eAp, eAp1_eq, eAp2_eq, tB, tAnd, tOr, tNot, tTT, eT, eIf, eAnd, eOr, eNot, eCh, oNo, oP, eSl, eMtL, eTup_eq, eLst_eq, eLstR_eq, Res.bind_ok, Res.bind_bad, Res.bind_exc, List.map_cons, List.map_nil, List.length_cons, List.length_nil, List.replicate, List.cons_append, List.nil_append, List.getElem?_cons_zero, List.getElem?_cons_succ, List.set_cons_zero, List.set_cons_succ, if_true, if_false, Nat.reduceAdd, Nat.reduceSub, Nat.reduceEqDiff, reduceIte, Bool.false_eq_true, pen0, cell_len, gLt, hl', gGt, hz']
    obtain ⟨w, hw⟩ := spread_eq v t h0 h1 (hp c (t + 1) a r)
    obtain ⟨x, t2, a2, e, b1, b2, b3, b4⟩ := tail (t + 1) w (some (.int t)) (some (.int v)) (by omega) (by omega)
    refine ⟨x, t2, a2, ?_, b1, b2, b3, b4⟩
    rw [← e]
    have hv' := hv (hp c t a r) none rfl
    simp only [fn, fnK, sNop, sSeq, sEx, sRet, sIf, sBrk, sCnt, sAsg, gVar, gAll, gTup, gSub, sAug, sAugS, sPar2, sPar3, eVar, eC, aNil, aCons, eAp, eAp1_eq, eAp2_eq, tB, tAnd, tOr, tNot, tTT, eT, eIf, eAnd, eOr, eNot, eCh, oNo, oP, eSl, eMtL, eTup_eq, eLst_eq, eLstR_eq, Res.bind_ok, Res.bind_bad, Res.bind_exc, List.map_cons, List.map_nil, List.length_cons, List.length_nil, List.replicate, List.cons_append, List.nil_append, List.getElem?_cons_zero, List.getElem?_cons_succ, List.set_cons_zero, List.set_cons_succ, if_true, if_false, Nat.reduceAdd, Nat.reduceSub, Nat.reduceEqDiff, reduceIte, Bool.false_eq_true, pen2, gLt, ha', pen1, hv', gAdd_ii, pens1, hw, pens2]
    try rfl
  · have ha' : decide (a < m) = false := decide_eq_false ha
    obtain ⟨x, t2, a2, e, b1, b2, b3, b4⟩ := tail t a none none (by omega) (by omega)
    refine ⟨x, t2, a2, ?_, b1, b2, b3, b4⟩
    rw [← e]
    simp only [fn, fnK, sNop, sSeq, sEx, sRet, sIf, sBrk, sCnt, sAsg, gVar, gAll, gTup, gSub, sAug, sAugS, sPar2, sPar3, eVar, eC, aNil, aCons, eAp, eAp1_eq, eAp2_eq, tB, tAnd, tOr, tNot, tTT, eT, eIf, eAnd, eOr, eNot, eCh, oNo, oP, eSl, eMtL, eTup_eq, eLst_eq, eLstR_eq, Res.bind_ok, Res.bind_bad, Res.bind_exc, List.map_cons, List.map_nil, List.length_cons, List.length_nil, List.replicate, List.cons_append, List.nil_append, List.getElem?_cons_zero, List.getElem?_cons_succ, List.set_cons_zero, List.set_cons_succ, if_true, if_false, Nat.reduceAdd, Nat.reduceSub, Nat.reduceEqDiff, reduceIte, Bool.false_eq_true, pen2, gLt, ha']
    try rfl
/-- each within the bound -/
def Bd (b : Int) (xs : List Int) : Prop := ∀ x ∈ xs, -b ≤ x ∧ x ≤ b
theorem Bd.at {b : Int} {xs : List Int} (h : Bd b xs) (hb : 0 ≤ b) (i : Nat) : -b ≤ xs.getD i 0 ∧ xs.getD i 0 ≤ b := by
  by_cases hi : i < xs.length
  · exact h _ (getD_mem hi)
  · have : xs.getD i 0 = 0 := by simp [Nat.le_of_not_lt hi]
    rw [this]; omega
/-- an order of n places -/
def IsOrd (n : Nat) (o : List Int) : Prop := o.Perm ((List.range n).map fun (i : Nat) => (i : Int))
theorem hp_get (c : List Int) (t a : Int) (r s : Hd) (o : Ob) : (hp c t a (r ++ o :: s))[r.length + 2]? = some o := by simp [hp]
theorem hp_set (c : List Int) (t a : Int) (r s : Hd) (o o' : Ob) : (hp c t a (r ++ o :: s)).set (r.length + 2) o' = hp c t a (r ++ o' :: s) := by simp [hp]
end BR

namespace BR
open PySem
def Sh (n : Nat) (M : List (List Int)) : Prop := M.length = n ∧ ∀ r ∈ M, r.length = n
def inc (M : List (List Int)) (a b : Nat) : List (List Int) := M.set a ((M.getD a []).set b (ent M a b + 1))
theorem Sh.inc {n : Nat} {M : List (List Int)} (s : Sh n M) {a b : Nat} (ha : a < n) : Sh n (inc M a b) := by
  refine ⟨by unfold BR.inc; rw [List.length_set]; exact s.1, fun r hr => ?_⟩
  unfold BR.inc at hr
  rcases List.mem_or_eq_of_mem_set hr with hr | rfl
  · exact s.2 r hr
  · rw [List.length_set]
    exact s.2 _ (getD_mem (by rw [s.1]; exact ha))
theorem ent_inc {n : Nat} {M : List (List Int)} (s : Sh n M) {a b : Nat} (ha : a < n) (hb : b < n) (i j : Nat) : ent (inc M a b) i j = if i = a ∧ j = b then ent M a b + 1 else ent M i j := by
  have hal : a < M.length := by rw [s.1]; exact ha
  have hrl : (M.getD a []).length = n := s.2 _ (getD_mem hal)
  unfold inc
  by_cases hi : i = a
  · subst hi
    have e1 : (M.set i ((M.getD i []).set b (ent M i b + 1))).getD i [] = (M.getD i []).set b (ent M i b + 1) := by simp [hal]
    unfold ent at *
    rw [e1]
    by_cases hj : j = b
    · subst hj
      rw [if_pos ⟨rfl, rfl⟩]
      rw [List.getD_eq_getElem?_getD, List.getElem?_set_self (by rw [hrl]; exact hb)]; rfl
    · rw [if_neg (fun z => hj z.2)]
      rw [List.getD_eq_getElem?_getD, List.getElem?_set_ne (fun z => hj z.symm), ← List.getD_eq_getElem?_getD]
  · rw [if_neg (fun z => hi z.1)]
    unfold ent
    have : (M.set a ((M.getD a []).set b ((M.getD a []).getD b 0 + 1))).getD i [] = M.getD i [] := by
      rw [List.getD_eq_getElem?_getD, List.getElem?_set_ne (fun z => hi z.symm), ← List.getD_eq_getElem?_getD]
    rw [this]
theorem sum_set : ∀ (l : List Int) (i : Nat) (x : Int), i < l.length → (l.set i x).sum = l.sum - l.getD i 0 + x
  | [], _, _, h => by simp at h
  | y :: l, 0, x, _ => by simp; omega
  | y :: l, i + 1, x, h => by
    have := sum_set l i x (by simpa using h)
    simp only [List.set_cons_succ, List.sum_cons, this, List.getD_cons_succ]
    omega
theorem sum_inc {n : Nat} {M : List (List Int)} (s : Sh n M) {a b : Nat} (ha : a < n) (hb : b < n) : ((inc M a b).map List.sum).sum = (M.map List.sum).sum + 1 := by
  have hal : a < M.length := by rw [s.1]; exact ha
  have hrl : (M.getD a []).length = n := s.2 _ (getD_mem hal)
  unfold inc
  rw [List.map_set, sum_set _ _ _ (by simpa using hal), sum_set _ _ _ (by rw [hrl]; exact hb)]
  have : (M.map List.sum).getD a 0 = (M.getD a []).sum := by simp [hal]
  rw [this]
  unfold ent
  omega
/-- what a web in the making keeps -/
structure Mk (n : Nat) (o : Nat → Nat) (E : List (Nat × Nat)) (M : List (List Int)) : Prop where
  sh : Sh n M
  sym : ∀ i j, i < n → j < n → ent M i j = ent M j i
  nul : ∀ i, i < n → ent M i i = 0
  pos : ∀ i j, i < n → j < n → 0 ≤ ent M i j
  sum : (M.map List.sum).sum = 2 * E.length
  edg : ∀ p ∈ E, 0 < ent M (o p.1) (o p.2)
theorem Mk.step {n : Nat} {o : Nat → Nat} {E : List (Nat × Nat)} {M : List (List Int)} (k : Mk n o E M) {u v : Nat} (hu : o u < n) (hv : o v < n) (ne : o u ≠ o v) (hE : ∀ p ∈ E, o p.1 < n ∧ o p.2 < n) : Mk n o (E ++ [(u, v)]) (inc (inc M (o u) (o v)) (o v) (o u)) := by
  have s1 := k.sh.inc (b := o v) hu
  have e : ∀ i j, ent (inc (inc M (o u) (o v)) (o v) (o u)) i j = if (i = o v ∧ j = o u) ∨ (i = o u ∧ j = o v) then ent M i j + 1 else ent M i j := fun i j => by
    rw [ent_inc s1 hv hu, ent_inc k.sh hu hv, ent_inc k.sh hu hv]
    by_cases h1 : i = o v ∧ j = o u
    · obtain ⟨e1, e2⟩ := h1
      subst e1; subst e2
      simp [ne, ne.symm]
    · rw [if_neg h1]
      by_cases h2 : i = o u ∧ j = o v
      · obtain ⟨e1, e2⟩ := h2
        subst e1; subst e2
        simp
      · rw [if_neg h2, if_neg (fun z => z.elim h1 h2)]
  refine ⟨s1.inc hv, fun i j hi hj => ?_, fun i hi => ?_, fun i j hi hj => ?_, ?_, fun p hp => ?_⟩
  · rw [e, e, k.sym i j hi hj]
    by_cases h : (i = o v ∧ j = o u) ∨ (i = o u ∧ j = o v)
    · rw [if_pos h, if_pos (h.elim (fun z => .inr ⟨z.2, z.1⟩) fun z => .inl ⟨z.2, z.1⟩)]
    · rw [if_neg h, if_neg (fun z => h (z.elim (fun z => .inr ⟨z.2, z.1⟩) fun z => .inl ⟨z.2, z.1⟩))]
  · rw [e, if_neg (fun z => z.elim (fun z => ne (z.2.symm.trans z.1)) fun z => ne (z.1.symm.trans z.2))]
    exact k.nul i hi
  · rw [e]
    have := k.pos i j hi hj
    split <;> omega
  · rw [sum_inc s1 hv hu, sum_inc k.sh hu hv, k.sum, List.length_append]
    simp
    omega
  · rw [e]
    rcases List.mem_append.mp hp with hp | hp
    · have := k.edg p hp
      split <;> omega
    · have : p = (u, v) := by simpa using hp
      subst this
      have := k.pos (o u) (o v) hu hv
      rw [if_pos (.inr ⟨rfl, rfl⟩)]
      show 0 < ent M (o u) (o v) + 1
      omega
theorem rep_sum : ∀ n : Nat, (List.replicate n (0 : Int)).sum = 0
  | 0 => rfl
  | n + 1 => by rw [List.replicate_succ, List.sum_cons, rep_sum n]; rfl
theorem Mk.start (n : Nat) (o : Nat → Nat) : Mk n o [] ((List.range n).map fun _ => List.replicate n 0) := by
  have e : ∀ i j, ent ((List.range n).map fun _ => List.replicate n (0 : Int)) i j = 0 := fun i j => by
    unfold ent
    by_cases hi : i < n
    · simp only [List.getD_eq_getElem?_getD, List.getElem?_map, List.getElem?_range hi, Option.map_some, Option.getD_some, List.getElem?_replicate]
      split <;> rfl
    · have : ((List.range n).map fun _ => List.replicate n (0 : Int)).getD i [] = [] := by simp [Nat.le_of_not_lt hi]
      rw [this]; rfl
  refine ⟨⟨by simp, fun r hr => ?_⟩, fun i j _ _ => by rw [e, e], fun i _ => e i i, fun i j _ _ => by rw [e]; exact Int.le_refl _, ?_, fun p hp => by simp at hp⟩
  · obtain ⟨_, _, rfl⟩ := List.mem_map.mp hr
    simp
  · rw [List.map_map]
    have : ((List.range n).map (List.sum ∘ fun _ => List.replicate n (0 : Int))) = (List.range n).map fun _ => (0 : Int) := by
      apply List.map_congr_left
      intro i _
      exact rep_sum n
    rw [this]
    show sm n (fun _ => 0) = _
    rw [sm_nil]; rfl
/-- all its ties laid, it is a web -/
theorem Mk.web {n : Nat} {o : Nat → Nat} {E : List (Nat × Nat)} {M : List (List Int)} (k : Mk n o E M) (h1 : 1 ≤ n) (h2 : n ≤ 10) (hE : E.length ≤ 12) (ho : ∀ w, w < n → ∃ u, u < n ∧ o u = w) (hlt : ∀ u, u < n → o u < n)
    (ht : ∀ v, v < n → 0 < v → ∃ x, x < v ∧ (x, v) ∈ E) : IsWeb M := by
  have hl := k.sh.1
  refine ⟨by omega, by omega, fun r hr => ⟨by rw [hl]; exact k.sh.2 r hr, fun x hx => ?_⟩, fun u v hu hv => k.sym u v (hl ▸ hu) (hl ▸ hv), fun u hu => k.nul u (hl ▸ hu), by rw [k.sum]; omega, fun S s0 cl v hv => ?_⟩
  · obtain ⟨i, hi, rfl⟩ := List.getElem_of_mem hr
    obtain ⟨j, hj, rfl⟩ := List.getElem_of_mem hx
    have := k.pos i j (hl ▸ hi) (by rw [← k.sh.2 _ hr]; exact hj)
    unfold ent at this
    simpa [hi, hj] using this
  · have same : ∀ v, v < n → (S (o v) ↔ S (o 0)) := by
      intro v
      induction v using Nat.strongRecOn with
      | ind v ih =>
        intro hv
        by_cases hz : v = 0
        · subst hz; exact Iff.rfl
        · obtain ⟨x, hx, hm⟩ := ht v hv (by omega)
          have p := k.edg _ hm
          have q : 0 < ent M (o v) (o x) := by rw [k.sym (o v) (o x) (hlt v hv) (hlt x (by omega))]; exact p
          have i := ih x hx (by omega)
          exact ⟨fun z => i.mp (cl (o v) (o x) (by rw [hl]; exact hlt v hv) (by rw [hl]; exact hlt x (by omega)) z q), fun z => cl (o x) (o v) (by rw [hl]; exact hlt x (by omega)) (by rw [hl]; exact hlt v hv) (i.mpr z) p⟩
    obtain ⟨u0, hu0, e0⟩ := ho 0 (by omega)
    obtain ⟨u1, hu1, e1⟩ := ho v (hl ▸ hv)
    rw [← e1]
    exact (same u1 hu1).mpr ((same u0 hu0).mp (e0 ▸ s0))
end BR

namespace BR
open PySem
def oF (ord : List Int) (u : Nat) : Nat := (ord.getD u 0).toNat
theorem IsOrd.len {n : Nat} {o : List Int} (h : IsOrd n o) : o.length = n := by have := h.length_eq; simpa using this
theorem IsOrd.at {n : Nat} {o : List Int} (h : IsOrd n o) {u : Nat} (hu : u < n) : o.getD u 0 = (oF o u : Int) ∧ oF o u < n := by
  have hm : o.getD u 0 ∈ o := getD_mem (by rw [h.len]; exact hu)
  obtain ⟨i, hi, e⟩ := List.mem_map.mp (h.mem_iff.mp hm)
  have hi := List.mem_range.mp hi
  unfold oF
  rw [← e]
  exact ⟨by simp, by simpa using hi⟩
theorem IsOrd.nd {n : Nat} {o : List Int} (h : IsOrd n o) : o.Nodup := by
  refine h.nodup_iff.mpr ?_
  rw [List.Nodup, List.pairwise_map]
  exact List.Pairwise.imp (fun {a b} hab e => hab (by omega)) (List.nodup_range (n := n))
theorem IsOrd.inj {n : Nat} {o : List Int} (h : IsOrd n o) {u v : Nat} (hu : u < n) (hv : v < n) (e : oF o u = oF o v) : u = v := by
  have e1 : o.getD u 0 = o.getD v 0 := by rw [(h.at hu).1, (h.at hv).1, e]
  have hu' : u < o.length := by rw [h.len]; exact hu
  have hv' : v < o.length := by rw [h.len]; exact hv
  simp only [List.getD_eq_getElem?_getD, List.getElem?_eq_getElem hu', List.getElem?_eq_getElem hv', Option.getD_some] at e1
  exact (List.getElem_inj h.nd).mp e1
end BR

namespace BR
open PySem
theorem seq_nx {s t : SS} {σ σ1 : Sg} {h h1 : Hd} (e : s σ h = .ok (.nx σ1) h1) : sSeq s t σ h = t σ1 h1 := by
  unfold sSeq
  rw [e]; rfl
theorem fnK_rt {n m : Nat} {body : SS} {ds : List D} {h h' : Hd} {d : D} (hl : ds.length = n) (e : body (ds.map some ++ List.replicate (m - n) none) h = .ok (.rt d) h') : fnK n m body ds h = .ok d h' := by
  unfold fnK
  rw [if_pos hl, e]; rfl
end BR

namespace BR
open PySem
end BR

namespace BR
open PySem
theorem open_eq (ns : List Int) : ∃ c, f_law_open [.scr ns] [] = .ok (.ref 1) (hp c 0 0 []) := by
  have s1 : HT.sIx (ns.map D.int).length 0 none = 0 := rfl
  have s12 : ∀ d, HT.sIx (ns.map D.int).length d (some 12) = min 12 (ns.map D.int).length := fun d => HT.sIx_nat _ d 12
  have c1 : cutD (ns.map D.int) none (some 12) = (ns.take 12).map D.int := by
    unfold cutD
    rw [s1, s12, List.drop_zero, Nat.sub_zero, List.length_map, List.map_take]
    rcases Nat.le_total 12 ns.length with h | h
    · rw [Nat.min_eq_left h]
    · rw [Nat.min_eq_right h, List.take_of_length_le (by simp), List.take_of_length_le (by simpa using h)]
  obtain ⟨zs, c2, hz⟩ : ∃ zs : List Int, cutD (ns.map D.int) (some 12) (some 63) = zs.map D.int ∧ (zs ≠ [] → 12 ≤ ns.length) := by
    refine ⟨(ns.drop (HT.sIx (ns.map D.int).length 0 (some 12))).take (HT.sIx (ns.map D.int).length (ns.map D.int).length (some 63) - HT.sIx (ns.map D.int).length 0 (some 12)), ?_, fun hne => ?_⟩
    · unfold cutD
      rw [List.map_take, List.map_drop]
    · apply Classical.byContradiction
      intro hlt
      apply hne
      have : HT.sIx (ns.map D.int).length 0 (some 12) = ns.length := by
        rw [s12, List.length_map]
        omega
      rw [this, List.drop_length, List.take_nil]
  obtain ⟨σ', h', e1, c, a, b, eσ, eh, hl⟩ := forF_inv0 (g := gTup [(gVar 2), (gVar 3)]) (body := sAsg (eAp2 gAdd (eAp2 gIx (eVar 1) (eAp2 gMod (eVar 2) (eC (.int 12)))) (eVar 3)) (gSub (eVar 1) (eAp2 gMod (eVar 2) (eC (.int 12))) gSet)) (chk := []) (fun (i : Nat) => D.tup [.int (i : Int), .int (zs.getD i 0)])
    (fun done σ h => ∃ (c : List Int) (a b : Option D), σ = [some (.scr ns), some (.ref 0), a, b] ∧ h = [.lst (c.map D.int)] ∧ (zs ≠ [] → c.length = 12)) (List.range zs.length) (fun _ _ _ _ => okChk_nil _)
    (fun done i rest σ h ed hI => by
      obtain ⟨c, a, b, rfl, rfl, hl⟩ := hI
      have hi := (range_split ed).2
      have hne : zs ≠ [] := by rintro rfl; simp at hi
      have hl := hl hne
      obtain ⟨f0, f1⟩ := fmod_lt (a := (i : Int)) (b := 12) (by decide)
      have md : ∀ h : Hd, gMod [.int (i : Int), .int 12] h = .ok (.int ((i : Int).fmod 12)) h := fun h => gMod_ok (by decide) h
      generalize hj : ((i : Int).fmod 12).toNat = j
      have hji : (i : Int).fmod 12 = (j : Int) := by omega
      have hj12 : j < c.length := by omega
      rw [hji] at md
      have g1 : gIx [.ref 0, .int (j : Int)] [.lst (c.map D.int)] = .ok (.int (c.getD j 0)) [.lst (c.map D.int)] := by
        unfold gIx
        simp only [seqOf, List.getElem?_cons_zero]
        rw [atI_nat (by simpa using hj12)]
        simp [hj12]
      have g2 : gSet [.ref 0, .int (j : Int), .int (c.getD j 0 + zs.getD i 0)] [.lst (c.map D.int)] = .ok .non [.lst ((c.set j (c.getD j 0 + zs.getD i 0)).map D.int)] := by
        unfold gSet
        simp only [List.getElem?_cons_zero]
        rw [ixN_nat (by simpa using hj12)]
        simp [List.map_set]
      refine ⟨_, _, _, [.lst ((c.set j (c.getD j 0 + zs.getD i 0)).map D.int)], rfl, .inl ?_, _, some (.int (i : Int)), some (.int (zs.getD i 0)), rfl, rfl, fun _ => by rw [List.length_set]; exact hl⟩
      simp only [fn, fnK, sNop, sSeq, sEx, sRet, sIf, sBrk, sCnt, sAsg, gVar, gAll, gTup, gSub, sAug, sAugS, sPar2, sPar3, eVar, eC, aNil, aCons, eAp, eAp1_eq, eAp2_eq, tB, tAnd, tOr, tNot, tTT, eT, eIf, eAnd, eOr, eNot, eCh, oNo, oP, eSl, eMtL, eTup_eq, eLst_eq, eLstR_eq, Res.bind_ok, Res.bind_bad, Res.bind_exc, List.map_cons, List.map_nil, List.length_cons, List.length_nil, List.replicate, List.cons_append, List.nil_append, List.getElem?_cons_zero, List.getElem?_cons_succ, List.set_cons_zero, List.set_cons_succ, if_true, if_false, Nat.reduceAdd, Nat.reduceSub, Nat.reduceEqDiff, reduceIte, Bool.false_eq_true, md, g1, gAdd_ii, g2])
    (σ := [some (.scr ns), some (.ref 0), none, none]) (h := [.lst ((ns.take 12).map D.int)]) ⟨_, none, none, rfl, rfl, fun hne => by rw [List.length_take]; have := hz hne; omega⟩
  subst eσ; subst eh
  refine ⟨c, fnK_rt (by rfl) ?_⟩
  refine (seq_nx (σ1 := [some (.scr ns), some (.ref 0), none, none]) (h1 := [.lst ((ns.take 12).map D.int)]) ?_).trans ?_
  · simp only [fn, fnK, sNop, sSeq, sEx, sRet, sIf, sBrk, sCnt, sAsg, gVar, gAll, gTup, gSub, sAug, sAugS, sPar2, sPar3, eVar, eC, aNil, aCons, eAp, eAp1_eq, eAp2_eq, tB, tAnd, tOr, tNot, tTT, eT, eIf, eAnd, eOr, eNot, eCh, oNo, oP, eSl, eMtL, eTup_eq, eLst_eq, eLstR_eq, Res.bind_ok, Res.bind_bad, Res.bind_exc, List.map_cons, List.map_nil, List.length_cons, List.length_nil, List.replicate, List.cons_append, List.nil_append, List.getElem?_cons_zero, List.getElem?_cons_succ, List.set_cons_zero, List.set_cons_succ, if_true, if_false, Nat.reduceAdd, Nat.reduceSub, Nat.reduceEqDiff, reduceIte, Bool.false_eq_true, gCut, c1, gListR, seqOf]
  refine (seq_nx (σ1 := [some (.scr ns), some (.ref 0), a, b]) (h1 := [.lst (c.map D.int)]) ?_).trans ?_
  · have ei : iEn (aCons (eSl gCut (eVar 0) (oP (eC (.int 12))) (oP (eC (.int 63)))) aNil) [some (.scr ns), some (.ref 0), none, none] [.lst ((ns.take 12).map D.int)] = .ok ⟨(List.range zs.length).map fun (i : Nat) => D.tup [.int (i : Int), .int (zs.getD i 0)], []⟩ [.lst ((ns.take 12).map D.int)] := by
      simp only [fn, fnK, sNop, sSeq, sEx, sRet, sIf, sBrk, sCnt, sAsg, gVar, gAll, gTup, gSub, sAug, sAugS, sPar2, sPar3, eVar, eC, aNil, aCons, eAp, eAp1_eq, eAp2_eq, tB, tAnd, tOr, tNot, tTT, eT, eIf, eAnd, eOr, eNot, eCh, oNo, oP, eSl, eMtL, eTup_eq, eLst_eq, eLstR_eq, Res.bind_ok, Res.bind_bad, Res.bind_exc, List.map_cons, List.map_nil, List.length_cons, List.length_nil, List.replicate, List.cons_append, List.nil_append, List.getElem?_cons_zero, List.getElem?_cons_succ, List.set_cons_zero, List.set_cons_succ, if_true, if_false, Nat.reduceAdd, Nat.reduceSub, Nat.reduceEqDiff, reduceIte, Bool.false_eq_true, iEn, gCut, c2, seqOf, chkOf, enum_ints]
    unfold sFor
    rw [ei]
    exact e1
  · have l3 : (3 : Nat) ≤ LIM := by decide
    simp only [fn, fnK, sNop, sSeq, sEx, sRet, sIf, sBrk, sCnt, sAsg, gVar, gAll, gTup, gSub, sAug, sAugS, sPar2, sPar3, eVar, eC, aNil, aCons, eAp, eAp1_eq, eAp2_eq, tB, tAnd, tOr, tNot, tTT, eT, eIf, eAnd, eOr, eNot, eCh, oNo, oP, eSl, eMtL, eTup_eq, eLst_eq, eLstR_eq, Res.bind_ok, Res.bind_bad, Res.bind_exc, List.map_cons, List.map_nil, List.length_cons, List.length_nil, List.replicate, List.cons_append, List.nil_append, List.getElem?_cons_zero, List.getElem?_cons_succ, List.set_cons_zero, List.set_cons_succ, if_true, if_false, Nat.reduceAdd, Nat.reduceSub, Nat.reduceEqDiff, reduceIte, Bool.false_eq_true, l3]
    rfl
end BR

namespace BR
open PySem
end BR

namespace BR
open PySem
def Rn {α : Type} (r : Res α) (Q : α → Hd → Prop) : Prop := ∃ a h, r = .ok a h ∧ Q a h
section
variable {α β : Type} {r : Res α} {f : α → Hd → Res β} {a : α} {h h1 h2 : Hd} {σ : Sg}
theorem rn_ok {Q : α → Hd → Prop} (q : Q a h) : Rn (.ok a h) Q := ⟨a, h, rfl, q⟩
theorem rn_eq {Q : α → Hd → Prop} (e : r = .ok a h) (q : Q a h) : Rn r Q := ⟨a, h, e, q⟩
theorem rn_bind {Q : β → Hd → Prop} (q : Rn r fun a h => Rn (f a h) Q) : Rn (r.bind f) Q := by
  obtain ⟨a, h, e, b, h', e', q⟩ := q
  exact ⟨b, h', by rw [e]; exact e', q⟩
theorem rn_imp {Q Q' : α → Hd → Prop} (q : Rn r Q) (i : ∀ a h, Q a h → Q' a h) : Rn r Q' := by
  obtain ⟨a, h, e, q⟩ := q
  exact ⟨a, h, e, i a h q⟩
end
section
variable {σ σ1 : Sg} {h : Hd} {d : D} {e f g : EE} {as : EA} {F F' : EF} {c c' : ET} {s t u : SS} {i j k : Nat} {gt : EG} {gs : List EG}
theorem re_var {Q : D → Hd → Prop} (q : ∃ d, σ[i]? = some (some d) ∧ Q d h) : Rn (eVar i σ h) Q := by
  obtain ⟨d, e, q⟩ := q
  exact ⟨d, h, by unfold eVar; rw [e], q⟩
theorem re_c {Q : D → Hd → Prop} (q : Q d h) : Rn (eC d σ h) Q := ⟨d, h, rfl, q⟩
theorem ra_nil {Q : List D → Hd → Prop} (q : Q [] h) : Rn (aNil σ h) Q := ⟨[], h, rfl, q⟩
theorem ra_cons {Q : List D → Hd → Prop} (q : Rn (e σ h) fun d h1 => Rn (as σ h1) fun ds h2 => Q (d :: ds) h2) : Rn (aCons e as σ h) Q := rn_bind (rn_imp q fun _ _ q => rn_bind (rn_imp q fun _ _ q => rn_ok q))
theorem re_ap {Q : D → Hd → Prop} (q : Rn (as σ h) fun ds h1 => Rn (F ds h1) Q) : Rn (eAp F as σ h) Q := rn_bind q
theorem re_apK {n j : Nat} {ks : EA} {rest : List D} {Q : D → Hd → Prop} (q : Rn (as σ h) fun ds h1 => Rn (ks σ h1) fun es h2 => (ds.length = n ∧ es.length = j) ∧ Rn (F (ds ++ (es ++ rest)) h2) Q) : Rn (eApK F n j as ks rest σ h) Q := rn_bind (rn_imp q fun _ _ q => rn_bind (rn_imp q fun _ _ ⟨z, q⟩ => by rw [if_pos z]; exact q))
theorem re_ap1 {Q : D → Hd → Prop} (q : Rn (e σ h) fun d h1 => Rn (F [d] h1) Q) : Rn (eAp1 F e σ h) Q := by
  rw [eAp1_eq]; exact rn_bind q
theorem re_ap2 {Q : D → Hd → Prop} (q : Rn (e σ h) fun d h1 => Rn (f σ h1) fun d2 h2 => Rn (F [d, d2] h2) Q) : Rn (eAp2 F e f σ h) Q := by
  rw [eAp2_eq]; exact rn_bind (rn_imp q fun _ _ q => rn_bind q)
theorem rt_B {Q : Bool → Hd → Prop} (q : Rn (e σ h) fun d h1 => ∃ b, d = .bl b ∧ Q b h1) : Rn (tB e σ h) Q := rn_bind (rn_imp q fun _ _ ⟨b, e, q⟩ => by subst e; exact rn_ok q)
theorem rt_and {Q : Bool → Hd → Prop} (q : Rn (c σ h) fun b h1 => (b = true → Rn (c' σ h1) Q) ∧ (b = false → Q false h1)) : Rn (tAnd c c' σ h) Q := rn_bind (rn_imp q fun b _ q => by
  cases b with
  | true => exact q.1 rfl
  | false => exact rn_ok (q.2 rfl))
theorem rt_or {Q : Bool → Hd → Prop} (q : Rn (c σ h) fun b h1 => (b = true → Q true h1) ∧ (b = false → Rn (c' σ h1) Q)) : Rn (tOr c c' σ h) Q := rn_bind (rn_imp q fun b _ q => by
  cases b with
  | true => exact rn_ok (q.1 rfl)
  | false => exact q.2 rfl)
theorem rt_not {Q : Bool → Hd → Prop} (q : Rn (c σ h) fun b h1 => Q (!b) h1) : Rn (tNot c σ h) Q := rn_bind (rn_imp q fun _ _ q => rn_ok q)
theorem re_T {Q : D → Hd → Prop} (q : Rn (c σ h) fun b h1 => Q (.bl b) h1) : Rn (eT c σ h) Q := rn_bind (rn_imp q fun _ _ q => rn_ok q)
theorem re_if {Q : D → Hd → Prop} (q : Rn (c σ h) fun b h1 => (b = true → Rn (e σ h1) Q) ∧ (b = false → Rn (f σ h1) Q)) : Rn (eIf c e f σ h) Q := rn_bind (rn_imp q fun b _ q => by
  cases b with
  | true => exact q.1 rfl
  | false => exact q.2 rfl)
theorem re_and {Q : D → Hd → Prop} (q : Rn (e σ h) fun d h1 => ∃ b, d = .bl b ∧ (b = true → Rn (f σ h1) Q) ∧ (b = false → Q (.bl false) h1)) : Rn (eAnd e f σ h) Q := rn_bind (rn_imp q fun d _ ⟨b, e, q⟩ => by
  subst e
  cases b with
  | true => exact q.1 rfl
  | false => exact rn_ok (q.2 rfl))
theorem re_or {Q : D → Hd → Prop} (q : Rn (e σ h) fun d h1 => ∃ b, d = .bl b ∧ (b = false → Rn (f σ h1) Q) ∧ (b = true → Q (.bl true) h1)) : Rn (eOr e f σ h) Q := rn_bind (rn_imp q fun d _ ⟨b, e, q⟩ => by
  subst e
  cases b with
  | false => exact q.1 rfl
  | true => exact rn_ok (q.2 rfl))
theorem re_not {Q : D → Hd → Prop} (q : Rn (e σ h) fun d h1 => ∃ b, d = .bl b ∧ Q (.bl (!b)) h1) : Rn (eNot e σ h) Q := rn_bind (rn_imp q fun d _ ⟨b, e, q⟩ => by subst e; exact rn_ok q)
theorem re_ch {Q : D → Hd → Prop} (q : Rn (e σ h) fun x h1 => Rn (f σ h1) fun y h2 => Rn (F [x, y] h2) fun z h3 => ∃ b, z = .bl b ∧ (b = true → Rn (g σ h3) fun w h4 => Rn (F' [y, w] h4) Q) ∧ (b = false → Q (.bl false) h3)) : Rn (eCh F F' e f g σ h) Q :=
  rn_bind (rn_imp q fun _ _ q => rn_bind (rn_imp q fun _ _ q => rn_bind (rn_imp q fun z _ ⟨b, e, q⟩ => by
    subst e
    cases b with
    | true => exact rn_bind (q.1 rfl)
    | false => exact rn_ok (q.2 rfl))))
theorem ro_no {Q : Option Int → Hd → Prop} (q : Q none h) : Rn (oNo σ h) Q := rn_ok q
theorem ro_p {Q : Option Int → Hd → Prop} (q : Rn (e σ h) fun d h1 => ∃ k, d = .int k ∧ Q (some k) h1) : Rn (oP e σ h) Q := rn_bind (rn_imp q fun d _ ⟨k, e, q⟩ => by subst e; exact rn_ok q)
theorem re_sl {S : D → Option Int → Option Int → Hd → Res D} {lo hi : Sg → Hd → Res (Option Int)} {Q : D → Hd → Prop} (q : Rn (e σ h) fun x h1 => Rn (lo σ h1) fun l h2 => Rn (hi σ h2) fun u h3 => Rn (S x l u h3) Q) : Rn (eSl S e lo hi σ h) Q :=
  rn_bind (rn_imp q fun _ _ q => rn_bind (rn_imp q fun _ _ q => rn_bind q))
theorem re_mt {Q : D → Hd → Prop} (q : Rn (e σ h) fun x h1 => (lstOf h1 x).isSome = true ∧ Rn (as σ h1) fun ds h2 => Rn (F (x :: ds) h2) Q) : Rn (eMtL F e as σ h) Q := rn_bind (rn_imp q fun _ _ ⟨z, q⟩ => by rw [if_pos z]; exact rn_bind q)
theorem re_mx {Q : D → Hd → Prop} (q : Rn (e σ h) fun x h1 => (tplOf h1 x).isSome = true ∧ Rn (as σ h1) fun ds h2 => Rn (F (x :: ds) h2) Q) : Rn (eMtX F e as σ h) Q := rn_bind (rn_imp q fun _ _ ⟨z, q⟩ => by rw [if_pos z]; exact rn_bind q)
theorem re_tup {Q : D → Hd → Prop} (q : Rn (as σ h) fun ds h1 => ds.length ≤ LIM ∧ Q (.tup ds) h1) : Rn (eTup as σ h) Q := rn_bind (rn_imp q fun _ _ ⟨z, q⟩ => by rw [if_pos z]; exact rn_ok q)
theorem re_lst {Q : D → Hd → Prop} (q : Rn (as σ h) fun ds h1 => ds.length ≤ LIM ∧ Q (.lst ds) h1) : Rn (eLst as σ h) Q := rn_bind (rn_imp q fun _ _ ⟨z, q⟩ => by rw [if_pos z]; exact rn_ok q)
theorem re_lstR {Q : D → Hd → Prop} (q : Rn (as σ h) fun ds h1 => ds.length ≤ LIM ∧ Q (.ref h1.length) (h1 ++ [.lst ds])) : Rn (eLstR as σ h) Q := rn_bind (rn_imp q fun _ _ ⟨z, q⟩ => by rw [if_pos z]; exact rn_ok q)
theorem re_is {ts : List String} {Q : D → Hd → Prop} (q : Rn (e σ h) fun d h1 => ∃ T, tyOf h1 d = some T ∧ Q (.bl (ts.any fun b => subTy T b)) h1) : Rn (eIs ts e σ h) Q := rn_bind (rn_imp q fun d _ ⟨T, z, q⟩ => by simp only [z]; exact rn_ok q)
theorem al0 {α : Type} {P : Prop} (p : P) : (([] : List α).length ≤ LIM) ∧ P := ⟨show 0 ≤ LIM by decide, p⟩
theorem al1 {α : Type} {P : Prop} {x1 : α} (p : P) : ([x1].length ≤ LIM) ∧ P := ⟨show 1 ≤ LIM by decide, p⟩
theorem al2 {α : Type} {P : Prop} {x1 x2 : α} (p : P) : ([x1, x2].length ≤ LIM) ∧ P := ⟨show 2 ≤ LIM by decide, p⟩
theorem al3 {α : Type} {P : Prop} {x1 x2 x3 : α} (p : P) : ([x1, x2, x3].length ≤ LIM) ∧ P := ⟨show 3 ≤ LIM by decide, p⟩
theorem al4 {α : Type} {P : Prop} {x1 x2 x3 x4 : α} (p : P) : ([x1, x2, x3, x4].length ≤ LIM) ∧ P := ⟨show 4 ≤ LIM by decide, p⟩
theorem al5 {α : Type} {P : Prop} {x1 x2 x3 x4 x5 : α} (p : P) : ([x1, x2, x3, x4, x5].length ≤ LIM) ∧ P := ⟨show 5 ≤ LIM by decide, p⟩
theorem al6 {α : Type} {P : Prop} {x1 x2 x3 x4 x5 x6 : α} (p : P) : ([x1, x2, x3, x4, x5, x6].length ≤ LIM) ∧ P := ⟨show 6 ≤ LIM by decide, p⟩
/-- what comes behind a statement -/
def Kt (t : SS) (Q : Fl → Hd → Prop) : Fl → Hd → Prop := fun fl h => match fl with
  | .nx σ1 => Rn (t σ1 h) Q
  | fl => Q fl h
theorem rs_seq {Q : Fl → Hd → Prop} (q : Rn (s σ h) (Kt t Q)) : Rn (sSeq s t σ h) Q := rn_bind (rn_imp q fun fl _ q => by
  cases fl with
  | nx σ1 => exact q
  | _ => exact rn_ok q)
theorem rk_nx {Q : Fl → Hd → Prop} (q : Rn (t σ h) Q) : Kt t Q (.nx σ) h := q
theorem rk_rt {Q : Fl → Hd → Prop} (q : Q (.rt d) h) : Kt t Q (.rt d) h := q
theorem rs_nop {Q : Fl → Hd → Prop} (q : Q (.nx σ) h) : Rn (sNop σ h) Q := rn_ok q
theorem rs_ret {Q : Fl → Hd → Prop} (q : Rn (e σ h) fun d h1 => Q (.rt d) h1) : Rn (sRet e σ h) Q := rn_bind (rn_imp q fun _ _ q => rn_ok q)
theorem rs_ex {Q : Fl → Hd → Prop} (q : Rn (e σ h) fun d h1 => Q (.nx σ) h1) : Rn (sEx e σ h) Q := rn_bind (rn_imp q fun _ _ q => rn_ok q)
theorem rs_if {Q : Fl → Hd → Prop} (q : Rn (c σ h) fun b h1 => (b = true → Rn (s σ h1) Q) ∧ (b = false → Rn (t σ h1) Q)) : Rn (sIf c s t σ h) Q := rn_bind (rn_imp q fun b _ q => by
  cases b with
  | true => exact q.1 rfl
  | false => exact q.2 rfl)
theorem rs_asg {Q : Fl → Hd → Prop} (q : Rn (e σ h) fun d h1 => Rn (gt d σ h1) fun σ1 h2 => Q (.nx σ1) h2) : Rn (sAsg e gt σ h) Q := rn_bind (rn_imp q fun _ _ q => rn_bind (rn_imp q fun _ _ q => rn_ok q))
theorem rg_var {Q : Sg → Hd → Prop} (q : Q (σ.set i (some d)) h) : Rn (gVar i d σ h) Q := rn_ok q
theorem rg_all_nil {Q : Sg → Hd → Prop} (q : Q σ h) : Rn (gAll [] [] σ h) Q := rn_ok q
theorem rg_all {ds : List D} {Q : Sg → Hd → Prop} (q : Rn (gt d σ h) fun σ1 h1 => Rn (gAll gs ds σ1 h1) Q) : Rn (gAll (gt :: gs) (d :: ds) σ h) Q := rn_bind q
theorem rg_tup {xs : List D} {Q : Sg → Hd → Prop} (q : Rn (gAll gs xs σ h) Q) : Rn (gTup gs (.tup xs) σ h) Q := q
theorem rg_sub {Q : Sg → Hd → Prop} (q : Rn (e σ h) fun x h1 => Rn (f σ h1) fun y h2 => Rn (F [x, y, d] h2) fun _ h3 => Q σ h3) : Rn (gSub e f F d σ h) Q := rn_bind (rn_imp q fun _ _ q => rn_bind (rn_imp q fun _ _ q => rn_bind (rn_imp q fun _ _ q => rn_ok q)))
theorem rs_aug {Q : Fl → Hd → Prop} (q : ∃ d, σ[i]? = some (some d) ∧ Rn (e σ h) fun x h1 => Rn (F [d, x] h1) fun r h2 => Q (.nx (σ.set i (some r))) h2) : Rn (sAug i e F σ h) Q := by
  obtain ⟨d, z, q⟩ := q
  unfold sAug
  rw [z]
  exact rn_bind (rn_imp q fun _ _ q => rn_bind (rn_imp q fun _ _ q => rn_ok q))
theorem rs_augS {G O S : EF} {Q : Fl → Hd → Prop} (q : Rn (e σ h) fun x h1 => Rn (f σ h1) fun y h2 => Rn (G [x, y] h2) fun old h3 => Rn (g σ h3) fun z h4 => Rn (O [old, z] h4) fun new h5 => Rn (S [x, y, new] h5) fun _ h6 => Q (.nx σ) h6) : Rn (sAugS e f g G O S σ h) Q :=
  rn_bind (rn_imp q fun _ _ q => rn_bind (rn_imp q fun _ _ q => rn_bind (rn_imp q fun _ _ q => rn_bind (rn_imp q fun _ _ q => rn_bind (rn_imp q fun _ _ q => rn_bind (rn_imp q fun _ _ q => rn_ok q))))))
theorem rs_par2 {Q : Fl → Hd → Prop} (q : Rn (as σ h) fun ds h1 => ∃ x y, ds = [x, y] ∧ Q (.nx ((σ.set i (some x)).set j (some y))) h1) : Rn (sPar2 i j as σ h) Q := rn_bind (rn_imp q fun _ _ ⟨x, y, e, q⟩ => by subst e; exact rn_ok q)
theorem rs_par3 {Q : Fl → Hd → Prop} (q : Rn (as σ h) fun ds h1 => ∃ x y z, ds = [x, y, z] ∧ Q (.nx (((σ.set i (some x)).set j (some y)).set k (some z))) h1) : Rn (sPar3 i j k as σ h) Q := rn_bind (rn_imp q fun _ _ ⟨x, y, z, e, q⟩ => by subst e; exact rn_ok q)
/-- both ways of an if lead on alike -/
def Nx (J : Sg → Hd → Prop) : Fl → Hd → Prop := fun fl h => match fl with
  | .nx σ => J σ h
  | _ => False
theorem rk_N {J : Sg → Hd → Prop} (q : J σ h) : Nx J (.nx σ) h := q
variable {it : EI} {I : Walked} {chk : List (Nat × List D)}
theorem rs_for {Q : Fl → Hd → Prop} (q : Rn (it σ h) fun I h1 => Rn (forF gt s I.chk I.items σ h1) Q) : Rn (sFor gt it s σ h) Q := rn_bind q
theorem ri_val {Q : Walked → Hd → Prop} (q : Rn (e σ h) fun d h1 => ∃ xs, seqOf h1 d = some xs ∧ Q ⟨xs, chkOf h1 d⟩ h1) : Rn (iVal e σ h) Q := rn_bind (rn_imp q fun d _ ⟨xs, z, q⟩ => by simp only [z]; exact rn_ok q)
theorem ri_rg1 {Q : Walked → Hd → Prop} (q : Rn (as σ h) fun ds h1 => ∃ n : Int, ds = [.int n] ∧ (-BIG ≤ n ∧ n ≤ BIG) ∧ Q ⟨(List.range n.toNat).map fun (i : Nat) => D.int (i : Int), []⟩ h1) : Rn (iRg1 as σ h) Q := rn_bind (rn_imp q fun d _ ⟨n, z, b, q⟩ => by
  subst z
  simp only [b, and_self, if_true]
  refine rn_ok ?_
  have : rngItems 0 n.toNat = (List.range n.toNat).map fun (i : Nat) => D.int (i : Int) := by
    unfold rngItems; simp
  rw [this]; exact q)
theorem ri_rg2 {Q : Walked → Hd → Prop} (q : Rn (as σ h) fun ds h1 => ∃ m n : Int, ds = [.int m, .int n] ∧ ((-BIG ≤ m ∧ m ≤ BIG) ∧ -BIG ≤ n ∧ n ≤ BIG) ∧ Q ⟨(List.range (n - m).toNat).map fun (i : Nat) => D.int (m + i), []⟩ h1) : Rn (iRg2 as σ h) Q := rn_bind (rn_imp q fun d _ ⟨m, n, z, b, q⟩ => by
  subst z
  simp only [b, and_self, if_true]
  exact rn_ok q)
theorem ri_en {Q : Walked → Hd → Prop} (q : Rn (as σ h) fun ds h1 => ∃ d xs, ds = [d] ∧ seqOf h1 d = some xs ∧ Q ⟨(List.range xs.length).map fun (i : Nat) => D.tup [.int (i : Int), xs.getD i .non], chkOf h1 d⟩ h1) : Rn (iEn as σ h) Q := rn_bind (rn_imp q fun d _ ⟨x, xs, z, w, q⟩ => by
  subst z
  simp only [w]
  refine rn_ok ?_
  rw [enumFrom_map]
  simpa using q)
theorem ri_zip {Q : Walked → Hd → Prop} (q : Rn (as σ h) fun ds h1 => ∃ d e xs ys, ds = [d, e] ∧ seqOf h1 d = some xs ∧ seqOf h1 e = some ys ∧ xs.length = ys.length ∧ Q ⟨zipD xs ys, chkOf h1 d ++ chkOf h1 e⟩ h1) : Rn (iZip as σ h) Q := rn_bind (rn_imp q fun d _ ⟨x, y, xs, ys, z, w, w2, l, q⟩ => by
  subst z
  simp only [w, w2, l, if_true]
  exact rn_ok q)
/-- a turn's end -/
def Tn (I : Sg → Hd → Prop) (Q : Fl → Hd → Prop) : Fl → Hd → Prop := fun fl h => match fl with
  | .nx σ => I σ h
  | .ct σ => I σ h
  | .bk σ => Q (.nx σ) h
  | .rt d => Q (.rt d) h
theorem rn_for {α : Type} (key : α → D) (xs : List α) (I : Nat → Sg → Hd → Prop) {Q : Fl → Hd → Prop} (hchk : ∀ i σ h, I i σ h → okChk chk h) (i0 : I 0 σ h)
    (hs : ∀ i x σ h, xs[i]? = some x → I i σ h → Rn (gt (key x) σ h) fun σ1 h1 => Rn (s σ1 h1) (Tn (I (i + 1)) Q)) (hd : ∀ σ h, I xs.length σ h → Q (.nx σ) h) : Rn (forF gt s chk (xs.map key) σ h) Q := by
  have go : ∀ (rest : List α) (n : Nat) (σ : Sg) (h : Hd), xs.drop n = rest → n ≤ xs.length → I n σ h → Rn (forF gt s chk (rest.map key) σ h) Q := by
    intro rest
    induction rest with
    | nil =>
      intro n σ h e hn i
      have : n = xs.length := by
        have := congrArg List.length e
        simp at this
        omega
      subst this
      rw [List.map_nil]
      unfold forF
      rw [if_pos (hchk _ _ _ i)]
      exact rn_ok (hd _ _ i)
    | cons x rest ih =>
      intro n σ h e hn i
      have hx : xs[n]? = some x := by
        have := congrArg (·[0]?) e
        simpa using this
      have hn' : n < xs.length := (List.getElem?_eq_some_iff.mp hx).1
      have e' : xs.drop (n + 1) = rest := by
        have := congrArg (List.drop 1) e
        simpa using this
      rw [List.map_cons]
      unfold forF
      rw [if_pos (hchk _ _ _ i)]
      refine rn_bind (rn_imp (hs n x σ h hx i) fun σ1 h1 q => rn_bind (rn_imp q fun fl h2 q => ?_))
      cases fl with
      | nx σ2 => exact ih (n + 1) σ2 h2 e' hn' q
      | ct σ2 => exact ih (n + 1) σ2 h2 e' hn' q
      | bk σ2 => exact rn_ok q
      | rt d => exact rn_ok q
  exact go xs 0 σ h rfl (Nat.zero_le _) i0
/-- .. whose lists stand still -/
theorem rn_for0 {α : Type} (key : α → D) (xs : List α) (I : Nat → Sg → Hd → Prop) {Q : Fl → Hd → Prop} (i0 : I 0 σ h)
    (hs : ∀ i x σ h, xs[i]? = some x → I i σ h → Rn (gt (key x) σ h) fun σ1 h1 => Rn (s σ1 h1) (Tn (I (i + 1)) Q)) (hd : ∀ σ h, I xs.length σ h → Q (.nx σ) h) : Rn (forF gt s [] (xs.map key) σ h) Q :=
  rn_for key xs I (fun _ _ _ _ => okChk_nil _) i0 hs hd
variable {el : Sg → Hd → Res (List D)} {rf : Bool} {vs : List Nat}
theorem re_lc {Q : D → Hd → Prop} (q : Rn (it σ h) fun I h1 => Rn (lcF gt c el I.chk (wipe σ vs) I.items h1) fun ys h2 => Rn (lcEnd rf ys h2) Q) : Rn (eLc rf vs it gt c el σ h) Q := rn_bind (rn_bind (rn_imp q fun _ _ q => q))
theorem rl_in {Q : List D → Hd → Prop} (q : Rn (it σ h) fun I h1 => Rn (lcF gt c el I.chk (wipe σ vs) I.items h1) Q) : Rn (lcIn vs it gt c el σ h) Q := rn_bind q
theorem rl_end {ys : List D} {Q : D → Hd → Prop} (l : ys.length ≤ LIM) (q : Q (.lst ys) h) : Rn (lcEnd false ys h) Q := by
  unfold lcEnd; rw [if_pos l, if_neg (by decide)]; exact rn_ok q
theorem rl_one {Q : List D → Hd → Prop} (q : Rn (e σ h) fun d h1 => Q [d] h1) : Rn (lcOne e σ h) Q := rn_bind (rn_imp q fun _ _ q => rn_ok q)
theorem rt_TT {Q : Bool → Hd → Prop} (q : Q true h) : Rn (tTT σ h) Q := rn_ok q
theorem rn_lc {α : Type} (key : α → D) (xs : List α) (I : Nat → List D → Hd → Prop) {Q : List D → Hd → Prop} (hchk : ∀ i ys h, I i ys h → okChk chk h) (i0 : I 0 [] h)
    (hs : ∀ i x ys h, xs[i]? = some x → I i ys h → Rn (gt (key x) σ h) fun σ1 h1 => Rn (c σ1 h1) fun b h2 => (b = true → Rn (el σ1 h2) fun zs h3 => I (i + 1) (ys ++ zs) h3) ∧ (b = false → I (i + 1) ys h2)) (hd : ∀ ys h, I xs.length ys h → Q ys h) : Rn (lcF gt c el chk σ (xs.map key) h) Q := by
  have go : ∀ (rest : List α) (n : Nat) (ys : List D) (h : Hd), xs.drop n = rest → n ≤ xs.length → I n ys h → Rn (lcF gt c el chk σ (rest.map key) h) fun zs h' => I xs.length (ys ++ zs) h' := by
    intro rest
    induction rest with
    | nil =>
      intro n ys h e hn i
      have : n = xs.length := by
        have := congrArg List.length e
        simp at this
        omega
      subst this
      rw [List.map_nil]
      unfold lcF
      rw [if_pos (hchk _ _ _ i)]
      exact rn_ok (by rw [List.append_nil]; exact i)
    | cons x rest ih =>
      intro n ys h e hn i
      have hx : xs[n]? = some x := by
        have := congrArg (·[0]?) e
        simpa using this
      have hn' : n < xs.length := (List.getElem?_eq_some_iff.mp hx).1
      have e' : xs.drop (n + 1) = rest := by
        have := congrArg (List.drop 1) e
        simpa using this
      rw [List.map_cons]
      unfold lcF
      rw [if_pos (hchk _ _ _ i)]
      refine rn_bind (rn_imp (hs n x ys h hx i) fun σ1 h1 q => rn_bind (rn_imp q fun b h2 q => ?_))
      cases b with
      | true =>
        rw [if_pos rfl]
        refine rn_bind (rn_imp (q.1 rfl) fun zs h3 q => rn_bind (rn_imp (ih (n + 1) (ys ++ zs) h3 e' hn' q) fun us h4 q => rn_ok ?_))
        rw [List.append_assoc] at q; exact q
      | false =>
        rw [if_neg (by decide)]
        exact ih (n + 1) ys h2 e' hn' (q.2 rfl)
  exact rn_imp (go xs 0 [] h rfl (Nat.zero_le _) i0) fun ys h q => hd _ _ (by rw [List.nil_append] at q; exact q)
/-- one item each, no test -/
theorem rn_lc1 {α : Type} (key : α → D) (xs : List α) (I : Nat → List D → Hd → Prop) {Q : List D → Hd → Prop} (i0 : I 0 [] h)
    (hs : ∀ i x ys h, xs[i]? = some x → I i ys h → Rn (gt (key x) σ h) fun σ1 h1 => Rn (e σ1 h1) fun d h3 => I (i + 1) (ys ++ [d]) h3) (hd : ∀ ys h, I xs.length ys h → Q ys h) : Rn (lcF gt tTT (lcOne e) [] σ (xs.map key) h) Q :=
  rn_lc key xs I (fun _ _ _ _ => okChk_nil _) i0 (fun i x ys h hx hi => rn_imp (hs i x ys h hx hi) fun σ1 h1 q => rt_TT ⟨fun _ => rl_one q, fun z => by cases z⟩) hd
theorem rf_fn {n m : Nat} {ds : List D} {Q : D → Hd → Prop} (hl : ds.length = n) (q : Rn (s (ds.map some ++ List.replicate (m - n) none) h) fun fl h1 => match fl with
    | .rt d => Rn (fin h d h1) Q
    | .nx _ => Rn (fin h .non h1) Q
    | _ => False) : Rn (fn n m s ds h) Q := by
  unfold fn
  rw [if_pos hl]
  refine rn_bind (rn_imp q fun fl h1 q => ?_)
  cases fl with
  | rt d => exact q
  | nx σ => exact q
  | _ => exact q.elim
theorem rn_fin {d : D} {Q : D → Hd → Prop} (e : noRef h.length d = true) (q : Q d h) : Rn (fin h d h) Q := ⟨d, h, fin_same e, q⟩
end
def Pen (c : List Int) (r : Hd) (h : Hd) (N : Int) : Prop := ∃ t a, h = hp c t a r ∧ 0 ≤ t ∧ t ≤ N
section
variable {c : List Int} {r h h' : Hd} {N N' : Int} {Q : D → Hd → Prop}
theorem Pen.mono (p : Pen c r h N) (l : N ≤ N') : Pen c r h N' := by
  obtain ⟨t, a, e, b1, b2⟩ := p
  exact ⟨t, a, e, b1, by omega⟩
theorem Pen.len (p : Pen c r h N) : h.length = r.length + 2 := by
  obtain ⟨t, a, rfl, b1, b2⟩ := p
  rfl
theorem Pen.new (p : Pen c r h N) (o : Ob) : Pen c (r ++ [o]) (h ++ [o]) N := by
  obtain ⟨t, a, rfl, b1, b2⟩ := p
  exact ⟨t, a, rfl, b1, b2⟩
theorem Pen.get {o : Ob} {s : Hd} (p : Pen c (r ++ o :: s) h N) : h[r.length + 2]? = some o := by
  obtain ⟨t, a, rfl, b1, b2⟩ := p
  exact hp_get ..
theorem Pen.set {o : Ob} {s : Hd} (p : Pen c (r ++ o :: s) h N) (o' : Ob) : Pen c (r ++ o' :: s) (h.set (r.length + 2) o') N := by
  obtain ⟨t, a, rfl, b1, b2⟩ := p
  exact ⟨t, a, hp_set .., b1, b2⟩
theorem rn_take {m : Int} (p : Pen c r h N) (hN : N ≤ TM) (hm : 1 ≤ m) (hm2 : m ≤ 10 ^ 40) (q : ∀ x h', 0 ≤ x → x < m → Pen c r h' (N + 1) → Q (.int x) h') : Rn (f_law_take [.ref 1, .int m] h) Q := by
  obtain ⟨t, a, rfl, b1, b2⟩ := p
  obtain ⟨x, t', a', e, c1, c2, c3, c4⟩ := take_eq c t a m r b1 (by omega) hm hm2
  exact ⟨_, _, e, q x _ c1 c2 ⟨t', a', rfl, by omega, by omega⟩⟩
section
variable {i j : Int} {a b : Bool}
theorem rg_add (q : Q (.int (i + j)) h) : Rn (gAdd [.int i, .int j] h) Q := ⟨_, _, rfl, q⟩
theorem rg_sbt (q : Q (.int (i - j)) h) : Rn (gSubt [.int i, .int j] h) Q := ⟨_, _, rfl, q⟩
theorem rg_iadd (q : Q (.int (i + j)) h) : Rn (gIadd [.int i, .int j] h) Q := ⟨_, _, rfl, q⟩
theorem rg_isub (q : Q (.int (i - j)) h) : Rn (gIsub [.int i, .int j] h) Q := ⟨_, _, rfl, q⟩
theorem rg_neg (q : Q (.int (-i)) h) : Rn (gNeg [.int i] h) Q := ⟨_, _, rfl, q⟩
theorem rg_lt (q : Q (.bl (decide (i < j))) h) : Rn (gLt [.int i, .int j] h) Q := ⟨_, _, rfl, q⟩
theorem rg_le (q : Q (.bl (decide (i ≤ j))) h) : Rn (gLe [.int i, .int j] h) Q := ⟨_, _, rfl, q⟩
theorem rg_gt (q : Q (.bl (decide (j < i))) h) : Rn (gGt [.int i, .int j] h) Q := ⟨_, _, rfl, q⟩
theorem rg_ge (q : Q (.bl (decide (j ≤ i))) h) : Rn (gGe [.int i, .int j] h) Q := ⟨_, _, rfl, q⟩
theorem rg_isb (q : Q (.bl (decide (a = b))) h) : Rn (gIs [.bl a, .bl b] h) Q := ⟨_, _, rfl, q⟩
theorem rg_isnb (q : Q (.bl (!decide (a = b))) h) : Rn (gIsn [.bl a, .bl b] h) Q := ⟨_, _, rfl, q⟩
theorem rg_eqI (q : Q (.bl (decide (i = j))) h) : Rn (gEq [.int i, .int j] h) Q := ⟨_, _, gEq_int i j h, q⟩
theorem rg_neI (q : Q (.bl (!decide (i = j))) h) : Rn (gNe [.int i, .int j] h) Q := ⟨_, _, gNe_int i j h, q⟩
theorem rg_eqR {x y : List Int} (q : Q (.bl (decide (x = y))) h) : Rn (gEq [dI x, dI y] h) Q := ⟨_, _, gEq_dI x y h, q⟩
theorem rg_lenW {m : List (List Int)} (q : Q (.int m.length) h) : Rn (gLen [dW m] h) Q := ⟨_, _, gLen_dW m h, q⟩
theorem rg_lenI {x : List Int} (q : Q (.int x.length) h) : Rn (gLen [dI x] h) Q := ⟨.int x.length, h, by simp [gLen, dI], q⟩
theorem rg_lenT {x : List D} (q : Q (.int x.length) h) : Rn (gLen [.tup x] h) Q := ⟨.int x.length, h, by simp [gLen], q⟩
theorem rg_lenL {x : List D} (q : Q (.int x.length) h) : Rn (gLen [.lst x] h) Q := ⟨.int x.length, h, by simp [gLen], q⟩
theorem rg_sumI {x : List Int} (q : Q (.int x.sum) h) : Rn (gSum [dI x] h) Q := ⟨_, _, gSum_dI x h, q⟩
theorem rg_sumL {x : List Int} (q : Q (.int x.sum) h) : Rn (gSum [.lst (x.map D.int)] h) Q := ⟨_, _, gSum_lst x h, q⟩
theorem rg_intI (q : Q (.int i) h) : Rn (gInt [.int i] h) Q := ⟨_, _, rfl, q⟩
theorem rg_intB (q : Q (.int (if a then 1 else 0)) h) : Rn (gInt [.bl a] h) Q := ⟨_, _, rfl, q⟩
theorem rg_tupL {x : List D} (q : Q (.tup x) h) : Rn (gTuple [.lst x] h) Q := ⟨_, _, rfl, q⟩
end
end
end BR

namespace BR
open PySem
end BR

namespace BR
open PySem
end BR

namespace BR
open PySem
/-- numbers of places as ints -/
def nI (l : List Nat) : List Int := l.map fun (i : Nat) => (i : Int)
theorem ord_nI {n : Nat} {o : List Int} (h : IsOrd n o) : ∃ l : List Nat, o = nI l ∧ l.Nodup ∧ (∀ x, x ∈ l ↔ x < n) ∧ l.length = n := by
  have hp : (o.map Int.toNat).Perm (List.range n) := by
    have := h.map Int.toNat
    rw [List.map_map] at this
    have e : ((List.range n).map (Int.toNat ∘ fun (i : Nat) => (i : Int))) = List.range n := by
      conv => rhs; rw [← List.map_id (List.range n)]
      apply List.map_congr_left
      intro i _
      simp
    rw [e] at this
    exact this
  refine ⟨o.map Int.toNat, ?_, hp.nodup_iff.mpr List.nodup_range, fun x => by rw [hp.mem_iff, List.mem_range], by rw [List.length_map, h.len]⟩
  unfold nI
  rw [List.map_map]
  conv => lhs; rw [← List.map_id o]
  apply List.map_congr_left
  intro x hx
  obtain ⟨i, _, e⟩ := List.mem_map.mp (h.mem_iff.mp hx)
  show x = ((x.toNat : Nat) : Int)
  omega
end BR

namespace BR
open PySem
end BR

namespace BR
open PySem
local macro_rules
  | `(tactic| and_intros) => `(tactic| repeat (first | (with_reducible refine rs_seq ?_) | (with_reducible refine rs_asg ?_) | (with_reducible refine re_apK ?_) | (with_reducible refine re_ap ?_) | (with_reducible refine ra_cons ?_) | (with_reducible refine ra_nil ?_) | (with_reducible refine re_c ?_) | (with_reducible refine re_ap2 ?_) | (with_reducible refine re_ap1 ?_) | (with_reducible refine rg_var ?_) | (with_reducible refine rk_nx ?_) | (with_reducible refine rk_N ?_) | (with_reducible refine rs_if ?_) | (with_reducible refine rt_B ?_) | (with_reducible refine rs_ex ?_) | (with_reducible refine rs_ret ?_) | (with_reducible refine rt_not ?_) | (with_reducible refine re_T ?_) | (with_reducible refine rk_rt ?_) | (with_reducible refine re_mt ?_) | (with_reducible refine re_mx ?_) | (with_reducible refine re_sl ?_) | (with_reducible refine ro_no ?_) | (with_reducible refine ro_p ?_) | (with_reducible refine rg_add ?_) | (with_reducible refine rg_sbt ?_) | (with_reducible refine rg_iadd ?_) | (with_reducible refine rg_isub ?_) | (with_reducible refine rg_neg ?_) | (with_reducible refine rg_lt ?_) | (with_reducible refine rg_le ?_) | (with_reducible refine rg_gt ?_) | (with_reducible refine rg_ge ?_) | (with_reducible refine rg_isb ?_) | (with_reducible refine rg_isnb ?_) | (with_reducible refine rg_eqI ?_) | (with_reducible refine rg_neI ?_) | (with_reducible refine rg_eqR ?_) | (with_reducible refine rg_lenW ?_) | (with_reducible refine rg_lenI ?_) | (with_reducible refine rg_lenT ?_) | (with_reducible refine rg_lenL ?_) | (with_reducible refine rg_sumI ?_) | (with_reducible refine rg_sumL ?_) | (with_reducible refine rg_intI ?_) | (with_reducible refine rg_intB ?_) | (with_reducible refine rg_tupL ?_) | (with_reducible refine rs_nop ?_) | (with_reducible refine re_tup ?_) | (with_reducible refine re_lst ?_) | (with_reducible refine re_lstR ?_) | (with_reducible refine al0 ?_) | (with_reducible refine al1 ?_) | (with_reducible refine al2 ?_) | (with_reducible refine al3 ?_) | (with_reducible refine al4 ?_) | (with_reducible refine al5 ?_) | (with_reducible refine al6 ?_) | (with_reducible refine re_and ?_) | (with_reducible refine re_or ?_) | (with_reducible refine re_not ?_) | (with_reducible refine re_ch ?_) | (with_reducible refine re_if ?_) | (with_reducible refine rt_and ?_) | (with_reducible refine rt_or ?_) | (with_reducible refine rt_TT ?_) | (with_reducible refine rs_for ?_) | (with_reducible refine ri_val ?_) | (with_reducible refine ri_rg1 ?_) | (with_reducible refine ri_rg2 ?_) | (with_reducible refine ri_en ?_) | (with_reducible refine ri_zip ?_) | (with_reducible refine re_is ?_) | (with_reducible refine rt_B ?_) | (with_reducible refine re_lc ?_) | (with_reducible refine rl_in ?_) | (with_reducible refine rl_one ?_) | (with_reducible refine rs_par2 ?_) | (with_reducible refine rs_par3 ?_) | (with_reducible refine rg_tup ?_) | (with_reducible refine rg_all ?_) | (with_reducible refine rg_all_nil ?_) | (with_reducible refine rg_sub ?_) | (with_reducible refine rs_augS ?_) | (with_reducible refine re_var ?_; refine ⟨_, rfl, ?_⟩) | (with_reducible refine rs_aug ?_; refine ⟨_, rfl, ?_⟩) | refine ⟨_, rfl, ?_⟩ | with_reducible refine ⟨_, _, rfl, ?_⟩ | with_reducible refine ⟨_, _, _, rfl, ?_⟩ | refine ⟨⟨rfl, rfl⟩, ?_⟩ | refine ⟨by unfold BIG; omega, ?_⟩))
/-- the list so far -/
def FO (h : Hd) (n0 : Nat) (F : D) (os : List (List Int)) : Prop := F = .lst (os.map dI) ∨ ∃ p, F = .ref p ∧ n0 ≤ p ∧ h[p]? = some (.lst (os.map dI))
theorem FO.seq {h : Hd} {n0 : Nat} {F : D} {os : List (List Int)} (f : FO h n0 F os) (o : Ob) : seqOf (h ++ [o]) F = some (os.map dI) ∧ ∀ o' : Ob, okChk (chkOf (h ++ [o]) F) (h ++ [o']) := by
  rcases f with rfl | ⟨p, rfl, hp, e⟩
  · exact ⟨rfl, fun o' q hq => nomatch hq⟩
  · have hl : p < h.length := (List.getElem?_eq_some_iff.mp e).1
    have e1 : ∀ o : Ob, (h ++ [o])[p]? = some (.lst (os.map dI)) := fun o => by rw [List.getElem?_append_left hl, e]
    refine ⟨by simp only [seqOf, e1], fun o' q hq => ?_⟩
    simp only [chkOf, e1, List.mem_singleton] at hq
    subst hq
    exact e1 o'
end BR

namespace BR
open PySem
/-- plain data of no more than so many layers -/
inductive Dat : Nat → D → Prop
  | non {k : Nat} : Dat k .non
  | bl {k : Nat} (b : Bool) : Dat k (.bl b)
  | int {k : Nat} (i : Int) : Dat k (.int i)
  | str {k : Nat} (x : Str) (ok : PyData.canLay0 (.str x) = true := by decide +kernel) : Dat k (.str x)
  | tup {k : Nat} {xs : List D} : xs.length ≤ 10000 → (∀ x ∈ xs, Dat k x) → Dat (k + 1) (.tup xs)
  | lst {k : Nat} {xs : List D} : xs.length ≤ 10000 → (∀ x ∈ xs, Dat k x) → Dat (k + 1) (.lst xs)
theorem Dat.up {k : Nat} {d : D} (h : Dat k d) : Dat (k + 1) d := by
  induction h with
  | non => exact .non
  | bl b => exact .bl b
  | int i => exact .int i
  | str x ok => exact .str x ok
  | tup l _ ih => exact .tup l ih
  | lst l _ ih => exact .lst l ih
theorem Dat.le {j k : Nat} {d : D} (h : Dat j d) (l : j ≤ k) : Dat k d := by
  obtain ⟨m, rfl⟩ := Nat.exists_eq_add_of_le l
  induction m with
  | zero => exact h
  | succ m ih => exact (ih (by omega)).up
theorem gEq_bl (a b : Bool) (h : Hd) : gEq [.bl a, .bl b] h = .ok (.bl (decide (a = b))) h := by
  cases a <;> cases b <;> simp [gEq, eqD, strOf, toPyR, toPy, SeqAt.shaped, PyData.canLay0, PyData.depth, PyData.eqv]
theorem gNe_bl (a b : Bool) (h : Hd) : gNe [.bl a, .bl b] h = .ok (.bl (!decide (a = b))) h := by
  cases a <;> cases b <;> simp [gNe, eqD, strOf, toPyR, toPy, SeqAt.shaped, PyData.canLay0, PyData.depth, PyData.eqv]
theorem gEq_str (a b : Str) (h : Hd) : gEq [.str a, .str b] h = .ok (.bl (decide (a = b))) h := rfl
theorem same_leaf (F : EF) (d : D) (f : flatD d = true) (h : Hd) : f_law_same_B F [d, d] h = .ok (.bl true) h := by
  cases d with
  | non => simp [f_law_same_B, fn, fnK, gIsN, gNotN, isNon, sNop, sSeq, sEx, sRet, sIf, sBrk, sCnt, sAsg, gVar, gAll, gTup, gSub, sAug, sAugS, sPar2, sPar3, eVar, eC, aNil, aCons, eAp, eAp1_eq, eAp2_eq, tB, tAnd, tOr, tNot, tTT, eT, eIf, eAnd, eOr, eNot, eCh, oNo, oP, eSl, eMtL, eTup_eq, eLst_eq, eLstR_eq, Res.bind_ok, Res.bind_bad, Res.bind_exc, List.map_cons, List.map_nil, List.length_cons, List.length_nil, List.replicate, List.cons_append, List.nil_append, List.getElem?_cons_zero, List.getElem?_cons_succ, List.set_cons_zero, List.set_cons_succ, if_true, if_false, Nat.reduceAdd, Nat.reduceSub, Nat.reduceEqDiff, reduceIte, Bool.false_eq_true, fin_bl]
  | bl b => simp [f_law_same_B, fn, fnK, gIsN, gNotN, isNon, sNop, sSeq, sEx, sRet, sIf, sBrk, sCnt, sAsg, gVar, gAll, gTup, gSub, sAug, sAugS, sPar2, sPar3, eVar, eC, aNil, aCons, eAp, eAp1_eq, eAp2_eq, tB, tAnd, tOr, tNot, tTT, eT, eIf, eAnd, eOr, eNot, eCh, oNo, oP, eSl, eMtL, eTup_eq, eLst_eq, eLstR_eq, Res.bind_ok, Res.bind_bad, Res.bind_exc, List.map_cons, List.map_nil, List.length_cons, List.length_nil, List.replicate, List.cons_append, List.nil_append, List.getElem?_cons_zero, List.getElem?_cons_succ, List.set_cons_zero, List.set_cons_succ, if_true, if_false, Nat.reduceAdd, Nat.reduceSub, Nat.reduceEqDiff, reduceIte, Bool.false_eq_true, eIs, tyOf, subTy, gEq_bl, fin_bl]
  | int i => simp [f_law_same_B, fn, fnK, gIsN, gNotN, isNon, sNop, sSeq, sEx, sRet, sIf, sBrk, sCnt, sAsg, gVar, gAll, gTup, gSub, sAug, sAugS, sPar2, sPar3, eVar, eC, aNil, aCons, eAp, eAp1_eq, eAp2_eq, tB, tAnd, tOr, tNot, tTT, eT, eIf, eAnd, eOr, eNot, eCh, oNo, oP, eSl, eMtL, eTup_eq, eLst_eq, eLstR_eq, Res.bind_ok, Res.bind_bad, Res.bind_exc, List.map_cons, List.map_nil, List.length_cons, List.length_nil, List.replicate, List.cons_append, List.nil_append, List.getElem?_cons_zero, List.getElem?_cons_succ, List.set_cons_zero, List.set_cons_succ, if_true, if_false, Nat.reduceAdd, Nat.reduceSub, Nat.reduceEqDiff, reduceIte, Bool.false_eq_true, eIs, tyOf, subTy, gEq_int, gNe_bl, fin_bl]
  | str x => simp [f_law_same_B, fn, fnK, gIsN, gNotN, isNon, sNop, sSeq, sEx, sRet, sIf, sBrk, sCnt, sAsg, gVar, gAll, gTup, gSub, sAug, sAugS, sPar2, sPar3, eVar, eC, aNil, aCons, eAp, eAp1_eq, eAp2_eq, tB, tAnd, tOr, tNot, tTT, eT, eIf, eAnd, eOr, eNot, eCh, oNo, oP, eSl, eMtL, eTup_eq, eLst_eq, eLstR_eq, Res.bind_ok, Res.bind_bad, Res.bind_exc, List.map_cons, List.map_nil, List.length_cons, List.length_nil, List.replicate, List.cons_append, List.nil_append, List.getElem?_cons_zero, List.getElem?_cons_succ, List.set_cons_zero, List.set_cons_succ, if_true, if_false, Nat.reduceAdd, Nat.reduceSub, Nat.reduceEqDiff, reduceIte, Bool.false_eq_true, eIs, tyOf, subTy, gEq_str, gNe_bl, fin_bl]
  | _ => cases f
theorem zip_self (xs : List D) : zipD xs xs = xs.map fun x => D.tup [x, x] := by
  induction xs with
  | nil => rfl
  | cons x xs ih => simp [zipD, ih]
theorem inF_no (n : Nat) (h : Hd) : inF true [.bl false, .lst (List.replicate n (.bl true))] h = .ok (.bl true) h := by
  have h1 : (List.replicate n (D.bl true)).all flatD = true := by
    rw [List.all_eq_true]
    intro x hx
    rw [List.eq_of_mem_replicate hx]; rfl
  have h2 : ((List.replicate n (D.bl true)).any fun y => eqF y (.bl false)) = false := by
    rw [List.any_eq_false]
    intro x hx
    rw [List.eq_of_mem_replicate hx]
    decide
  unfold inF
  simp only [seqOf, h1, h2, flatD, Bool.and_self, if_true, Bool.not_false]
theorem map_const {α β : Type} (c : β) : ∀ xs : List α, (xs.map fun _ => c) = List.replicate xs.length c
  | [] => rfl
  | x :: xs => by rw [List.map_cons, map_const c xs]; rfl
theorem same_self : ∀ {k : Nat} {d : D}, Dat k d → ∀ (n : Nat), k < n → ∀ h : Hd, f_law_same_F n [d, d] h = .ok (.bl true) h
  | _, .non, _, n + 1, _, h => same_leaf _ _ rfl h
  | _, .bl b, _, n + 1, _, h => same_leaf _ _ rfl h
  | _, .int b, _, n + 1, _, h => same_leaf _ _ rfl h
  | _, .str b, _, n + 1, _, h => same_leaf _ _ rfl h
  | k + 1, .tup xs, dt, n + 1, hn, h => by
    obtain ⟨hl, hx⟩ : xs.length ≤ 10000 ∧ ∀ x ∈ xs, Dat k x := by cases dt with | tup a b => exact ⟨a, b⟩
    have e1 : ∀ h, eLc false [2, 3] (iZipN (aCons (eVar 0) (aCons (eVar 1) aNil))) (gTup [(gVar 2), (gVar 3)]) tTT (lcOne (eAp (f_law_same_F n) (aCons (eVar 2) (aCons (eVar 3) aNil)))) [some (.tup xs), some (.tup xs), none, none] h = .ok (.lst (List.replicate xs.length (.bl true))) h := fun h => by
      simp only [eLc, lcIn, iZipN, seqOf, chkOf, wipe, fn, fnK, gIsN, gNotN, isNon, sNop, sSeq, sEx, sRet, sIf, sBrk, sCnt, sAsg, gVar, gAll, gTup, gSub, sAug, sAugS, sPar2, sPar3, eVar, eC, aNil, aCons, eAp, eAp1_eq, eAp2_eq, tB, tAnd, tOr, tNot, tTT, eT, eIf, eAnd, eOr, eNot, eCh, oNo, oP, eSl, eMtL, eTup_eq, eLst_eq, eLstR_eq, Res.bind_ok, Res.bind_bad, Res.bind_exc, List.map_cons, List.map_nil, List.length_cons, List.length_nil, List.replicate, List.cons_append, List.nil_append, List.getElem?_cons_zero, List.getElem?_cons_succ, List.set_cons_zero, List.set_cons_succ, if_true, if_false, Nat.reduceAdd, Nat.reduceSub, Nat.reduceEqDiff, reduceIte, Bool.false_eq_true, zip_self]
      rw [lcF_one (fun x => D.tup [x, x]) (fun _ => .bl true) xs fun x hx' => ⟨_, rfl, rfl, by simp only [fn, fnK, gIsN, gNotN, isNon, sNop, sSeq, sEx, sRet, sIf, sBrk, sCnt, sAsg, gVar, gAll, gTup, gSub, sAug, sAugS, sPar2, sPar3, eVar, eC, aNil, aCons, eAp, eAp1_eq, eAp2_eq, tB, tAnd, tOr, tNot, tTT, eT, eIf, eAnd, eOr, eNot, eCh, oNo, oP, eSl, eMtL, eTup_eq, eLst_eq, eLstR_eq, Res.bind_ok, Res.bind_bad, Res.bind_exc, List.map_cons, List.map_nil, List.length_cons, List.length_nil, List.replicate, List.cons_append, List.nil_append, List.getElem?_cons_zero, List.getElem?_cons_succ, List.set_cons_zero, List.set_cons_succ, if_true, if_false, Nat.reduceAdd, Nat.reduceSub, Nat.reduceEqDiff, reduceIte, Bool.false_eq_true, same_self (hx x hx') n (by omega)]⟩]
      have : xs.length ≤ LIM := by unfold LIM; omega
      simp only [Res.bind_ok, lcEnd, List.length_map, List.length_replicate, this, if_true, Bool.false_eq_true, if_false, map_const]
    show f_law_same_B (f_law_same_F n) _ h = _
    unfold f_law_same_B
    simp [fn, fnK, gIsN, gNotN, isNon, sNop, sSeq, sEx, sRet, sIf, sBrk, sCnt, sAsg, gVar, gAll, gTup, gSub, sAug, sAugS, sPar2, sPar3, eVar, eC, aNil, aCons, eAp, eAp1_eq, eAp2_eq, tB, tAnd, tOr, tNot, tTT, eT, eIf, eAnd, eOr, eNot, eCh, oNo, oP, eSl, eMtL, eTup_eq, eLst_eq, eLstR_eq, Res.bind_ok, Res.bind_bad, Res.bind_exc, List.map_cons, List.map_nil, List.length_cons, List.length_nil, List.replicate, List.cons_append, List.nil_append, List.getElem?_cons_zero, List.getElem?_cons_succ, List.set_cons_zero, List.set_cons_succ, if_true, if_false, Nat.reduceAdd, Nat.reduceSub, Nat.reduceEqDiff, reduceIte, Bool.false_eq_true, eIs, tyOf, subTy, gNe_bl, gLen, gNe_int, e1, inF_no, fin_bl]
  | k + 1, .lst xs, dt, n + 1, hn, h => by
    obtain ⟨hl, hx⟩ : xs.length ≤ 10000 ∧ ∀ x ∈ xs, Dat k x := by cases dt with | lst a b => exact ⟨a, b⟩
    have e1 : ∀ h, eLc false [2, 3] (iZipN (aCons (eVar 0) (aCons (eVar 1) aNil))) (gTup [(gVar 2), (gVar 3)]) tTT (lcOne (eAp (f_law_same_F n) (aCons (eVar 2) (aCons (eVar 3) aNil)))) [some (.lst xs), some (.lst xs), none, none] h = .ok (.lst (List.replicate xs.length (.bl true))) h := fun h => by
      simp only [eLc, lcIn, iZipN, seqOf, chkOf, wipe, fn, fnK, gIsN, gNotN, isNon, sNop, sSeq, sEx, sRet, sIf, sBrk, sCnt, sAsg, gVar, gAll, gTup, gSub, sAug, sAugS, sPar2, sPar3, eVar, eC, aNil, aCons, eAp, eAp1_eq, eAp2_eq, tB, tAnd, tOr, tNot, tTT, eT, eIf, eAnd, eOr, eNot, eCh, oNo, oP, eSl, eMtL, eTup_eq, eLst_eq, eLstR_eq, Res.bind_ok, Res.bind_bad, Res.bind_exc, List.map_cons, List.map_nil, List.length_cons, List.length_nil, List.replicate, List.cons_append, List.nil_append, List.getElem?_cons_zero, List.getElem?_cons_succ, List.set_cons_zero, List.set_cons_succ, if_true, if_false, Nat.reduceAdd, Nat.reduceSub, Nat.reduceEqDiff, reduceIte, Bool.false_eq_true, zip_self]
      rw [lcF_one (fun x => D.tup [x, x]) (fun _ => .bl true) xs fun x hx' => ⟨_, rfl, rfl, by simp only [fn, fnK, gIsN, gNotN, isNon, sNop, sSeq, sEx, sRet, sIf, sBrk, sCnt, sAsg, gVar, gAll, gTup, gSub, sAug, sAugS, sPar2, sPar3, eVar, eC, aNil, aCons, eAp, eAp1_eq, eAp2_eq, tB, tAnd, tOr, tNot, tTT, eT, eIf, eAnd, eOr, eNot, eCh, oNo, oP, eSl, eMtL, eTup_eq, eLst_eq, eLstR_eq, Res.bind_ok, Res.bind_bad, Res.bind_exc, List.map_cons, List.map_nil, List.length_cons, List.length_nil, List.replicate, List.cons_append, List.nil_append, List.getElem?_cons_zero, List.getElem?_cons_succ, List.set_cons_zero, List.set_cons_succ, if_true, if_false, Nat.reduceAdd, Nat.reduceSub, Nat.reduceEqDiff, reduceIte, Bool.false_eq_true, same_self (hx x hx') n (by omega)]⟩]
      have : xs.length ≤ LIM := by unfold LIM; omega
      simp only [Res.bind_ok, lcEnd, List.length_map, List.length_replicate, this, if_true, Bool.false_eq_true, if_false, map_const]
    show f_law_same_B (f_law_same_F n) _ h = _
    unfold f_law_same_B
    simp [fn, fnK, gIsN, gNotN, isNon, sNop, sSeq, sEx, sRet, sIf, sBrk, sCnt, sAsg, gVar, gAll, gTup, gSub, sAug, sAugS, sPar2, sPar3, eVar, eC, aNil, aCons, eAp, eAp1_eq, eAp2_eq, tB, tAnd, tOr, tNot, tTT, eT, eIf, eAnd, eOr, eNot, eCh, oNo, oP, eSl, eMtL, eTup_eq, eLst_eq, eLstR_eq, Res.bind_ok, Res.bind_bad, Res.bind_exc, List.map_cons, List.map_nil, List.length_cons, List.length_nil, List.replicate, List.cons_append, List.nil_append, List.getElem?_cons_zero, List.getElem?_cons_succ, List.set_cons_zero, List.set_cons_succ, if_true, if_false, Nat.reduceAdd, Nat.reduceSub, Nat.reduceEqDiff, reduceIte, Bool.false_eq_true, eIs, tyOf, subTy, gNe_bl, gLen, gNe_int, e1, inF_no, fin_bl]
theorem rn_same {d : D} {h : Hd} {Q : D → Hd → Prop} (dt : Dat 5 d) (q : Q (.bl true) h) : Rn (f_law_same [d, d] h) Q := ⟨_, _, same_self dt 6 (by decide) h, q⟩
/-- data that is shown as some text -/
def Shw (d : D) (n k : Nat) : Prop := ∃ p, (∀ h, toPy h d = some p) ∧ p.showable = true ∧ p.hasDict = false ∧ p.leavesShort 120 = true ∧ p.bulk ≤ n ∧ p.depth ≤ k
theorem Shw.le {d : D} {n k n' k' : Nat} (s : Shw d n k) (a : n ≤ n') (b : k ≤ k') : Shw d n' k' := by
  obtain ⟨p, h1, h2, h3, h4, h5, h6⟩ := s
  exact ⟨p, h1, h2, h3, h4, by omega, by omega⟩
theorem shws (n k : Nat) : ∀ xs : List D, (∀ x ∈ xs, Shw x n k) → ∃ ps : List PyData, (∀ h, toPys h xs = some ps) ∧ PyData.showableAll ps = true ∧ PyData.hasDictAll ps = false ∧ PyData.leavesShortAll 120 ps = true ∧ PyData.bulkAll ps ≤ xs.length * (n + 1) ∧ PyData.depthAll ps ≤ k
  | [], _ => ⟨[], fun _ => rfl, rfl, rfl, rfl, by simp [PyData.bulkAll], by simp [PyData.depthAll]⟩
  | x :: xs, hx => by
    obtain ⟨p, h1, h2, h3, h4, h5, h6⟩ := hx x List.mem_cons_self
    obtain ⟨ps, g1, g2, g3, g4, g5, g6⟩ := shws n k xs fun y hy => hx y (List.mem_cons_of_mem _ hy)
    refine ⟨p :: ps, fun h => ?_, ?_, ?_, ?_, ?_, ?_⟩
    · unfold toPys; rw [h1, g1]
    · simp [PyData.showableAll, h2, g2]
    · simp [PyData.hasDictAll, h3, g3]
    · simp [PyData.leavesShortAll, h4, g4]
    · simp only [PyData.bulkAll, List.length_cons, Nat.add_mul, Nat.one_mul]; omega
    · simp only [PyData.depthAll]; omega
theorem shw_tup {xs : List D} {n k m : Nat} (hx : ∀ x ∈ xs, Shw x n k) (l : xs.length * (n + 1) ≤ m) : Shw (.tup xs) m (k + 1) := by
  obtain ⟨ps, g1, g2, g3, g4, g5, g6⟩ := shws n k xs hx
  refine ⟨.tuple ps, fun h => ?_, ?_, ?_, ?_, ?_, ?_⟩
  · show (toPys h xs).map PyData.tuple = _
    rw [g1]; rfl
  · simpa [PyData.showable] using g2
  · simpa [PyData.hasDict] using g3
  · simpa [PyData.leavesShort] using g4
  · simp only [PyData.bulk]; omega
  · simp only [PyData.depth]; omega
end BR

namespace BR
open PySem
local macro_rules
  | `(tactic| and_intros) => `(tactic| repeat (first | (with_reducible refine rs_seq ?_) | (with_reducible refine rs_asg ?_) | (with_reducible refine re_apK ?_) | (with_reducible refine re_ap ?_) | (with_reducible refine ra_cons ?_) | (with_reducible refine ra_nil ?_) | (with_reducible refine re_c ?_) | (with_reducible refine re_ap2 ?_) | (with_reducible refine re_ap1 ?_) | (with_reducible refine rg_var ?_) | (with_reducible refine rk_nx ?_) | (with_reducible refine rk_N ?_) | (with_reducible refine rs_if ?_) | (with_reducible refine rt_B ?_) | (with_reducible refine rs_ex ?_) | (with_reducible refine rs_ret ?_) | (with_reducible refine rt_not ?_) | (with_reducible refine re_T ?_) | (with_reducible refine rk_rt ?_) | (with_reducible refine re_mt ?_) | (with_reducible refine re_mx ?_) | (with_reducible refine re_sl ?_) | (with_reducible refine ro_no ?_) | (with_reducible refine ro_p ?_) | (with_reducible refine rg_add ?_) | (with_reducible refine rg_sbt ?_) | (with_reducible refine rg_iadd ?_) | (with_reducible refine rg_isub ?_) | (with_reducible refine rg_neg ?_) | (with_reducible refine rg_lt ?_) | (with_reducible refine rg_le ?_) | (with_reducible refine rg_gt ?_) | (with_reducible refine rg_ge ?_) | (with_reducible refine rg_isb ?_) | (with_reducible refine rg_isnb ?_) | (with_reducible refine rg_eqI ?_) | (with_reducible refine rg_neI ?_) | (with_reducible refine rg_eqR ?_) | (with_reducible refine rg_lenW ?_) | (with_reducible refine rg_lenI ?_) | (with_reducible refine rg_lenT ?_) | (with_reducible refine rg_lenL ?_) | (with_reducible refine rg_sumI ?_) | (with_reducible refine rg_sumL ?_) | (with_reducible refine rg_intI ?_) | (with_reducible refine rg_intB ?_) | (with_reducible refine rg_tupL ?_) | (with_reducible refine rs_nop ?_) | (with_reducible refine re_tup ?_) | (with_reducible refine re_lst ?_) | (with_reducible refine re_lstR ?_) | (with_reducible refine al0 ?_) | (with_reducible refine al1 ?_) | (with_reducible refine al2 ?_) | (with_reducible refine al3 ?_) | (with_reducible refine al4 ?_) | (with_reducible refine al5 ?_) | (with_reducible refine al6 ?_) | (with_reducible refine re_and ?_) | (with_reducible refine re_or ?_) | (with_reducible refine re_not ?_) | (with_reducible refine re_ch ?_) | (with_reducible refine re_if ?_) | (with_reducible refine rt_and ?_) | (with_reducible refine rt_or ?_) | (with_reducible refine rt_TT ?_) | (with_reducible refine rs_for ?_) | (with_reducible refine ri_val ?_) | (with_reducible refine ri_rg1 ?_) | (with_reducible refine ri_rg2 ?_) | (with_reducible refine ri_en ?_) | (with_reducible refine ri_zip ?_) | (with_reducible refine re_is ?_) | (with_reducible refine rt_B ?_) | (with_reducible refine re_lc ?_) | (with_reducible refine rl_in ?_) | (with_reducible refine rl_one ?_) | (with_reducible refine rs_par2 ?_) | (with_reducible refine rs_par3 ?_) | (with_reducible refine rg_tup ?_) | (with_reducible refine rg_all ?_) | (with_reducible refine rg_all_nil ?_) | (with_reducible refine rg_sub ?_) | (with_reducible refine rs_augS ?_) | (with_reducible refine re_var ?_; refine ⟨_, rfl, ?_⟩) | (with_reducible refine rs_aug ?_; refine ⟨_, rfl, ?_⟩) | refine ⟨_, rfl, ?_⟩ | with_reducible refine ⟨_, _, rfl, ?_⟩ | with_reducible refine ⟨_, _, _, rfl, ?_⟩ | refine ⟨⟨rfl, rfl⟩, ?_⟩ | refine ⟨by unfold BIG; omega, ?_⟩))
def tyD : D → Bool
  | .non => true
  | .bl _ => true
  | .int _ => true
  | .str _ => true
  | .tup _ => true
  | .lst _ => true
  | _ => false
theorem Dat.ty {k : Nat} {d : D} (h : Dat k d) : tyD d = true := by cases h <;> rfl
theorem rg_addLL {x y : List D} {h : Hd} {Q : D → Hd → Prop} (l : x.length + y.length ≤ LIM) (q : Q (.lst (x ++ y)) h) : Rn (gAdd [.lst x, .lst y] h) Q := ⟨.lst (x ++ y), h, by simp [gAdd, l], q⟩
theorem rg_ixL {xs : List D} {i : Int} {h : Hd} {Q : D → Hd → Prop} (h0 : 0 ≤ i) (h1 : i < xs.length) (q : ∀ d, d ∈ xs → Q d h) : Rn (gIx [.lst xs, .int i] h) Q :=
  ⟨_, h, gIx_at rfl h0 h1, q _ (getD_mem (by omega))⟩
end BR

namespace BR
open PySem
section
variable {c : List Int} {r h : Hd} {N : Int}
end
end BR

namespace BR
open PySem
local macro_rules
  | `(tactic| and_intros) => `(tactic| repeat (first | (with_reducible refine rs_seq ?_) | (with_reducible refine rs_asg ?_) | (with_reducible refine re_apK ?_) | (with_reducible refine re_ap ?_) | (with_reducible refine ra_cons ?_) | (with_reducible refine ra_nil ?_) | (with_reducible refine re_c ?_) | (with_reducible refine re_ap2 ?_) | (with_reducible refine re_ap1 ?_) | (with_reducible refine rg_var ?_) | (with_reducible refine rk_nx ?_) | (with_reducible refine rk_N ?_) | (with_reducible refine rs_if ?_) | (with_reducible refine rt_B ?_) | (with_reducible refine rs_ex ?_) | (with_reducible refine rs_ret ?_) | (with_reducible refine rt_not ?_) | (with_reducible refine re_T ?_) | (with_reducible refine rk_rt ?_) | (with_reducible refine re_mt ?_) | (with_reducible refine re_mx ?_) | (with_reducible refine re_sl ?_) | (with_reducible refine ro_no ?_) | (with_reducible refine ro_p ?_) | (with_reducible refine rg_add ?_) | (with_reducible refine rg_sbt ?_) | (with_reducible refine rg_iadd ?_) | (with_reducible refine rg_isub ?_) | (with_reducible refine rg_neg ?_) | (with_reducible refine rg_lt ?_) | (with_reducible refine rg_le ?_) | (with_reducible refine rg_gt ?_) | (with_reducible refine rg_ge ?_) | (with_reducible refine rg_isb ?_) | (with_reducible refine rg_isnb ?_) | (with_reducible refine rg_eqI ?_) | (with_reducible refine rg_neI ?_) | (with_reducible refine rg_eqR ?_) | (with_reducible refine rg_lenW ?_) | (with_reducible refine rg_lenI ?_) | (with_reducible refine rg_lenT ?_) | (with_reducible refine rg_lenL ?_) | (with_reducible refine rg_sumI ?_) | (with_reducible refine rg_sumL ?_) | (with_reducible refine rg_intI ?_) | (with_reducible refine rg_intB ?_) | (with_reducible refine rg_tupL ?_) | (with_reducible refine rs_nop ?_) | (with_reducible refine re_tup ?_) | (with_reducible refine re_lst ?_) | (with_reducible refine re_lstR ?_) | (with_reducible refine al0 ?_) | (with_reducible refine al1 ?_) | (with_reducible refine al2 ?_) | (with_reducible refine al3 ?_) | (with_reducible refine al4 ?_) | (with_reducible refine al5 ?_) | (with_reducible refine al6 ?_) | (with_reducible refine re_and ?_) | (with_reducible refine re_or ?_) | (with_reducible refine re_not ?_) | (with_reducible refine re_ch ?_) | (with_reducible refine re_if ?_) | (with_reducible refine rt_and ?_) | (with_reducible refine rt_or ?_) | (with_reducible refine rt_TT ?_) | (with_reducible refine rs_for ?_) | (with_reducible refine ri_val ?_) | (with_reducible refine ri_rg1 ?_) | (with_reducible refine ri_rg2 ?_) | (with_reducible refine ri_en ?_) | (with_reducible refine ri_zip ?_) | (with_reducible refine re_is ?_) | (with_reducible refine rt_B ?_) | (with_reducible refine re_lc ?_) | (with_reducible refine rl_in ?_) | (with_reducible refine rl_one ?_) | (with_reducible refine rs_par2 ?_) | (with_reducible refine rs_par3 ?_) | (with_reducible refine rg_tup ?_) | (with_reducible refine rg_all ?_) | (with_reducible refine rg_all_nil ?_) | (with_reducible refine rg_sub ?_) | (with_reducible refine rs_augS ?_) | (with_reducible refine re_var ?_; refine ⟨_, rfl, ?_⟩) | (with_reducible refine rs_aug ?_; refine ⟨_, rfl, ?_⟩) | refine ⟨_, rfl, ?_⟩ | with_reducible refine ⟨_, _, rfl, ?_⟩ | with_reducible refine ⟨_, _, _, rfl, ?_⟩ | refine ⟨⟨rfl, rfl⟩, ?_⟩ | refine ⟨by unfold BIG; omega, ?_⟩))
end BR

namespace BR
open PySem
section
variable {c : List Int} {r h : Hd} {N : Int} {Q : D → Hd → Prop}
end
end BR

namespace BR
open PySem
local macro_rules
  | `(tactic| and_intros) => `(tactic| repeat (first | (with_reducible refine rs_seq ?_) | (with_reducible refine rs_asg ?_) | (with_reducible refine re_apK ?_) | (with_reducible refine re_ap ?_) | (with_reducible refine ra_cons ?_) | (with_reducible refine ra_nil ?_) | (with_reducible refine re_c ?_) | (with_reducible refine re_ap2 ?_) | (with_reducible refine re_ap1 ?_) | (with_reducible refine rg_var ?_) | (with_reducible refine rk_nx ?_) | (with_reducible refine rk_N ?_) | (with_reducible refine rs_if ?_) | (with_reducible refine rt_B ?_) | (with_reducible refine rs_ex ?_) | (with_reducible refine rs_ret ?_) | (with_reducible refine rt_not ?_) | (with_reducible refine re_T ?_) | (with_reducible refine rk_rt ?_) | (with_reducible refine re_mt ?_) | (with_reducible refine re_mx ?_) | (with_reducible refine re_sl ?_) | (with_reducible refine ro_no ?_) | (with_reducible refine ro_p ?_) | (with_reducible refine rg_add ?_) | (with_reducible refine rg_sbt ?_) | (with_reducible refine rg_iadd ?_) | (with_reducible refine rg_isub ?_) | (with_reducible refine rg_neg ?_) | (with_reducible refine rg_lt ?_) | (with_reducible refine rg_le ?_) | (with_reducible refine rg_gt ?_) | (with_reducible refine rg_ge ?_) | (with_reducible refine rg_isb ?_) | (with_reducible refine rg_isnb ?_) | (with_reducible refine rg_eqI ?_) | (with_reducible refine rg_neI ?_) | (with_reducible refine rg_eqR ?_) | (with_reducible refine rg_lenW ?_) | (with_reducible refine rg_lenI ?_) | (with_reducible refine rg_lenT ?_) | (with_reducible refine rg_lenL ?_) | (with_reducible refine rg_sumI ?_) | (with_reducible refine rg_sumL ?_) | (with_reducible refine rg_intI ?_) | (with_reducible refine rg_intB ?_) | (with_reducible refine rg_tupL ?_) | (with_reducible refine rs_nop ?_) | (with_reducible refine re_tup ?_) | (with_reducible refine re_lst ?_) | (with_reducible refine re_lstR ?_) | (with_reducible refine al0 ?_) | (with_reducible refine al1 ?_) | (with_reducible refine al2 ?_) | (with_reducible refine al3 ?_) | (with_reducible refine al4 ?_) | (with_reducible refine al5 ?_) | (with_reducible refine al6 ?_) | (with_reducible refine re_and ?_) | (with_reducible refine re_or ?_) | (with_reducible refine re_not ?_) | (with_reducible refine re_ch ?_) | (with_reducible refine re_if ?_) | (with_reducible refine rt_and ?_) | (with_reducible refine rt_or ?_) | (with_reducible refine rt_TT ?_) | (with_reducible refine rs_for ?_) | (with_reducible refine ri_val ?_) | (with_reducible refine ri_rg1 ?_) | (with_reducible refine ri_rg2 ?_) | (with_reducible refine ri_en ?_) | (with_reducible refine ri_zip ?_) | (with_reducible refine re_is ?_) | (with_reducible refine rt_B ?_) | (with_reducible refine re_lc ?_) | (with_reducible refine rl_in ?_) | (with_reducible refine rl_one ?_) | (with_reducible refine rs_par2 ?_) | (with_reducible refine rs_par3 ?_) | (with_reducible refine rg_tup ?_) | (with_reducible refine rg_all ?_) | (with_reducible refine rg_all_nil ?_) | (with_reducible refine rg_sub ?_) | (with_reducible refine rs_augS ?_) | (with_reducible refine re_var ?_; refine ⟨_, rfl, ?_⟩) | (with_reducible refine rs_aug ?_; refine ⟨_, rfl, ?_⟩) | refine ⟨_, rfl, ?_⟩ | with_reducible refine ⟨_, _, rfl, ?_⟩ | with_reducible refine ⟨_, _, _, rfl, ?_⟩ | refine ⟨⟨rfl, rfl⟩, ?_⟩ | refine ⟨by unfold BIG; omega, ?_⟩))
theorem rn_lcP {α : Type} {gt : EG} {e : EE} {σ : Sg} {h : Hd} (key val : α → D) (xs : List α) {Q : List D → Hd → Prop}
    (hs : ∀ (i : Nat) (x : α), xs[i]? = some x → Rn (gt (key x) σ h) fun σ1 h1 => Rn (e σ1 h1) fun d h2 => d = val x ∧ h2 = h) (hd : Q (xs.map val) h) : Rn (lcF gt tTT (lcOne e) [] σ (xs.map key) h) Q :=
  rn_lc1 key xs (fun i ys h2 => ys = (xs.take i).map val ∧ h2 = h) ⟨rfl, rfl⟩ (fun i x ys h2 hx hI => by
    obtain ⟨rfl, rfl⟩ := hI
    refine rn_imp (hs i x hx) fun σ1 h1 q => rn_imp q fun d h3 ⟨e1, e2⟩ => ?_
    subst e1; subst e2
    refine ⟨?_, rfl⟩
    rw [List.take_add_one, hx]
    simp) fun ys h2 hI => by
    obtain ⟨rfl, rfl⟩ := hI
    rw [List.take_length]; exact hd
end BR

namespace BR
open PySem
local macro_rules
  | `(tactic| and_intros) => `(tactic| repeat (first | (with_reducible refine rs_seq ?_) | (with_reducible refine rs_asg ?_) | (with_reducible refine re_apK ?_) | (with_reducible refine re_ap ?_) | (with_reducible refine ra_cons ?_) | (with_reducible refine ra_nil ?_) | (with_reducible refine re_c ?_) | (with_reducible refine re_ap2 ?_) | (with_reducible refine re_ap1 ?_) | (with_reducible refine rg_var ?_) | (with_reducible refine rk_nx ?_) | (with_reducible refine rk_N ?_) | (with_reducible refine rs_if ?_) | (with_reducible refine rt_B ?_) | (with_reducible refine rs_ex ?_) | (with_reducible refine rs_ret ?_) | (with_reducible refine rt_not ?_) | (with_reducible refine re_T ?_) | (with_reducible refine rk_rt ?_) | (with_reducible refine re_mt ?_) | (with_reducible refine re_mx ?_) | (with_reducible refine re_sl ?_) | (with_reducible refine ro_no ?_) | (with_reducible refine ro_p ?_) | (with_reducible refine rg_add ?_) | (with_reducible refine rg_sbt ?_) | (with_reducible refine rg_iadd ?_) | (with_reducible refine rg_isub ?_) | (with_reducible refine rg_neg ?_) | (with_reducible refine rg_lt ?_) | (with_reducible refine rg_le ?_) | (with_reducible refine rg_gt ?_) | (with_reducible refine rg_ge ?_) | (with_reducible refine rg_isb ?_) | (with_reducible refine rg_isnb ?_) | (with_reducible refine rg_eqI ?_) | (with_reducible refine rg_neI ?_) | (with_reducible refine rg_eqR ?_) | (with_reducible refine rg_lenW ?_) | (with_reducible refine rg_lenI ?_) | (with_reducible refine rg_lenT ?_) | (with_reducible refine rg_lenL ?_) | (with_reducible refine rg_sumI ?_) | (with_reducible refine rg_sumL ?_) | (with_reducible refine rg_intI ?_) | (with_reducible refine rg_intB ?_) | (with_reducible refine rg_tupL ?_) | (with_reducible refine rs_nop ?_) | (with_reducible refine re_tup ?_) | (with_reducible refine re_lst ?_) | (with_reducible refine re_lstR ?_) | (with_reducible refine al0 ?_) | (with_reducible refine al1 ?_) | (with_reducible refine al2 ?_) | (with_reducible refine al3 ?_) | (with_reducible refine al4 ?_) | (with_reducible refine al5 ?_) | (with_reducible refine al6 ?_) | (with_reducible refine re_and ?_) | (with_reducible refine re_or ?_) | (with_reducible refine re_not ?_) | (with_reducible refine re_ch ?_) | (with_reducible refine re_if ?_) | (with_reducible refine rt_and ?_) | (with_reducible refine rt_or ?_) | (with_reducible refine rt_TT ?_) | (with_reducible refine rs_for ?_) | (with_reducible refine ri_val ?_) | (with_reducible refine ri_rg1 ?_) | (with_reducible refine ri_rg2 ?_) | (with_reducible refine ri_en ?_) | (with_reducible refine ri_zip ?_) | (with_reducible refine re_is ?_) | (with_reducible refine rt_B ?_) | (with_reducible refine re_lc ?_) | (with_reducible refine rl_in ?_) | (with_reducible refine rl_one ?_) | (with_reducible refine rs_par2 ?_) | (with_reducible refine rs_par3 ?_) | (with_reducible refine rg_tup ?_) | (with_reducible refine rg_all ?_) | (with_reducible refine rg_all_nil ?_) | (with_reducible refine rg_sub ?_) | (with_reducible refine rs_augS ?_) | (with_reducible refine re_var ?_; refine ⟨_, rfl, ?_⟩) | (with_reducible refine rs_aug ?_; refine ⟨_, rfl, ?_⟩) | refine ⟨_, rfl, ?_⟩ | with_reducible refine ⟨_, _, rfl, ?_⟩ | with_reducible refine ⟨_, _, _, rfl, ?_⟩ | refine ⟨⟨rfl, rfl⟩, ?_⟩ | refine ⟨by unfold BIG; omega, ?_⟩))
/-- places, each once -/
structure Pl (n : Nat) (l : List Nat) : Prop where
  nd : l.Nodup
  lt : ∀ u ∈ l, u < n
theorem Pl.len {n : Nat} {l : List Nat} (p : Pl n l) : l.length ≤ n := by
  have := nd_sub l (List.range n) p.nd fun x hx => List.mem_range.mpr (p.lt x hx)
  simpa using this
theorem Pl.one {n q : Nat} (h : q < n) : Pl n [q] := ⟨by simp, fun u hu => by rw [List.mem_singleton.mp hu]; exact h⟩
theorem Pl.more {n : Nat} {l : List Nat} (p : Pl n l) {v : Nat} (hv : v < n) (hn : v ∉ l) : Pl n (l ++ [v]) := ⟨by
  rw [List.nodup_append]
  exact ⟨p.nd, by simp, fun a ha b hb e => hn (by rw [← List.mem_singleton.mp hb, ← e]; exact ha)⟩, fun u hu => by
  rcases List.mem_append.mp hu with hu | hu
  · exact p.lt u hu
  · rw [List.mem_singleton.mp hu]; exact hv⟩
section
variable {h : Hd} {Q : D → Hd → Prop}
end
end BR

namespace BR
open PySem
local macro_rules
  | `(tactic| and_intros) => `(tactic| repeat (first | (with_reducible refine rs_seq ?_) | (with_reducible refine rs_asg ?_) | (with_reducible refine re_apK ?_) | (with_reducible refine re_ap ?_) | (with_reducible refine ra_cons ?_) | (with_reducible refine ra_nil ?_) | (with_reducible refine re_c ?_) | (with_reducible refine re_ap2 ?_) | (with_reducible refine re_ap1 ?_) | (with_reducible refine rg_var ?_) | (with_reducible refine rk_nx ?_) | (with_reducible refine rk_N ?_) | (with_reducible refine rs_if ?_) | (with_reducible refine rt_B ?_) | (with_reducible refine rs_ex ?_) | (with_reducible refine rs_ret ?_) | (with_reducible refine rt_not ?_) | (with_reducible refine re_T ?_) | (with_reducible refine rk_rt ?_) | (with_reducible refine re_mt ?_) | (with_reducible refine re_mx ?_) | (with_reducible refine re_sl ?_) | (with_reducible refine ro_no ?_) | (with_reducible refine ro_p ?_) | (with_reducible refine rg_add ?_) | (with_reducible refine rg_sbt ?_) | (with_reducible refine rg_iadd ?_) | (with_reducible refine rg_isub ?_) | (with_reducible refine rg_neg ?_) | (with_reducible refine rg_lt ?_) | (with_reducible refine rg_le ?_) | (with_reducible refine rg_gt ?_) | (with_reducible refine rg_ge ?_) | (with_reducible refine rg_isb ?_) | (with_reducible refine rg_isnb ?_) | (with_reducible refine rg_eqI ?_) | (with_reducible refine rg_neI ?_) | (with_reducible refine rg_eqR ?_) | (with_reducible refine rg_lenW ?_) | (with_reducible refine rg_lenI ?_) | (with_reducible refine rg_lenT ?_) | (with_reducible refine rg_lenL ?_) | (with_reducible refine rg_sumI ?_) | (with_reducible refine rg_sumL ?_) | (with_reducible refine rg_intI ?_) | (with_reducible refine rg_intB ?_) | (with_reducible refine rg_tupL ?_) | (with_reducible refine rs_nop ?_) | (with_reducible refine re_tup ?_) | (with_reducible refine re_lst ?_) | (with_reducible refine re_lstR ?_) | (with_reducible refine al0 ?_) | (with_reducible refine al1 ?_) | (with_reducible refine al2 ?_) | (with_reducible refine al3 ?_) | (with_reducible refine al4 ?_) | (with_reducible refine al5 ?_) | (with_reducible refine al6 ?_) | (with_reducible refine re_and ?_) | (with_reducible refine re_or ?_) | (with_reducible refine re_not ?_) | (with_reducible refine re_ch ?_) | (with_reducible refine re_if ?_) | (with_reducible refine rt_and ?_) | (with_reducible refine rt_or ?_) | (with_reducible refine rt_TT ?_) | (with_reducible refine rs_for ?_) | (with_reducible refine ri_val ?_) | (with_reducible refine ri_rg1 ?_) | (with_reducible refine ri_rg2 ?_) | (with_reducible refine ri_en ?_) | (with_reducible refine ri_zip ?_) | (with_reducible refine re_is ?_) | (with_reducible refine rt_B ?_) | (with_reducible refine re_lc ?_) | (with_reducible refine rl_in ?_) | (with_reducible refine rl_one ?_) | (with_reducible refine rs_par2 ?_) | (with_reducible refine rs_par3 ?_) | (with_reducible refine rg_tup ?_) | (with_reducible refine rg_all ?_) | (with_reducible refine rg_all_nil ?_) | (with_reducible refine rg_sub ?_) | (with_reducible refine rs_augS ?_) | (with_reducible refine re_var ?_; refine ⟨_, rfl, ?_⟩) | (with_reducible refine rs_aug ?_; refine ⟨_, rfl, ?_⟩) | refine ⟨_, rfl, ?_⟩ | with_reducible refine ⟨_, _, rfl, ?_⟩ | with_reducible refine ⟨_, _, _, rfl, ?_⟩ | refine ⟨⟨rfl, rfl⟩, ?_⟩ | refine ⟨by unfold BIG; omega, ?_⟩))
end BR

namespace BR
open PySem
local macro_rules
  | `(tactic| and_intros) => `(tactic| repeat (first | (with_reducible refine rs_seq ?_) | (with_reducible refine rs_asg ?_) | (with_reducible refine re_apK ?_) | (with_reducible refine re_ap ?_) | (with_reducible refine ra_cons ?_) | (with_reducible refine ra_nil ?_) | (with_reducible refine re_c ?_) | (with_reducible refine re_ap2 ?_) | (with_reducible refine re_ap1 ?_) | (with_reducible refine rg_var ?_) | (with_reducible refine rk_nx ?_) | (with_reducible refine rk_N ?_) | (with_reducible refine rs_if ?_) | (with_reducible refine rt_B ?_) | (with_reducible refine rs_ex ?_) | (with_reducible refine rs_ret ?_) | (with_reducible refine rt_not ?_) | (with_reducible refine re_T ?_) | (with_reducible refine rk_rt ?_) | (with_reducible refine re_mt ?_) | (with_reducible refine re_mx ?_) | (with_reducible refine re_sl ?_) | (with_reducible refine ro_no ?_) | (with_reducible refine ro_p ?_) | (with_reducible refine rg_add ?_) | (with_reducible refine rg_sbt ?_) | (with_reducible refine rg_iadd ?_) | (with_reducible refine rg_isub ?_) | (with_reducible refine rg_neg ?_) | (with_reducible refine rg_lt ?_) | (with_reducible refine rg_le ?_) | (with_reducible refine rg_gt ?_) | (with_reducible refine rg_ge ?_) | (with_reducible refine rg_isb ?_) | (with_reducible refine rg_isnb ?_) | (with_reducible refine rg_eqI ?_) | (with_reducible refine rg_neI ?_) | (with_reducible refine rg_eqR ?_) | (with_reducible refine rg_lenW ?_) | (with_reducible refine rg_lenI ?_) | (with_reducible refine rg_lenT ?_) | (with_reducible refine rg_lenL ?_) | (with_reducible refine rg_sumI ?_) | (with_reducible refine rg_sumL ?_) | (with_reducible refine rg_intI ?_) | (with_reducible refine rg_intB ?_) | (with_reducible refine rg_tupL ?_) | (with_reducible refine rs_nop ?_) | (with_reducible refine re_tup ?_) | (with_reducible refine re_lst ?_) | (with_reducible refine re_lstR ?_) | (with_reducible refine al0 ?_) | (with_reducible refine al1 ?_) | (with_reducible refine al2 ?_) | (with_reducible refine al3 ?_) | (with_reducible refine al4 ?_) | (with_reducible refine al5 ?_) | (with_reducible refine al6 ?_) | (with_reducible refine re_and ?_) | (with_reducible refine re_or ?_) | (with_reducible refine re_not ?_) | (with_reducible refine re_ch ?_) | (with_reducible refine re_if ?_) | (with_reducible refine rt_and ?_) | (with_reducible refine rt_or ?_) | (with_reducible refine rt_TT ?_) | (with_reducible refine rs_for ?_) | (with_reducible refine ri_val ?_) | (with_reducible refine ri_rg1 ?_) | (with_reducible refine ri_rg2 ?_) | (with_reducible refine ri_en ?_) | (with_reducible refine ri_zip ?_) | (with_reducible refine re_is ?_) | (with_reducible refine rt_B ?_) | (with_reducible refine re_lc ?_) | (with_reducible refine rl_in ?_) | (with_reducible refine rl_one ?_) | (with_reducible refine rs_par2 ?_) | (with_reducible refine rs_par3 ?_) | (with_reducible refine rg_tup ?_) | (with_reducible refine rg_all ?_) | (with_reducible refine rg_all_nil ?_) | (with_reducible refine rg_sub ?_) | (with_reducible refine rs_augS ?_) | (with_reducible refine re_var ?_; refine ⟨_, rfl, ?_⟩) | (with_reducible refine rs_aug ?_; refine ⟨_, rfl, ?_⟩) | refine ⟨_, rfl, ?_⟩ | with_reducible refine ⟨_, _, rfl, ?_⟩ | with_reducible refine ⟨_, _, _, rfl, ?_⟩ | refine ⟨⟨rfl, rfl⟩, ?_⟩ | refine ⟨by unfold BIG; omega, ?_⟩))
theorem Pl.all {n : Nat} {l : List Nat} (p : Pl n l) (hl : l.length = n) {v : Nat} (hv : v < n) : v ∈ l := by
  refine Classical.byContradiction fun hn => ?_
  have := (p.more hv hn).len
  rw [List.length_append, List.length_singleton] at this
  omega
section
variable {c : List Int} {r h : Hd} {N : Int} {Q : D → Hd → Prop}
end
end BR

namespace BR
open PySem
local macro_rules
  | `(tactic| and_intros) => `(tactic| repeat (first | (with_reducible refine rs_seq ?_) | (with_reducible refine rs_asg ?_) | (with_reducible refine re_apK ?_) | (with_reducible refine re_ap ?_) | (with_reducible refine ra_cons ?_) | (with_reducible refine ra_nil ?_) | (with_reducible refine re_c ?_) | (with_reducible refine re_ap2 ?_) | (with_reducible refine re_ap1 ?_) | (with_reducible refine rg_var ?_) | (with_reducible refine rk_nx ?_) | (with_reducible refine rk_N ?_) | (with_reducible refine rs_if ?_) | (with_reducible refine rt_B ?_) | (with_reducible refine rs_ex ?_) | (with_reducible refine rs_ret ?_) | (with_reducible refine rt_not ?_) | (with_reducible refine re_T ?_) | (with_reducible refine rk_rt ?_) | (with_reducible refine re_mt ?_) | (with_reducible refine re_mx ?_) | (with_reducible refine re_sl ?_) | (with_reducible refine ro_no ?_) | (with_reducible refine ro_p ?_) | (with_reducible refine rg_add ?_) | (with_reducible refine rg_sbt ?_) | (with_reducible refine rg_iadd ?_) | (with_reducible refine rg_isub ?_) | (with_reducible refine rg_neg ?_) | (with_reducible refine rg_lt ?_) | (with_reducible refine rg_le ?_) | (with_reducible refine rg_gt ?_) | (with_reducible refine rg_ge ?_) | (with_reducible refine rg_isb ?_) | (with_reducible refine rg_isnb ?_) | (with_reducible refine rg_eqI ?_) | (with_reducible refine rg_neI ?_) | (with_reducible refine rg_eqR ?_) | (with_reducible refine rg_lenW ?_) | (with_reducible refine rg_lenI ?_) | (with_reducible refine rg_lenT ?_) | (with_reducible refine rg_lenL ?_) | (with_reducible refine rg_sumI ?_) | (with_reducible refine rg_sumL ?_) | (with_reducible refine rg_intI ?_) | (with_reducible refine rg_intB ?_) | (with_reducible refine rg_tupL ?_) | (with_reducible refine rs_nop ?_) | (with_reducible refine re_tup ?_) | (with_reducible refine re_lst ?_) | (with_reducible refine re_lstR ?_) | (with_reducible refine al0 ?_) | (with_reducible refine al1 ?_) | (with_reducible refine al2 ?_) | (with_reducible refine al3 ?_) | (with_reducible refine al4 ?_) | (with_reducible refine al5 ?_) | (with_reducible refine al6 ?_) | (with_reducible refine re_and ?_) | (with_reducible refine re_or ?_) | (with_reducible refine re_not ?_) | (with_reducible refine re_ch ?_) | (with_reducible refine re_if ?_) | (with_reducible refine rt_and ?_) | (with_reducible refine rt_or ?_) | (with_reducible refine rt_TT ?_) | (with_reducible refine rs_for ?_) | (with_reducible refine ri_val ?_) | (with_reducible refine ri_rg1 ?_) | (with_reducible refine ri_rg2 ?_) | (with_reducible refine ri_en ?_) | (with_reducible refine ri_zip ?_) | (with_reducible refine re_is ?_) | (with_reducible refine rt_B ?_) | (with_reducible refine re_lc ?_) | (with_reducible refine rl_in ?_) | (with_reducible refine rl_one ?_) | (with_reducible refine rs_par2 ?_) | (with_reducible refine rs_par3 ?_) | (with_reducible refine rg_tup ?_) | (with_reducible refine rg_all ?_) | (with_reducible refine rg_all_nil ?_) | (with_reducible refine rg_sub ?_) | (with_reducible refine rs_augS ?_) | (with_reducible refine re_var ?_; refine ⟨_, rfl, ?_⟩) | (with_reducible refine rs_aug ?_; refine ⟨_, rfl, ?_⟩) | refine ⟨_, rfl, ?_⟩ | with_reducible refine ⟨_, _, rfl, ?_⟩ | with_reducible refine ⟨_, _, _, rfl, ?_⟩ | refine ⟨⟨rfl, rfl⟩, ?_⟩ | refine ⟨by unfold BIG; omega, ?_⟩))
theorem Pl.take {n : Nat} {l : List Nat} (p : Pl n l) (k : Nat) : Pl n (l.take k) := ⟨p.nd.sublist (List.take_sublist k l), fun u hu => p.lt u (List.mem_of_mem_take hu)⟩
section
variable {c : List Int} {r h : Hd} {N : Int} {Q : D → Hd → Prop}
end
end BR

namespace BR
open PySem
def Clo (m : List (List Int)) (S : Nat → Prop) : Prop := ∀ u v, u < m.length → v < m.length → S u → 0 < ent m u v → S v
/-- what stands between two turns of the walk -/
structure JQ (m : List (List Int)) (ks left : List Nat) : Prop where
  nd : ks.Nodup
  lt : ∀ k ∈ ks, k < m.length
  z : 0 ∈ ks
  sub : ∀ k ∈ left, k ∈ ks
  cl : ∀ k ∈ ks, k ∉ left → ∀ v, v < m.length → 0 < ent m k v → v ∈ ks
  rch : ∀ S : Nat → Prop, S 0 → Clo m S → ∀ k ∈ ks, S k
theorem JQ.len {m : List (List Int)} {ks left : List Nat} (j : JQ m ks left) : ks.length ≤ m.length := by
  have := nd_sub ks (List.range m.length) j.nd fun x hx => List.mem_range.mpr (j.lt x hx)
  simpa using this
def stepR (m : List (List Int)) (l : List Nat) (v : Nat) : List Nat := l ++ (List.range m.length).filter fun w => decide (0 < ent m v w) && !decide (w ∈ l)
structure RQ (m : List (List Int)) (l : List Nat) : Prop where
  nd : l.Nodup
  lt : ∀ k ∈ l, k < m.length
  z : 0 ∈ l
  rch : ∀ S : Nat → Prop, S 0 → Clo m S → ∀ k ∈ l, S k
theorem RQ.step {m : List (List Int)} {l : List Nat} {v : Nat} (q : RQ m l) (hv : v ∈ l) : RQ m (stepR m l v) := by
  unfold stepR
  refine ⟨?_, fun k hk => ?_, List.mem_append_left _ q.z, fun S s0 sc k hk => ?_⟩
  · rw [List.nodup_append]
    refine ⟨q.nd, List.nodup_range.sublist List.filter_sublist, fun a ha b hb e => ?_⟩
    have := (List.mem_filter.mp hb).2
    subst e
    simp [ha] at this
  · rcases List.mem_append.mp hk with hk | hk
    · exact q.lt k hk
    · exact List.mem_range.mp (List.mem_filter.mp hk).1
  · rcases List.mem_append.mp hk with hk | hk
    · exact q.rch S s0 sc k hk
    · have h1 := List.mem_filter.mp hk
      have h2 : 0 < ent m v k := by
        have := h1.2
        simp only [Bool.and_eq_true, decide_eq_true_eq] at this
        exact this.1
      exact sc v k (q.lt v hv) (List.mem_range.mp h1.1) (q.rch S s0 sc v hv) h2
end BR

namespace BR
open PySem
local macro_rules
  | `(tactic| and_intros) => `(tactic| repeat (first | (with_reducible refine rs_seq ?_) | (with_reducible refine rs_asg ?_) | (with_reducible refine re_apK ?_) | (with_reducible refine re_ap ?_) | (with_reducible refine ra_cons ?_) | (with_reducible refine ra_nil ?_) | (with_reducible refine re_c ?_) | (with_reducible refine re_ap2 ?_) | (with_reducible refine re_ap1 ?_) | (with_reducible refine rg_var ?_) | (with_reducible refine rk_nx ?_) | (with_reducible refine rk_N ?_) | (with_reducible refine rs_if ?_) | (with_reducible refine rt_B ?_) | (with_reducible refine rs_ex ?_) | (with_reducible refine rs_ret ?_) | (with_reducible refine rt_not ?_) | (with_reducible refine re_T ?_) | (with_reducible refine rk_rt ?_) | (with_reducible refine re_mt ?_) | (with_reducible refine re_mx ?_) | (with_reducible refine re_sl ?_) | (with_reducible refine ro_no ?_) | (with_reducible refine ro_p ?_) | (with_reducible refine rg_add ?_) | (with_reducible refine rg_sbt ?_) | (with_reducible refine rg_iadd ?_) | (with_reducible refine rg_isub ?_) | (with_reducible refine rg_neg ?_) | (with_reducible refine rg_lt ?_) | (with_reducible refine rg_le ?_) | (with_reducible refine rg_gt ?_) | (with_reducible refine rg_ge ?_) | (with_reducible refine rg_isb ?_) | (with_reducible refine rg_isnb ?_) | (with_reducible refine rg_eqI ?_) | (with_reducible refine rg_neI ?_) | (with_reducible refine rg_eqR ?_) | (with_reducible refine rg_lenW ?_) | (with_reducible refine rg_lenI ?_) | (with_reducible refine rg_lenT ?_) | (with_reducible refine rg_lenL ?_) | (with_reducible refine rg_sumI ?_) | (with_reducible refine rg_sumL ?_) | (with_reducible refine rg_intI ?_) | (with_reducible refine rg_intB ?_) | (with_reducible refine rg_tupL ?_) | (with_reducible refine rs_nop ?_) | (with_reducible refine re_tup ?_) | (with_reducible refine re_lst ?_) | (with_reducible refine re_lstR ?_) | (with_reducible refine al0 ?_) | (with_reducible refine al1 ?_) | (with_reducible refine al2 ?_) | (with_reducible refine al3 ?_) | (with_reducible refine al4 ?_) | (with_reducible refine al5 ?_) | (with_reducible refine al6 ?_) | (with_reducible refine re_and ?_) | (with_reducible refine re_or ?_) | (with_reducible refine re_not ?_) | (with_reducible refine re_ch ?_) | (with_reducible refine re_if ?_) | (with_reducible refine rt_and ?_) | (with_reducible refine rt_or ?_) | (with_reducible refine rt_TT ?_) | (with_reducible refine rs_for ?_) | (with_reducible refine ri_val ?_) | (with_reducible refine ri_rg1 ?_) | (with_reducible refine ri_rg2 ?_) | (with_reducible refine ri_en ?_) | (with_reducible refine ri_zip ?_) | (with_reducible refine re_is ?_) | (with_reducible refine rt_B ?_) | (with_reducible refine re_lc ?_) | (with_reducible refine rl_in ?_) | (with_reducible refine rl_one ?_) | (with_reducible refine rs_par2 ?_) | (with_reducible refine rs_par3 ?_) | (with_reducible refine rg_tup ?_) | (with_reducible refine rg_all ?_) | (with_reducible refine rg_all_nil ?_) | (with_reducible refine rg_sub ?_) | (with_reducible refine rs_augS ?_) | (with_reducible refine re_var ?_; refine ⟨_, rfl, ?_⟩) | (with_reducible refine rs_aug ?_; refine ⟨_, rfl, ?_⟩) | refine ⟨_, rfl, ?_⟩ | with_reducible refine ⟨_, _, rfl, ?_⟩ | with_reducible refine ⟨_, _, _, rfl, ?_⟩ | refine ⟨⟨rfl, rfl⟩, ?_⟩ | refine ⟨by unfold BIG; omega, ?_⟩))
end BR

namespace BR
open PySem
local macro_rules
  | `(tactic| and_intros) => `(tactic| repeat (first | (with_reducible refine rs_seq ?_) | (with_reducible refine rs_asg ?_) | (with_reducible refine re_apK ?_) | (with_reducible refine re_ap ?_) | (with_reducible refine ra_cons ?_) | (with_reducible refine ra_nil ?_) | (with_reducible refine re_c ?_) | (with_reducible refine re_ap2 ?_) | (with_reducible refine re_ap1 ?_) | (with_reducible refine rg_var ?_) | (with_reducible refine rk_nx ?_) | (with_reducible refine rk_N ?_) | (with_reducible refine rs_if ?_) | (with_reducible refine rt_B ?_) | (with_reducible refine rs_ex ?_) | (with_reducible refine rs_ret ?_) | (with_reducible refine rt_not ?_) | (with_reducible refine re_T ?_) | (with_reducible refine rk_rt ?_) | (with_reducible refine re_mt ?_) | (with_reducible refine re_mx ?_) | (with_reducible refine re_sl ?_) | (with_reducible refine ro_no ?_) | (with_reducible refine ro_p ?_) | (with_reducible refine rg_add ?_) | (with_reducible refine rg_sbt ?_) | (with_reducible refine rg_iadd ?_) | (with_reducible refine rg_isub ?_) | (with_reducible refine rg_neg ?_) | (with_reducible refine rg_lt ?_) | (with_reducible refine rg_le ?_) | (with_reducible refine rg_gt ?_) | (with_reducible refine rg_ge ?_) | (with_reducible refine rg_isb ?_) | (with_reducible refine rg_isnb ?_) | (with_reducible refine rg_eqI ?_) | (with_reducible refine rg_neI ?_) | (with_reducible refine rg_eqR ?_) | (with_reducible refine rg_lenW ?_) | (with_reducible refine rg_lenI ?_) | (with_reducible refine rg_lenT ?_) | (with_reducible refine rg_lenL ?_) | (with_reducible refine rg_sumI ?_) | (with_reducible refine rg_sumL ?_) | (with_reducible refine rg_intI ?_) | (with_reducible refine rg_intB ?_) | (with_reducible refine rg_tupL ?_) | (with_reducible refine rs_nop ?_) | (with_reducible refine re_tup ?_) | (with_reducible refine re_lst ?_) | (with_reducible refine re_lstR ?_) | (with_reducible refine al0 ?_) | (with_reducible refine al1 ?_) | (with_reducible refine al2 ?_) | (with_reducible refine al3 ?_) | (with_reducible refine al4 ?_) | (with_reducible refine al5 ?_) | (with_reducible refine al6 ?_) | (with_reducible refine re_and ?_) | (with_reducible refine re_or ?_) | (with_reducible refine re_not ?_) | (with_reducible refine re_ch ?_) | (with_reducible refine re_if ?_) | (with_reducible refine rt_and ?_) | (with_reducible refine rt_or ?_) | (with_reducible refine rt_TT ?_) | (with_reducible refine rs_for ?_) | (with_reducible refine ri_val ?_) | (with_reducible refine ri_rg1 ?_) | (with_reducible refine ri_rg2 ?_) | (with_reducible refine ri_en ?_) | (with_reducible refine ri_zip ?_) | (with_reducible refine re_is ?_) | (with_reducible refine rt_B ?_) | (with_reducible refine re_lc ?_) | (with_reducible refine rl_in ?_) | (with_reducible refine rl_one ?_) | (with_reducible refine rs_par2 ?_) | (with_reducible refine rs_par3 ?_) | (with_reducible refine rg_tup ?_) | (with_reducible refine rg_all ?_) | (with_reducible refine rg_all_nil ?_) | (with_reducible refine rg_sub ?_) | (with_reducible refine rs_augS ?_) | (with_reducible refine re_var ?_; refine ⟨_, rfl, ?_⟩) | (with_reducible refine rs_aug ?_; refine ⟨_, rfl, ?_⟩) | refine ⟨_, rfl, ?_⟩ | with_reducible refine ⟨_, _, rfl, ?_⟩ | with_reducible refine ⟨_, _, _, rfl, ?_⟩ | refine ⟨⟨rfl, rfl⟩, ?_⟩ | refine ⟨by unfold BIG; omega, ?_⟩))
end BR

namespace BR
open PySem
local macro_rules
  | `(tactic| and_intros) => `(tactic| repeat (first | (with_reducible refine rs_seq ?_) | (with_reducible refine rs_asg ?_) | (with_reducible refine re_apK ?_) | (with_reducible refine re_ap ?_) | (with_reducible refine ra_cons ?_) | (with_reducible refine ra_nil ?_) | (with_reducible refine re_c ?_) | (with_reducible refine re_ap2 ?_) | (with_reducible refine re_ap1 ?_) | (with_reducible refine rg_var ?_) | (with_reducible refine rk_nx ?_) | (with_reducible refine rk_N ?_) | (with_reducible refine rs_if ?_) | (with_reducible refine rt_B ?_) | (with_reducible refine rs_ex ?_) | (with_reducible refine rs_ret ?_) | (with_reducible refine rt_not ?_) | (with_reducible refine re_T ?_) | (with_reducible refine rk_rt ?_) | (with_reducible refine re_mt ?_) | (with_reducible refine re_mx ?_) | (with_reducible refine re_sl ?_) | (with_reducible refine ro_no ?_) | (with_reducible refine ro_p ?_) | (with_reducible refine rg_add ?_) | (with_reducible refine rg_sbt ?_) | (with_reducible refine rg_iadd ?_) | (with_reducible refine rg_isub ?_) | (with_reducible refine rg_neg ?_) | (with_reducible refine rg_lt ?_) | (with_reducible refine rg_le ?_) | (with_reducible refine rg_gt ?_) | (with_reducible refine rg_ge ?_) | (with_reducible refine rg_isb ?_) | (with_reducible refine rg_isnb ?_) | (with_reducible refine rg_eqI ?_) | (with_reducible refine rg_neI ?_) | (with_reducible refine rg_eqR ?_) | (with_reducible refine rg_lenW ?_) | (with_reducible refine rg_lenI ?_) | (with_reducible refine rg_lenT ?_) | (with_reducible refine rg_lenL ?_) | (with_reducible refine rg_sumI ?_) | (with_reducible refine rg_sumL ?_) | (with_reducible refine rg_intI ?_) | (with_reducible refine rg_intB ?_) | (with_reducible refine rg_tupL ?_) | (with_reducible refine rs_nop ?_) | (with_reducible refine re_tup ?_) | (with_reducible refine re_lst ?_) | (with_reducible refine re_lstR ?_) | (with_reducible refine al0 ?_) | (with_reducible refine al1 ?_) | (with_reducible refine al2 ?_) | (with_reducible refine al3 ?_) | (with_reducible refine al4 ?_) | (with_reducible refine al5 ?_) | (with_reducible refine al6 ?_) | (with_reducible refine re_and ?_) | (with_reducible refine re_or ?_) | (with_reducible refine re_not ?_) | (with_reducible refine re_ch ?_) | (with_reducible refine re_if ?_) | (with_reducible refine rt_and ?_) | (with_reducible refine rt_or ?_) | (with_reducible refine rt_TT ?_) | (with_reducible refine rs_for ?_) | (with_reducible refine ri_val ?_) | (with_reducible refine ri_rg1 ?_) | (with_reducible refine ri_rg2 ?_) | (with_reducible refine ri_en ?_) | (with_reducible refine ri_zip ?_) | (with_reducible refine re_is ?_) | (with_reducible refine rt_B ?_) | (with_reducible refine re_lc ?_) | (with_reducible refine rl_in ?_) | (with_reducible refine rl_one ?_) | (with_reducible refine rs_par2 ?_) | (with_reducible refine rs_par3 ?_) | (with_reducible refine rg_tup ?_) | (with_reducible refine rg_all ?_) | (with_reducible refine rg_all_nil ?_) | (with_reducible refine rg_sub ?_) | (with_reducible refine rs_augS ?_) | (with_reducible refine re_var ?_; refine ⟨_, rfl, ?_⟩) | (with_reducible refine rs_aug ?_; refine ⟨_, rfl, ?_⟩) | refine ⟨_, rfl, ?_⟩ | with_reducible refine ⟨_, _, rfl, ?_⟩ | with_reducible refine ⟨_, _, _, rfl, ?_⟩ | refine ⟨⟨rfl, rfl⟩, ?_⟩ | refine ⟨by unfold BIG; omega, ?_⟩))
/-- things in a row, rows, things -/
def En (x : D) : Prop := Dat 2 x ∧ Shw x 8 1
def Rw (x : D) : Prop := Dat 3 x ∧ Shw x 117 2
def Tg (x : D) : Prop := Dat 4 x ∧ Shw x 1534 3
def Lf (x : D) : Prop := Dat 0 x ∧ Shw x 3 0
theorem Lf.en {x : D} (h : Lf x) : En x := ⟨h.1.le (by decide), h.2.le (by decide) (by decide)⟩
theorem Lf.rw {x : D} (h : Lf x) : Rw x := ⟨h.1.le (by decide), h.2.le (by decide) (by decide)⟩
theorem Lf.tg {x : D} (h : Lf x) : Tg x := ⟨h.1.le (by decide), h.2.le (by decide) (by decide)⟩
theorem rw_tup {xs : List D} (l : xs.length ≤ 13) (hx : ∀ x ∈ xs, En x) : Rw (.tup xs) := ⟨.tup (by omega) fun x h => (hx x h).1, shw_tup (n := 8) (k := 1) (fun x h => (hx x h).2) (by omega)⟩
theorem tg_tup {xs : List D} (l : xs.length ≤ 13) (hx : ∀ x ∈ xs, Rw x) : Tg (.tup xs) := ⟨.tup (by omega) fun x h => (hx x h).1, shw_tup (n := 117) (k := 2) (fun x h => (hx x h).2) (by omega)⟩
/-- a square of things -/
def Gd (P : D → Prop) (n : Nat) (xs : List D) : Prop := xs.length = n ∧ ∀ x ∈ xs, ∃ ys, x = .tup ys ∧ ys.length = n ∧ ∀ y ∈ ys, P y
def IB (B : Int) (x : D) : Prop := ∃ i, x = .int i ∧ -B ≤ i ∧ i ≤ B
theorem Gd.imp {P P' : D → Prop} {n : Nat} {xs : List D} (g : Gd P n xs) (i : ∀ x, P x → P' x) : Gd P' n xs := ⟨g.1, fun x hx => by
  obtain ⟨ys, e, l, h⟩ := g.2 x hx
  exact ⟨ys, e, l, fun y hy => i y (h y hy)⟩⟩
theorem Gd.rw {n : Nat} {xs : List D} (g : Gd En n xs) (hn : n ≤ 12) : ∀ x ∈ xs, Rw x := fun x hx => by
  obtain ⟨ys, rfl, l, h⟩ := g.2 x hx
  exact rw_tup (by omega) h
theorem Gd.tg {n : Nat} {xs : List D} (g : Gd En n xs) (hn : n ≤ 12) : Tg (.tup xs) := tg_tup (by have := g.1; omega) (g.rw hn)
theorem Gd.at {P : D → Prop} {n : Nat} {xs : List D} (g : Gd P n xs) {u : Nat} (hu : u < n) : ∃ ys, xs.getD u .non = .tup ys ∧ ys.length = n ∧ ∀ y ∈ ys, P y := g.2 _ (getD_mem (by rw [g.1]; exact hu))
theorem Gd.set {P : D → Prop} {n : Nat} {xs ys : List D} (g : Gd P n xs) {u v : Nat} {x : D} (hx : P x) (l : ys.length = n) (h : ∀ y ∈ ys, P y) : Gd P n (xs.set u (.tup (ys.set v x))) := ⟨by rw [List.length_set]; exact g.1, fun z hz => by
  rcases List.mem_or_eq_of_mem_set hz with hz | hz
  · exact g.2 z hz
  · refine ⟨_, hz, by rw [List.length_set]; exact l, fun y hy => ?_⟩
    rcases List.mem_or_eq_of_mem_set hy with hy | hy
    · exact h y hy
    · rw [hy]; exact hx⟩
section
variable {c : List Int} {r h : Hd} {N : Int} {Q : D → Hd → Prop}
end
end BR

namespace BR
open PySem
local macro_rules
  | `(tactic| and_intros) => `(tactic| repeat (first | (with_reducible refine rs_seq ?_) | (with_reducible refine rs_asg ?_) | (with_reducible refine re_apK ?_) | (with_reducible refine re_ap ?_) | (with_reducible refine ra_cons ?_) | (with_reducible refine ra_nil ?_) | (with_reducible refine re_c ?_) | (with_reducible refine re_ap2 ?_) | (with_reducible refine re_ap1 ?_) | (with_reducible refine rg_var ?_) | (with_reducible refine rk_nx ?_) | (with_reducible refine rk_N ?_) | (with_reducible refine rs_if ?_) | (with_reducible refine rt_B ?_) | (with_reducible refine rs_ex ?_) | (with_reducible refine rs_ret ?_) | (with_reducible refine rt_not ?_) | (with_reducible refine re_T ?_) | (with_reducible refine rk_rt ?_) | (with_reducible refine re_mt ?_) | (with_reducible refine re_mx ?_) | (with_reducible refine re_sl ?_) | (with_reducible refine ro_no ?_) | (with_reducible refine ro_p ?_) | (with_reducible refine rg_add ?_) | (with_reducible refine rg_sbt ?_) | (with_reducible refine rg_iadd ?_) | (with_reducible refine rg_isub ?_) | (with_reducible refine rg_neg ?_) | (with_reducible refine rg_lt ?_) | (with_reducible refine rg_le ?_) | (with_reducible refine rg_gt ?_) | (with_reducible refine rg_ge ?_) | (with_reducible refine rg_isb ?_) | (with_reducible refine rg_isnb ?_) | (with_reducible refine rg_eqI ?_) | (with_reducible refine rg_neI ?_) | (with_reducible refine rg_eqR ?_) | (with_reducible refine rg_lenW ?_) | (with_reducible refine rg_lenI ?_) | (with_reducible refine rg_lenT ?_) | (with_reducible refine rg_lenL ?_) | (with_reducible refine rg_sumI ?_) | (with_reducible refine rg_sumL ?_) | (with_reducible refine rg_intI ?_) | (with_reducible refine rg_intB ?_) | (with_reducible refine rg_tupL ?_) | (with_reducible refine rs_nop ?_) | (with_reducible refine re_tup ?_) | (with_reducible refine re_lst ?_) | (with_reducible refine re_lstR ?_) | (with_reducible refine al0 ?_) | (with_reducible refine al1 ?_) | (with_reducible refine al2 ?_) | (with_reducible refine al3 ?_) | (with_reducible refine al4 ?_) | (with_reducible refine al5 ?_) | (with_reducible refine al6 ?_) | (with_reducible refine re_and ?_) | (with_reducible refine re_or ?_) | (with_reducible refine re_not ?_) | (with_reducible refine re_ch ?_) | (with_reducible refine re_if ?_) | (with_reducible refine rt_and ?_) | (with_reducible refine rt_or ?_) | (with_reducible refine rt_TT ?_) | (with_reducible refine rs_for ?_) | (with_reducible refine ri_val ?_) | (with_reducible refine ri_rg1 ?_) | (with_reducible refine ri_rg2 ?_) | (with_reducible refine ri_en ?_) | (with_reducible refine ri_zip ?_) | (with_reducible refine re_is ?_) | (with_reducible refine rt_B ?_) | (with_reducible refine re_lc ?_) | (with_reducible refine rl_in ?_) | (with_reducible refine rl_one ?_) | (with_reducible refine rs_par2 ?_) | (with_reducible refine rs_par3 ?_) | (with_reducible refine rg_tup ?_) | (with_reducible refine rg_all ?_) | (with_reducible refine rg_all_nil ?_) | (with_reducible refine rg_sub ?_) | (with_reducible refine rs_augS ?_) | (with_reducible refine re_var ?_; refine ⟨_, rfl, ?_⟩) | (with_reducible refine rs_aug ?_; refine ⟨_, rfl, ?_⟩) | refine ⟨_, rfl, ?_⟩ | with_reducible refine ⟨_, _, rfl, ?_⟩ | with_reducible refine ⟨_, _, _, rfl, ?_⟩ | refine ⟨⟨rfl, rfl⟩, ?_⟩ | refine ⟨by unfold BIG; omega, ?_⟩))
theorem Pen.at {c : List Int} {r h : Hd} {N : Int} {R : Hd} (p : Pen c (r ++ R) h N) {v : Nat} (hv : v < R.length) : h[r.length + 2 + v]? = some R[v] := by
  have e : r ++ R = (r ++ R.take v) ++ R[v] :: R.drop (v + 1) := by
    rw [List.append_assoc, ← List.drop_eq_getElem_cons hv, List.take_append_drop]
  rw [e] at p
  have := p.get
  rw [List.length_append, List.length_take, Nat.min_eq_left (by omega)] at this
  rw [show r.length + 2 + v = r.length + v + 2 by omega]
  exact this
/-- rows as they lie -/
def Lr (rows : List (List Int)) : Hd := rows.map fun row => Ob.lst (row.map D.int)
theorem Lr_len (rows : List (List Int)) : (Lr rows).length = rows.length := by unfold Lr; simp
theorem Lr_at {rows : List (List Int)} {v : Nat} (hv : v < rows.length) : (Lr rows)[v]? = some (.lst ((rows.getD v []).map D.int)) := by
  unfold Lr
  simp [List.getD_eq_getElem?_getD, hv]
section
variable {c : List Int} {r h : Hd} {N : Int} {Q : D → Hd → Prop}
theorem Pen.row {rows : List (List Int)} (p : Pen c (r ++ Lr rows) h N) {v : Nat} (hv : v < rows.length) : h[r.length + 2 + v]? = some (.lst ((rows.getD v []).map D.int)) := by
  have hl : v < (Lr rows).length := by rw [Lr_len]; exact hv
  have := p.at hl
  rw [this, ← List.getElem?_eq_getElem hl, Lr_at hv]
end
end BR

namespace BR
open PySem
local macro_rules
  | `(tactic| and_intros) => `(tactic| repeat (first | (with_reducible refine rs_seq ?_) | (with_reducible refine rs_asg ?_) | (with_reducible refine re_apK ?_) | (with_reducible refine re_ap ?_) | (with_reducible refine ra_cons ?_) | (with_reducible refine ra_nil ?_) | (with_reducible refine re_c ?_) | (with_reducible refine re_ap2 ?_) | (with_reducible refine re_ap1 ?_) | (with_reducible refine rg_var ?_) | (with_reducible refine rk_nx ?_) | (with_reducible refine rk_N ?_) | (with_reducible refine rs_if ?_) | (with_reducible refine rt_B ?_) | (with_reducible refine rs_ex ?_) | (with_reducible refine rs_ret ?_) | (with_reducible refine rt_not ?_) | (with_reducible refine re_T ?_) | (with_reducible refine rk_rt ?_) | (with_reducible refine re_mt ?_) | (with_reducible refine re_mx ?_) | (with_reducible refine re_sl ?_) | (with_reducible refine ro_no ?_) | (with_reducible refine ro_p ?_) | (with_reducible refine rg_add ?_) | (with_reducible refine rg_sbt ?_) | (with_reducible refine rg_iadd ?_) | (with_reducible refine rg_isub ?_) | (with_reducible refine rg_neg ?_) | (with_reducible refine rg_lt ?_) | (with_reducible refine rg_le ?_) | (with_reducible refine rg_gt ?_) | (with_reducible refine rg_ge ?_) | (with_reducible refine rg_isb ?_) | (with_reducible refine rg_isnb ?_) | (with_reducible refine rg_eqI ?_) | (with_reducible refine rg_neI ?_) | (with_reducible refine rg_eqR ?_) | (with_reducible refine rg_lenW ?_) | (with_reducible refine rg_lenI ?_) | (with_reducible refine rg_lenT ?_) | (with_reducible refine rg_lenL ?_) | (with_reducible refine rg_sumI ?_) | (with_reducible refine rg_sumL ?_) | (with_reducible refine rg_intI ?_) | (with_reducible refine rg_intB ?_) | (with_reducible refine rg_tupL ?_) | (with_reducible refine rs_nop ?_) | (with_reducible refine re_tup ?_) | (with_reducible refine re_lst ?_) | (with_reducible refine re_lstR ?_) | (with_reducible refine al0 ?_) | (with_reducible refine al1 ?_) | (with_reducible refine al2 ?_) | (with_reducible refine al3 ?_) | (with_reducible refine al4 ?_) | (with_reducible refine al5 ?_) | (with_reducible refine al6 ?_) | (with_reducible refine re_and ?_) | (with_reducible refine re_or ?_) | (with_reducible refine re_not ?_) | (with_reducible refine re_ch ?_) | (with_reducible refine re_if ?_) | (with_reducible refine rt_and ?_) | (with_reducible refine rt_or ?_) | (with_reducible refine rt_TT ?_) | (with_reducible refine rs_for ?_) | (with_reducible refine ri_val ?_) | (with_reducible refine ri_rg1 ?_) | (with_reducible refine ri_rg2 ?_) | (with_reducible refine ri_en ?_) | (with_reducible refine ri_zip ?_) | (with_reducible refine re_is ?_) | (with_reducible refine rt_B ?_) | (with_reducible refine re_lc ?_) | (with_reducible refine rl_in ?_) | (with_reducible refine rl_one ?_) | (with_reducible refine rs_par2 ?_) | (with_reducible refine rs_par3 ?_) | (with_reducible refine rg_tup ?_) | (with_reducible refine rg_all ?_) | (with_reducible refine rg_all_nil ?_) | (with_reducible refine rg_sub ?_) | (with_reducible refine rs_augS ?_) | (with_reducible refine re_var ?_; refine ⟨_, rfl, ?_⟩) | (with_reducible refine rs_aug ?_; refine ⟨_, rfl, ?_⟩) | refine ⟨_, rfl, ?_⟩ | with_reducible refine ⟨_, _, rfl, ?_⟩ | with_reducible refine ⟨_, _, _, rfl, ?_⟩ | refine ⟨⟨rfl, rfl⟩, ?_⟩ | refine ⟨by unfold BIG; omega, ?_⟩))
section
variable {c : List Int} {r h : Hd} {N : Int} {Q : D → Hd → Prop}
end
end BR

namespace BR
open PySem
local macro_rules
  | `(tactic| and_intros) => `(tactic| repeat (first | (with_reducible refine rs_seq ?_) | (with_reducible refine rs_asg ?_) | (with_reducible refine re_apK ?_) | (with_reducible refine re_ap ?_) | (with_reducible refine ra_cons ?_) | (with_reducible refine ra_nil ?_) | (with_reducible refine re_c ?_) | (with_reducible refine re_ap2 ?_) | (with_reducible refine re_ap1 ?_) | (with_reducible refine rg_var ?_) | (with_reducible refine rk_nx ?_) | (with_reducible refine rk_N ?_) | (with_reducible refine rs_if ?_) | (with_reducible refine rt_B ?_) | (with_reducible refine rs_ex ?_) | (with_reducible refine rs_ret ?_) | (with_reducible refine rt_not ?_) | (with_reducible refine re_T ?_) | (with_reducible refine rk_rt ?_) | (with_reducible refine re_mt ?_) | (with_reducible refine re_mx ?_) | (with_reducible refine re_sl ?_) | (with_reducible refine ro_no ?_) | (with_reducible refine ro_p ?_) | (with_reducible refine rg_add ?_) | (with_reducible refine rg_sbt ?_) | (with_reducible refine rg_iadd ?_) | (with_reducible refine rg_isub ?_) | (with_reducible refine rg_neg ?_) | (with_reducible refine rg_lt ?_) | (with_reducible refine rg_le ?_) | (with_reducible refine rg_gt ?_) | (with_reducible refine rg_ge ?_) | (with_reducible refine rg_isb ?_) | (with_reducible refine rg_isnb ?_) | (with_reducible refine rg_eqI ?_) | (with_reducible refine rg_neI ?_) | (with_reducible refine rg_eqR ?_) | (with_reducible refine rg_lenW ?_) | (with_reducible refine rg_lenI ?_) | (with_reducible refine rg_lenT ?_) | (with_reducible refine rg_lenL ?_) | (with_reducible refine rg_sumI ?_) | (with_reducible refine rg_sumL ?_) | (with_reducible refine rg_intI ?_) | (with_reducible refine rg_intB ?_) | (with_reducible refine rg_tupL ?_) | (with_reducible refine rs_nop ?_) | (with_reducible refine re_tup ?_) | (with_reducible refine re_lst ?_) | (with_reducible refine re_lstR ?_) | (with_reducible refine al0 ?_) | (with_reducible refine al1 ?_) | (with_reducible refine al2 ?_) | (with_reducible refine al3 ?_) | (with_reducible refine al4 ?_) | (with_reducible refine al5 ?_) | (with_reducible refine al6 ?_) | (with_reducible refine re_and ?_) | (with_reducible refine re_or ?_) | (with_reducible refine re_not ?_) | (with_reducible refine re_ch ?_) | (with_reducible refine re_if ?_) | (with_reducible refine rt_and ?_) | (with_reducible refine rt_or ?_) | (with_reducible refine rt_TT ?_) | (with_reducible refine rs_for ?_) | (with_reducible refine ri_val ?_) | (with_reducible refine ri_rg1 ?_) | (with_reducible refine ri_rg2 ?_) | (with_reducible refine ri_en ?_) | (with_reducible refine ri_zip ?_) | (with_reducible refine re_is ?_) | (with_reducible refine rt_B ?_) | (with_reducible refine re_lc ?_) | (with_reducible refine rl_in ?_) | (with_reducible refine rl_one ?_) | (with_reducible refine rs_par2 ?_) | (with_reducible refine rs_par3 ?_) | (with_reducible refine rg_tup ?_) | (with_reducible refine rg_all ?_) | (with_reducible refine rg_all_nil ?_) | (with_reducible refine rg_sub ?_) | (with_reducible refine rs_augS ?_) | (with_reducible refine re_var ?_; refine ⟨_, rfl, ?_⟩) | (with_reducible refine rs_aug ?_; refine ⟨_, rfl, ?_⟩) | refine ⟨_, rfl, ?_⟩ | with_reducible refine ⟨_, _, rfl, ?_⟩ | with_reducible refine ⟨_, _, _, rfl, ?_⟩ | refine ⟨⟨rfl, rfl⟩, ?_⟩ | refine ⟨by unfold BIG; omega, ?_⟩))
section
variable {σ : Sg} {h : Hd} {e f k : EE} {as ks : EA} {c : ET} {s t : SS} {g : EG} {d : D} {F : EF} {i j n m : Nat} {sub : Nat → Bool}
theorem rn_only {α : Type} {r : Res α} {Q : α → Hd → Prop} (q : Rn r Q) : Rn r.only Q := by
  obtain ⟨a, h, e, q⟩ := q
  exact ⟨a, h, by rw [e]; rfl, q⟩
theorem re_V {Q : D → Hd → Prop} (q : Rn (e σ h) Q) : Rn (eV e σ h) Q := rn_only q
theorem ra_V {Q : List D → Hd → Prop} (q : Rn (as σ h) Q) : Rn (aV as σ h) Q := rn_only q
theorem rt_V {Q : Bool → Hd → Prop} (q : Rn (c σ h) Q) : Rn (tV c σ h) Q := rn_only q
theorem rs_V {Q : Fl → Hd → Prop} (q : Rn (s σ h) Q) : Rn (sV s σ h) Q := rn_only q
theorem rg_V {Q : Sg → Hd → Prop} (q : Rn (g d σ h) Q) : Rn (gV g d σ h) Q := rn_only q
theorem re_ap1X {Q : D → Hd → Prop} (q : Rn (e σ h) fun x h1 => Rn (F [x] h1) Q) : Rn (eAp1X F e σ h) Q := rn_bind (rn_imp q fun _ _ q => rn_only q)
theorem re_ap2X {Q : D → Hd → Prop} (q : Rn (e σ h) fun x h1 => Rn (f σ h1) fun y h2 => Rn (F [x, y] h2) Q) : Rn (eAp2X F e f σ h) Q := rn_bind (rn_imp q fun _ _ q => rn_bind (rn_imp (rn_only q) fun _ _ q => rn_only q))
theorem re_apKX {rest : List D} {Q : D → Hd → Prop} (q : Rn (as σ h) fun ds h1 => Rn (ks σ h1) fun es h2 => (ds.length = n ∧ es.length = j) ∧ Rn (F (ds ++ (es ++ rest)) h2) Q) : Rn (eApKX F n j as ks rest σ h) Q := rn_bind (rn_imp (rn_only q) fun _ _ q => rn_bind (rn_imp (rn_only q) fun _ _ ⟨z, q⟩ => by rw [if_pos z]; exact q))
end
section
variable {σ σ' : Sg} {h : Hd} {d : D} {s : SS} {i n m : Nat} {it : EI} {gt : EG} {c : ET} {el : Sg → Hd → Res (List D)} {rf : Bool} {vs : List Nat} {e : EE} {as : EA} {F : EF}
theorem rg_varN {Q : Sg → Hd → Prop} (e : σ.set i (some d) = σ') (q : Q σ' h) : Rn (gVar i d σ h) Q := rn_ok (by rw [e]; exact q)
theorem rf_fnN {ds : List D} {Q : D → Hd → Prop} (hl : ds.length = n) (e : ds.map some ++ List.replicate (m - n) none = σ') (q : Rn (s σ' h) fun fl h1 => match fl with
    | .rt d => Rn (fin h d h1) Q
    | .nx _ => Rn (fin h .non h1) Q
    | _ => False) : Rn (fn n m s ds h) Q := rf_fn hl (by rw [e]; exact q)
theorem re_lcN {Q : D → Hd → Prop} (e : wipe σ vs = σ') (q : Rn (it σ h) fun I h1 => Rn (lcF gt c el I.chk σ' I.items h1) fun ys h2 => Rn (lcEnd rf ys h2) Q) : Rn (eLc rf vs it gt c el σ h) Q := re_lc (by rw [e]; exact q)
end
section
variable {c : List Int} {r h : Hd} {N : Int} {Q : D → Hd → Prop} {P : D → Prop}
end
end BR

namespace BR
open PySem
local macro_rules
  | `(tactic| and_intros) => `(tactic| repeat (first | (with_reducible refine rs_seq ?_) | (with_reducible refine rs_asg ?_) | (with_reducible refine re_apK ?_) | (with_reducible refine re_ap ?_) | (with_reducible refine ra_cons ?_) | (with_reducible refine ra_nil ?_) | (with_reducible refine re_c ?_) | (with_reducible refine re_ap2 ?_) | (with_reducible refine re_ap1 ?_) | (with_reducible refine rg_var ?_) | (with_reducible refine rk_nx ?_) | (with_reducible refine rk_N ?_) | (with_reducible refine rs_if ?_) | (with_reducible refine rt_B ?_) | (with_reducible refine rs_ex ?_) | (with_reducible refine rs_ret ?_) | (with_reducible refine rt_not ?_) | (with_reducible refine re_T ?_) | (with_reducible refine rk_rt ?_) | (with_reducible refine re_mt ?_) | (with_reducible refine re_mx ?_) | (with_reducible refine re_sl ?_) | (with_reducible refine ro_no ?_) | (with_reducible refine ro_p ?_) | (with_reducible refine rg_add ?_) | (with_reducible refine rg_sbt ?_) | (with_reducible refine rg_iadd ?_) | (with_reducible refine rg_isub ?_) | (with_reducible refine rg_neg ?_) | (with_reducible refine rg_lt ?_) | (with_reducible refine rg_le ?_) | (with_reducible refine rg_gt ?_) | (with_reducible refine rg_ge ?_) | (with_reducible refine rg_isb ?_) | (with_reducible refine rg_isnb ?_) | (with_reducible refine rg_eqI ?_) | (with_reducible refine rg_neI ?_) | (with_reducible refine rg_eqR ?_) | (with_reducible refine rg_lenW ?_) | (with_reducible refine rg_lenI ?_) | (with_reducible refine rg_lenT ?_) | (with_reducible refine rg_lenL ?_) | (with_reducible refine rg_sumI ?_) | (with_reducible refine rg_sumL ?_) | (with_reducible refine rg_intI ?_) | (with_reducible refine rg_intB ?_) | (with_reducible refine rg_tupL ?_) | (with_reducible refine rs_nop ?_) | (with_reducible refine re_tup ?_) | (with_reducible refine re_lst ?_) | (with_reducible refine re_lstR ?_) | (with_reducible refine al0 ?_) | (with_reducible refine al1 ?_) | (with_reducible refine al2 ?_) | (with_reducible refine al3 ?_) | (with_reducible refine al4 ?_) | (with_reducible refine al5 ?_) | (with_reducible refine al6 ?_) | (with_reducible refine re_and ?_) | (with_reducible refine re_or ?_) | (with_reducible refine re_not ?_) | (with_reducible refine re_ch ?_) | (with_reducible refine re_if ?_) | (with_reducible refine rt_and ?_) | (with_reducible refine rt_or ?_) | (with_reducible refine rt_TT ?_) | (with_reducible refine rs_for ?_) | (with_reducible refine ri_val ?_) | (with_reducible refine ri_rg1 ?_) | (with_reducible refine ri_rg2 ?_) | (with_reducible refine ri_en ?_) | (with_reducible refine ri_zip ?_) | (with_reducible refine re_is ?_) | (with_reducible refine rt_B ?_) | (with_reducible refine re_lc ?_) | (with_reducible refine rl_in ?_) | (with_reducible refine rl_one ?_) | (with_reducible refine rs_par2 ?_) | (with_reducible refine rs_par3 ?_) | (with_reducible refine rg_tup ?_) | (with_reducible refine rg_all ?_) | (with_reducible refine rg_all_nil ?_) | (with_reducible refine rg_sub ?_) | (with_reducible refine rs_augS ?_) | (with_reducible refine re_var ?_; refine ⟨_, rfl, ?_⟩) | (with_reducible refine rs_aug ?_; refine ⟨_, rfl, ?_⟩) | refine ⟨_, rfl, ?_⟩ | with_reducible refine ⟨_, _, rfl, ?_⟩ | with_reducible refine ⟨_, _, _, rfl, ?_⟩ | refine ⟨⟨rfl, rfl⟩, ?_⟩ | refine ⟨by unfold BIG; omega, ?_⟩))
structure Or (n : Nat) (l : List Nat) : Prop where
  nd : l.Nodup
  mem : ∀ x, x ∈ l ↔ x < n
  len : l.length = n
theorem Or.ord {n : Nat} {l : List Nat} (o : Or n l) : IsOrd n (nI l) := by
  unfold IsOrd nI
  refine List.Perm.map _ ((List.perm_ext_iff_of_nodup o.nd List.nodup_range).mpr fun a => ?_)
  rw [o.mem, List.mem_range]
theorem Or.of {n : Nat} {o : List Int} (h : IsOrd n o) : ∃ l, o = nI l ∧ Or n l := by
  obtain ⟨l, e, a, b, c⟩ := ord_nI h
  exact ⟨l, e, a, b, c⟩
theorem Or.at {n : Nat} {l : List Nat} (o : Or n l) {i : Nat} (hi : i < n) : l.getD i 0 < n := (o.mem _).mp (getD_mem (by rw [o.len]; exact hi))
theorem Or.inj {n : Nat} {l : List Nat} (o : Or n l) {i j : Nat} (hi : i < n) (hj : j < n) (e : l.getD i 0 = l.getD j 0) : i = j := by
  rw [List.getD_eq_getElem?_getD, List.getD_eq_getElem?_getD, List.getElem?_eq_getElem (by rw [o.len]; exact hi), List.getElem?_eq_getElem (by rw [o.len]; exact hj)] at e
  have e : l[i]'(by rw [o.len]; exact hi) = l[j]'(by rw [o.len]; exact hj) := e
  have nd := List.pairwise_iff_getElem.mp o.nd
  rcases Nat.lt_trichotomy i j with z | z | z
  · exact absurd e (nd i j _ _ z)
  · exact z
  · exact absurd e.symm (nd j i _ _ z)
theorem Or.pl {n : Nat} {l : List Nat} (o : Or n l) : Pl n l := ⟨o.nd, fun u hu => (o.mem u).mp hu⟩
end BR

namespace BR
open PySem
local macro_rules
  | `(tactic| and_intros) => `(tactic| repeat (first | (with_reducible refine rs_seq ?_) | (with_reducible refine rs_asg ?_) | (with_reducible refine re_apK ?_) | (with_reducible refine re_ap ?_) | (with_reducible refine ra_cons ?_) | (with_reducible refine ra_nil ?_) | (with_reducible refine re_c ?_) | (with_reducible refine re_ap2 ?_) | (with_reducible refine re_ap1 ?_) | (with_reducible refine rg_var ?_) | (with_reducible refine rk_nx ?_) | (with_reducible refine rk_N ?_) | (with_reducible refine rs_if ?_) | (with_reducible refine rt_B ?_) | (with_reducible refine rs_ex ?_) | (with_reducible refine rs_ret ?_) | (with_reducible refine rt_not ?_) | (with_reducible refine re_T ?_) | (with_reducible refine rk_rt ?_) | (with_reducible refine re_mt ?_) | (with_reducible refine re_mx ?_) | (with_reducible refine re_sl ?_) | (with_reducible refine ro_no ?_) | (with_reducible refine ro_p ?_) | (with_reducible refine rg_add ?_) | (with_reducible refine rg_sbt ?_) | (with_reducible refine rg_iadd ?_) | (with_reducible refine rg_isub ?_) | (with_reducible refine rg_neg ?_) | (with_reducible refine rg_lt ?_) | (with_reducible refine rg_le ?_) | (with_reducible refine rg_gt ?_) | (with_reducible refine rg_ge ?_) | (with_reducible refine rg_isb ?_) | (with_reducible refine rg_isnb ?_) | (with_reducible refine rg_eqI ?_) | (with_reducible refine rg_neI ?_) | (with_reducible refine rg_eqR ?_) | (with_reducible refine rg_lenW ?_) | (with_reducible refine rg_lenI ?_) | (with_reducible refine rg_lenT ?_) | (with_reducible refine rg_lenL ?_) | (with_reducible refine rg_sumI ?_) | (with_reducible refine rg_sumL ?_) | (with_reducible refine rg_intI ?_) | (with_reducible refine rg_intB ?_) | (with_reducible refine rg_tupL ?_) | (with_reducible refine rs_nop ?_) | (with_reducible refine re_tup ?_) | (with_reducible refine re_lst ?_) | (with_reducible refine re_lstR ?_) | (with_reducible refine al0 ?_) | (with_reducible refine al1 ?_) | (with_reducible refine al2 ?_) | (with_reducible refine al3 ?_) | (with_reducible refine al4 ?_) | (with_reducible refine al5 ?_) | (with_reducible refine al6 ?_) | (with_reducible refine re_and ?_) | (with_reducible refine re_or ?_) | (with_reducible refine re_not ?_) | (with_reducible refine re_ch ?_) | (with_reducible refine re_if ?_) | (with_reducible refine rt_and ?_) | (with_reducible refine rt_or ?_) | (with_reducible refine rt_TT ?_) | (with_reducible refine rs_for ?_) | (with_reducible refine ri_val ?_) | (with_reducible refine ri_rg1 ?_) | (with_reducible refine ri_rg2 ?_) | (with_reducible refine ri_en ?_) | (with_reducible refine ri_zip ?_) | (with_reducible refine re_is ?_) | (with_reducible refine rt_B ?_) | (with_reducible refine re_lc ?_) | (with_reducible refine rl_in ?_) | (with_reducible refine rl_one ?_) | (with_reducible refine rs_par2 ?_) | (with_reducible refine rs_par3 ?_) | (with_reducible refine rg_tup ?_) | (with_reducible refine rg_all ?_) | (with_reducible refine rg_all_nil ?_) | (with_reducible refine rg_sub ?_) | (with_reducible refine rs_augS ?_) | (with_reducible refine re_var ?_; refine ⟨_, rfl, ?_⟩) | (with_reducible refine rs_aug ?_; refine ⟨_, rfl, ?_⟩) | refine ⟨_, rfl, ?_⟩ | with_reducible refine ⟨_, _, rfl, ?_⟩ | with_reducible refine ⟨_, _, _, rfl, ?_⟩ | refine ⟨⟨rfl, rfl⟩, ?_⟩ | refine ⟨by unfold BIG; omega, ?_⟩))
end BR

namespace BR
open PySem
local macro_rules
  | `(tactic| and_intros) => `(tactic| repeat (first | (with_reducible refine re_V ?_) | (with_reducible refine ra_V ?_) | (with_reducible refine rt_V ?_) | (with_reducible refine rs_V ?_) | (with_reducible refine rg_V ?_) | (with_reducible refine re_ap1X ?_) | (with_reducible refine re_ap2X ?_) | (with_reducible refine re_apKX ?_) | (refine rg_varN (by simp only [List.set_cons_zero, List.set_cons_succ]; exact rfl) ?_) | (refine re_lcN (by simp only [wipe, List.set_cons_zero, List.set_cons_succ]; exact rfl) ?_) | (with_reducible refine And.intro (show (lstOf _ (D.lst _)).isSome = true from rfl) ?_) | (with_reducible refine rs_seq ?_) | (with_reducible refine rs_asg ?_) | (with_reducible refine re_apK ?_) | (with_reducible refine re_ap ?_) | (with_reducible refine ra_cons ?_) | (with_reducible refine ra_nil ?_) | (with_reducible refine re_c ?_) | (with_reducible refine re_ap2 ?_) | (with_reducible refine re_ap1 ?_) | (with_reducible refine rg_var ?_) | (with_reducible refine rk_nx ?_) | (with_reducible refine rk_N ?_) | (with_reducible refine rs_if ?_) | (with_reducible refine rt_B ?_) | (with_reducible refine rs_ex ?_) | (with_reducible refine rs_ret ?_) | (with_reducible refine rt_not ?_) | (with_reducible refine re_T ?_) | (with_reducible refine rk_rt ?_) | (with_reducible refine re_mt ?_) | (with_reducible refine re_mx ?_) | (with_reducible refine re_sl ?_) | (with_reducible refine ro_no ?_) | (with_reducible refine ro_p ?_) | (with_reducible refine rg_add ?_) | (with_reducible refine rg_sbt ?_) | (with_reducible refine rg_iadd ?_) | (with_reducible refine rg_isub ?_) | (with_reducible refine rg_neg ?_) | (with_reducible refine rg_lt ?_) | (with_reducible refine rg_le ?_) | (with_reducible refine rg_gt ?_) | (with_reducible refine rg_ge ?_) | (with_reducible refine rg_isb ?_) | (with_reducible refine rg_isnb ?_) | (with_reducible refine rg_eqI ?_) | (with_reducible refine rg_neI ?_) | (with_reducible refine rg_eqR ?_) | (with_reducible refine rg_lenW ?_) | (with_reducible refine rg_lenI ?_) | (with_reducible refine rg_lenT ?_) | (with_reducible refine rg_lenL ?_) | (with_reducible refine rg_sumI ?_) | (with_reducible refine rg_sumL ?_) | (with_reducible refine rg_intI ?_) | (with_reducible refine rg_intB ?_) | (with_reducible refine rg_tupL ?_) | (with_reducible refine rs_nop ?_) | (with_reducible refine re_tup ?_) | (with_reducible refine re_lst ?_) | (with_reducible refine re_lstR ?_) | (with_reducible refine al0 ?_) | (with_reducible refine al1 ?_) | (with_reducible refine al2 ?_) | (with_reducible refine al3 ?_) | (with_reducible refine al4 ?_) | (with_reducible refine al5 ?_) | (with_reducible refine al6 ?_) | (with_reducible refine re_and ?_) | (with_reducible refine re_or ?_) | (with_reducible refine re_not ?_) | (with_reducible refine re_ch ?_) | (with_reducible refine re_if ?_) | (with_reducible refine rt_and ?_) | (with_reducible refine rt_or ?_) | (with_reducible refine rt_TT ?_) | (with_reducible refine rs_for ?_) | (with_reducible refine ri_val ?_) | (with_reducible refine ri_rg1 ?_) | (with_reducible refine ri_rg2 ?_) | (with_reducible refine ri_en ?_) | (with_reducible refine ri_zip ?_) | (with_reducible refine re_is ?_) | (with_reducible refine rt_B ?_) | (with_reducible refine re_lc ?_) | (with_reducible refine rl_in ?_) | (with_reducible refine rl_one ?_) | (with_reducible refine rs_par2 ?_) | (with_reducible refine rs_par3 ?_) | (with_reducible refine rg_tup ?_) | (with_reducible refine rg_all ?_) | (with_reducible refine rg_all_nil ?_) | (with_reducible refine rg_sub ?_) | (with_reducible refine rs_augS ?_) | (with_reducible refine re_var ?_; refine ⟨_, rfl, ?_⟩) | (with_reducible refine rs_aug ?_; refine ⟨_, rfl, ?_⟩) | refine ⟨_, rfl, ?_⟩ | with_reducible refine ⟨_, _, rfl, ?_⟩ | with_reducible refine ⟨_, _, _, rfl, ?_⟩ | refine ⟨⟨rfl, rfl⟩, ?_⟩ | refine ⟨by unfold BIG; omega, ?_⟩))
end BR

namespace BR
open PySem
local macro_rules
  | `(tactic| and_intros) => `(tactic| repeat (first | (with_reducible refine rs_seq ?_) | (with_reducible refine rs_asg ?_) | (with_reducible refine re_apK ?_) | (with_reducible refine re_ap ?_) | (with_reducible refine ra_cons ?_) | (with_reducible refine ra_nil ?_) | (with_reducible refine re_c ?_) | (with_reducible refine re_ap2 ?_) | (with_reducible refine re_ap1 ?_) | (with_reducible refine rg_var ?_) | (with_reducible refine rk_nx ?_) | (with_reducible refine rk_N ?_) | (with_reducible refine rs_if ?_) | (with_reducible refine rt_B ?_) | (with_reducible refine rs_ex ?_) | (with_reducible refine rs_ret ?_) | (with_reducible refine rt_not ?_) | (with_reducible refine re_T ?_) | (with_reducible refine rk_rt ?_) | (with_reducible refine re_mt ?_) | (with_reducible refine re_mx ?_) | (with_reducible refine re_sl ?_) | (with_reducible refine ro_no ?_) | (with_reducible refine ro_p ?_) | (with_reducible refine rg_add ?_) | (with_reducible refine rg_sbt ?_) | (with_reducible refine rg_iadd ?_) | (with_reducible refine rg_isub ?_) | (with_reducible refine rg_neg ?_) | (with_reducible refine rg_lt ?_) | (with_reducible refine rg_le ?_) | (with_reducible refine rg_gt ?_) | (with_reducible refine rg_ge ?_) | (with_reducible refine rg_isb ?_) | (with_reducible refine rg_isnb ?_) | (with_reducible refine rg_eqI ?_) | (with_reducible refine rg_neI ?_) | (with_reducible refine rg_eqR ?_) | (with_reducible refine rg_lenW ?_) | (with_reducible refine rg_lenI ?_) | (with_reducible refine rg_lenT ?_) | (with_reducible refine rg_lenL ?_) | (with_reducible refine rg_sumI ?_) | (with_reducible refine rg_sumL ?_) | (with_reducible refine rg_intI ?_) | (with_reducible refine rg_intB ?_) | (with_reducible refine rg_tupL ?_) | (with_reducible refine rs_nop ?_) | (with_reducible refine re_tup ?_) | (with_reducible refine re_lst ?_) | (with_reducible refine re_lstR ?_) | (with_reducible refine al0 ?_) | (with_reducible refine al1 ?_) | (with_reducible refine al2 ?_) | (with_reducible refine al3 ?_) | (with_reducible refine al4 ?_) | (with_reducible refine al5 ?_) | (with_reducible refine al6 ?_) | (with_reducible refine re_and ?_) | (with_reducible refine re_or ?_) | (with_reducible refine re_not ?_) | (with_reducible refine re_ch ?_) | (with_reducible refine re_if ?_) | (with_reducible refine rt_and ?_) | (with_reducible refine rt_or ?_) | (with_reducible refine rt_TT ?_) | (with_reducible refine rs_for ?_) | (with_reducible refine ri_val ?_) | (with_reducible refine ri_rg1 ?_) | (with_reducible refine ri_rg2 ?_) | (with_reducible refine ri_en ?_) | (with_reducible refine ri_zip ?_) | (with_reducible refine re_is ?_) | (with_reducible refine rt_B ?_) | (with_reducible refine re_lc ?_) | (with_reducible refine rl_in ?_) | (with_reducible refine rl_one ?_) | (with_reducible refine rs_par2 ?_) | (with_reducible refine rs_par3 ?_) | (with_reducible refine rg_tup ?_) | (with_reducible refine rg_all ?_) | (with_reducible refine rg_all_nil ?_) | (with_reducible refine rg_sub ?_) | (with_reducible refine rs_augS ?_) | (with_reducible refine re_var ?_; refine ⟨_, rfl, ?_⟩) | (with_reducible refine rs_aug ?_; refine ⟨_, rfl, ?_⟩) | refine ⟨_, rfl, ?_⟩ | with_reducible refine ⟨_, _, rfl, ?_⟩ | with_reducible refine ⟨_, _, _, rfl, ?_⟩ | refine ⟨⟨rfl, rfl⟩, ?_⟩ | refine ⟨by unfold BIG; omega, ?_⟩))
section
variable {c : List Int} {r h : Hd} {N : Int} {Q : D → Hd → Prop}
end
end BR

namespace BR
open PySem
local macro_rules
  | `(tactic| and_intros) => `(tactic| repeat (first | (with_reducible refine re_V ?_) | (with_reducible refine ra_V ?_) | (with_reducible refine rt_V ?_) | (with_reducible refine rs_V ?_) | (with_reducible refine rg_V ?_) | (with_reducible refine re_ap1X ?_) | (with_reducible refine re_ap2X ?_) | (with_reducible refine re_apKX ?_) | (refine rg_varN (by simp only [List.set_cons_zero, List.set_cons_succ]; exact rfl) ?_) | (refine re_lcN (by simp only [wipe, List.set_cons_zero, List.set_cons_succ]; exact rfl) ?_) | (with_reducible refine And.intro (show (lstOf _ (D.lst _)).isSome = true from rfl) ?_) | (with_reducible refine rs_seq ?_) | (with_reducible refine rs_asg ?_) | (with_reducible refine re_apK ?_) | (with_reducible refine re_ap ?_) | (with_reducible refine ra_cons ?_) | (with_reducible refine ra_nil ?_) | (with_reducible refine re_c ?_) | (with_reducible refine re_ap2 ?_) | (with_reducible refine re_ap1 ?_) | (with_reducible refine rg_var ?_) | (with_reducible refine rk_nx ?_) | (with_reducible refine rk_N ?_) | (with_reducible refine rs_if ?_) | (with_reducible refine rt_B ?_) | (with_reducible refine rs_ex ?_) | (with_reducible refine rs_ret ?_) | (with_reducible refine rt_not ?_) | (with_reducible refine re_T ?_) | (with_reducible refine rk_rt ?_) | (with_reducible refine re_mt ?_) | (with_reducible refine re_mx ?_) | (with_reducible refine re_sl ?_) | (with_reducible refine ro_no ?_) | (with_reducible refine ro_p ?_) | (with_reducible refine rg_add ?_) | (with_reducible refine rg_sbt ?_) | (with_reducible refine rg_iadd ?_) | (with_reducible refine rg_isub ?_) | (with_reducible refine rg_neg ?_) | (with_reducible refine rg_lt ?_) | (with_reducible refine rg_le ?_) | (with_reducible refine rg_gt ?_) | (with_reducible refine rg_ge ?_) | (with_reducible refine rg_isb ?_) | (with_reducible refine rg_isnb ?_) | (with_reducible refine rg_eqI ?_) | (with_reducible refine rg_neI ?_) | (with_reducible refine rg_eqR ?_) | (with_reducible refine rg_lenW ?_) | (with_reducible refine rg_lenI ?_) | (with_reducible refine rg_lenT ?_) | (with_reducible refine rg_lenL ?_) | (with_reducible refine rg_sumI ?_) | (with_reducible refine rg_sumL ?_) | (with_reducible refine rg_intI ?_) | (with_reducible refine rg_intB ?_) | (with_reducible refine rg_tupL ?_) | (with_reducible refine rs_nop ?_) | (with_reducible refine re_tup ?_) | (with_reducible refine re_lst ?_) | (with_reducible refine re_lstR ?_) | (with_reducible refine al0 ?_) | (with_reducible refine al1 ?_) | (with_reducible refine al2 ?_) | (with_reducible refine al3 ?_) | (with_reducible refine al4 ?_) | (with_reducible refine al5 ?_) | (with_reducible refine al6 ?_) | (with_reducible refine re_and ?_) | (with_reducible refine re_or ?_) | (with_reducible refine re_not ?_) | (with_reducible refine re_ch ?_) | (with_reducible refine re_if ?_) | (with_reducible refine rt_and ?_) | (with_reducible refine rt_or ?_) | (with_reducible refine rt_TT ?_) | (with_reducible refine rs_for ?_) | (with_reducible refine ri_val ?_) | (with_reducible refine ri_rg1 ?_) | (with_reducible refine ri_rg2 ?_) | (with_reducible refine ri_en ?_) | (with_reducible refine ri_zip ?_) | (with_reducible refine re_is ?_) | (with_reducible refine rt_B ?_) | (with_reducible refine re_lc ?_) | (with_reducible refine rl_in ?_) | (with_reducible refine rl_one ?_) | (with_reducible refine rs_par2 ?_) | (with_reducible refine rs_par3 ?_) | (with_reducible refine rg_tup ?_) | (with_reducible refine rg_all ?_) | (with_reducible refine rg_all_nil ?_) | (with_reducible refine rg_sub ?_) | (with_reducible refine rs_augS ?_) | (with_reducible refine re_var ?_; refine ⟨_, rfl, ?_⟩) | (with_reducible refine rs_aug ?_; refine ⟨_, rfl, ?_⟩) | refine ⟨_, rfl, ?_⟩ | with_reducible refine ⟨_, _, rfl, ?_⟩ | with_reducible refine ⟨_, _, _, rfl, ?_⟩ | refine ⟨⟨rfl, rfl⟩, ?_⟩ | refine ⟨by unfold BIG; omega, ?_⟩))
theorem rngA {n i v : Nat} (e : (List.range n)[i]? = some v) : v = i ∧ i < n := by
  obtain ⟨h1, h2⟩ := List.getElem?_eq_some_iff.mp e
  rw [List.getElem_range] at h2
  rw [List.length_range] at h1
  exact ⟨h2.symm, h1⟩
end BR

namespace BR
/-- f 0 + .. + f (n-1) -/
def sN : Nat → (Nat → Int) → Int
  | 0, _ => 0
  | n + 1, f => sN n f + f n
/-- past j -/
def skp (j b : Nat) : Nat := if b < j then b else b + 1
/-- minus one, so many times -/
def sgn (j : Nat) : Int := if j % 2 = 0 then 1 else -1
def det : Nat → (Nat → Nat → Int) → Int
  | 0, _ => 1
  | n + 1, M => sN (n + 1) fun j => sgn j * M 0 j * det n fun a b => M (a + 1) (skp j b)
/-- 1 on the diagonal -/
def idm (i j : Nat) : Int := if i = j then 1 else 0
end BR

namespace BR
section
variable (m : Nat) (A : Nat → Nat → Int)
/-- the first k columns, then those of 1 -/
def pm (k : Nat) : Nat → Nat → Int := fun s r => if r < k then A s r else idm s r
def dd (k : Nat) : Int := det (m + 1) (pm A k)
end
section
variable {m : Nat} {A : Nat → Nat → Int}
/-- the elimination, step by step -/
def el (A : Nat → Nat → Int) : Nat → (Nat → Nat → Int) × Int
  | 0 => (A, 1)
  | k + 1 => let p := el A k
    (fun i j => if i = k then p.1 k j else (p.1 k k * p.1 i j - p.1 i k * p.1 k j).fdiv p.2, p.1 k k)
end
section
variable {m : Nat} {A : Nat → Nat → Int} {G : Nat → Int}
end
end BR

namespace BR
open PySem
/-- 1, 26, .. -/
def rr : Nat → Int
  | 0 => 0
  | k + 1 => 25 * rr k + 1
end BR

namespace BR
open PySem
local macro_rules
  | `(tactic| and_intros) => `(tactic| repeat (first | (with_reducible refine re_V ?_) | (with_reducible refine ra_V ?_) | (with_reducible refine rt_V ?_) | (with_reducible refine rs_V ?_) | (with_reducible refine rg_V ?_) | (with_reducible refine re_ap1X ?_) | (with_reducible refine re_ap2X ?_) | (with_reducible refine re_apKX ?_) | (refine rg_varN (by simp only [List.set_cons_zero, List.set_cons_succ]; exact rfl) ?_) | (refine re_lcN (by simp only [wipe, List.set_cons_zero, List.set_cons_succ]; exact rfl) ?_) | (with_reducible refine And.intro (show (lstOf _ (D.lst _)).isSome = true from rfl) ?_) | (with_reducible refine rs_seq ?_) | (with_reducible refine rs_asg ?_) | (with_reducible refine re_apK ?_) | (with_reducible refine re_ap ?_) | (with_reducible refine ra_cons ?_) | (with_reducible refine ra_nil ?_) | (with_reducible refine re_c ?_) | (with_reducible refine re_ap2 ?_) | (with_reducible refine re_ap1 ?_) | (with_reducible refine rg_var ?_) | (with_reducible refine rk_nx ?_) | (with_reducible refine rk_N ?_) | (with_reducible refine rs_if ?_) | (with_reducible refine rt_B ?_) | (with_reducible refine rs_ex ?_) | (with_reducible refine rs_ret ?_) | (with_reducible refine rt_not ?_) | (with_reducible refine re_T ?_) | (with_reducible refine rk_rt ?_) | (with_reducible refine re_mt ?_) | (with_reducible refine re_mx ?_) | (with_reducible refine re_sl ?_) | (with_reducible refine ro_no ?_) | (with_reducible refine ro_p ?_) | (with_reducible refine rg_add ?_) | (with_reducible refine rg_sbt ?_) | (with_reducible refine rg_iadd ?_) | (with_reducible refine rg_isub ?_) | (with_reducible refine rg_neg ?_) | (with_reducible refine rg_lt ?_) | (with_reducible refine rg_le ?_) | (with_reducible refine rg_gt ?_) | (with_reducible refine rg_ge ?_) | (with_reducible refine rg_isb ?_) | (with_reducible refine rg_isnb ?_) | (with_reducible refine rg_eqI ?_) | (with_reducible refine rg_neI ?_) | (with_reducible refine rg_eqR ?_) | (with_reducible refine rg_lenW ?_) | (with_reducible refine rg_lenI ?_) | (with_reducible refine rg_lenT ?_) | (with_reducible refine rg_lenL ?_) | (with_reducible refine rg_sumI ?_) | (with_reducible refine rg_sumL ?_) | (with_reducible refine rg_intI ?_) | (with_reducible refine rg_intB ?_) | (with_reducible refine rg_tupL ?_) | (with_reducible refine rs_nop ?_) | (with_reducible refine re_tup ?_) | (with_reducible refine re_lst ?_) | (with_reducible refine re_lstR ?_) | (with_reducible refine al0 ?_) | (with_reducible refine al1 ?_) | (with_reducible refine al2 ?_) | (with_reducible refine al3 ?_) | (with_reducible refine al4 ?_) | (with_reducible refine al5 ?_) | (with_reducible refine al6 ?_) | (with_reducible refine re_and ?_) | (with_reducible refine re_or ?_) | (with_reducible refine re_not ?_) | (with_reducible refine re_ch ?_) | (with_reducible refine re_if ?_) | (with_reducible refine rt_and ?_) | (with_reducible refine rt_or ?_) | (with_reducible refine rt_TT ?_) | (with_reducible refine rs_for ?_) | (with_reducible refine ri_val ?_) | (with_reducible refine ri_rg1 ?_) | (with_reducible refine ri_rg2 ?_) | (with_reducible refine ri_en ?_) | (with_reducible refine ri_zip ?_) | (with_reducible refine re_is ?_) | (with_reducible refine rt_B ?_) | (with_reducible refine re_lc ?_) | (with_reducible refine rl_in ?_) | (with_reducible refine rl_one ?_) | (with_reducible refine rs_par2 ?_) | (with_reducible refine rs_par3 ?_) | (with_reducible refine rg_tup ?_) | (with_reducible refine rg_all ?_) | (with_reducible refine rg_all_nil ?_) | (with_reducible refine rg_sub ?_) | (with_reducible refine rs_augS ?_) | (with_reducible refine re_var ?_; refine ⟨_, rfl, ?_⟩) | (with_reducible refine rs_aug ?_; refine ⟨_, rfl, ?_⟩) | refine ⟨_, rfl, ?_⟩ | with_reducible refine ⟨_, _, rfl, ?_⟩ | with_reducible refine ⟨_, _, _, rfl, ?_⟩ | refine ⟨⟨rfl, rfl⟩, ?_⟩ | refine ⟨by unfold BIG; omega, ?_⟩))
/-- numbers in a row, as a list or a tuple, that stand still -/
def IsQ (h : Hd) (d : D) (x : List Int) : Prop := ∀ r, seqOf (h ++ r) d = some (x.map D.int)
section
variable {h : Hd} {d : D} {x : List Int} {Q : D → Hd → Prop}
theorem IsQ.app (q : IsQ h d x) (r : Hd) : IsQ (h ++ r) d x := fun s => by rw [List.append_assoc]; exact q _
theorem IsQ.here (q : IsQ h d x) : seqOf h d = some (x.map D.int) := by have := q []; rwa [List.append_nil] at this
end
theorem rf_fnK {s : SS} {n m : Nat} {ds : List D} {h : Hd} {σ' : Sg} {Q : D → Hd → Prop} (hl : ds.length = n) (e : ds.map some ++ List.replicate (m - n) none = σ') (q : Rn (s σ' h) fun fl h1 => match fl with
    | .rt d => Q d h1
    | .nx _ => Q .non h1
    | _ => False) : Rn (fnK n m s ds h) Q := by
  subst e
  unfold fnK
  rw [if_pos hl]
  refine rn_bind (rn_imp q fun fl h1 q => ?_)
  cases fl with
  | rt d => exact rn_ok q
  | nx σ => exact rn_ok q
  | _ => exact q.elim
end BR

namespace BR
open PySem
local macro_rules
  | `(tactic| and_intros) => `(tactic| repeat (first | (with_reducible refine re_V ?_) | (with_reducible refine ra_V ?_) | (with_reducible refine rt_V ?_) | (with_reducible refine rs_V ?_) | (with_reducible refine rg_V ?_) | (with_reducible refine re_ap1X ?_) | (with_reducible refine re_ap2X ?_) | (with_reducible refine re_apKX ?_) | (refine rg_varN (by simp only [List.set_cons_zero, List.set_cons_succ]; exact rfl) ?_) | (refine re_lcN (by simp only [wipe, List.set_cons_zero, List.set_cons_succ]; exact rfl) ?_) | (with_reducible refine And.intro (show (lstOf _ (D.lst _)).isSome = true from rfl) ?_) | (with_reducible refine rs_seq ?_) | (with_reducible refine rs_asg ?_) | (with_reducible refine re_apK ?_) | (with_reducible refine re_ap ?_) | (with_reducible refine ra_cons ?_) | (with_reducible refine ra_nil ?_) | (with_reducible refine re_c ?_) | (with_reducible refine re_ap2 ?_) | (with_reducible refine re_ap1 ?_) | (with_reducible refine rg_var ?_) | (with_reducible refine rk_nx ?_) | (with_reducible refine rk_N ?_) | (with_reducible refine rs_if ?_) | (with_reducible refine rt_B ?_) | (with_reducible refine rs_ex ?_) | (with_reducible refine rs_ret ?_) | (with_reducible refine rt_not ?_) | (with_reducible refine re_T ?_) | (with_reducible refine rk_rt ?_) | (with_reducible refine re_mt ?_) | (with_reducible refine re_mx ?_) | (with_reducible refine re_sl ?_) | (with_reducible refine ro_no ?_) | (with_reducible refine ro_p ?_) | (with_reducible refine rg_add ?_) | (with_reducible refine rg_sbt ?_) | (with_reducible refine rg_iadd ?_) | (with_reducible refine rg_isub ?_) | (with_reducible refine rg_neg ?_) | (with_reducible refine rg_lt ?_) | (with_reducible refine rg_le ?_) | (with_reducible refine rg_gt ?_) | (with_reducible refine rg_ge ?_) | (with_reducible refine rg_isb ?_) | (with_reducible refine rg_isnb ?_) | (with_reducible refine rg_eqI ?_) | (with_reducible refine rg_neI ?_) | (with_reducible refine rg_eqR ?_) | (with_reducible refine rg_lenW ?_) | (with_reducible refine rg_lenI ?_) | (with_reducible refine rg_lenT ?_) | (with_reducible refine rg_lenL ?_) | (with_reducible refine rg_sumI ?_) | (with_reducible refine rg_sumL ?_) | (with_reducible refine rg_intI ?_) | (with_reducible refine rg_intB ?_) | (with_reducible refine rg_tupL ?_) | (with_reducible refine rs_nop ?_) | (with_reducible refine re_tup ?_) | (with_reducible refine re_lst ?_) | (with_reducible refine re_lstR ?_) | (with_reducible refine al0 ?_) | (with_reducible refine al1 ?_) | (with_reducible refine al2 ?_) | (with_reducible refine al3 ?_) | (with_reducible refine al4 ?_) | (with_reducible refine al5 ?_) | (with_reducible refine al6 ?_) | (with_reducible refine re_and ?_) | (with_reducible refine re_or ?_) | (with_reducible refine re_not ?_) | (with_reducible refine re_ch ?_) | (with_reducible refine re_if ?_) | (with_reducible refine rt_and ?_) | (with_reducible refine rt_or ?_) | (with_reducible refine rt_TT ?_) | (with_reducible refine rs_for ?_) | (with_reducible refine ri_val ?_) | (with_reducible refine ri_rg1 ?_) | (with_reducible refine ri_rg2 ?_) | (with_reducible refine ri_en ?_) | (with_reducible refine ri_zip ?_) | (with_reducible refine re_is ?_) | (with_reducible refine rt_B ?_) | (with_reducible refine re_lc ?_) | (with_reducible refine rl_in ?_) | (with_reducible refine rl_one ?_) | (with_reducible refine rs_par2 ?_) | (with_reducible refine rs_par3 ?_) | (with_reducible refine rg_tup ?_) | (with_reducible refine rg_all ?_) | (with_reducible refine rg_all_nil ?_) | (with_reducible refine rg_sub ?_) | (with_reducible refine rs_augS ?_) | (with_reducible refine re_var ?_; refine ⟨_, rfl, ?_⟩) | (with_reducible refine rs_aug ?_; refine ⟨_, rfl, ?_⟩) | refine ⟨_, rfl, ?_⟩ | with_reducible refine ⟨_, _, rfl, ?_⟩ | with_reducible refine ⟨_, _, _, rfl, ?_⟩ | refine ⟨⟨rfl, rfl⟩, ?_⟩ | refine ⟨by unfold BIG; omega, ?_⟩))
end BR

namespace BR
open PySem
local macro_rules
  | `(tactic| and_intros) => `(tactic| repeat (first | (with_reducible refine re_V ?_) | (with_reducible refine ra_V ?_) | (with_reducible refine rt_V ?_) | (with_reducible refine rs_V ?_) | (with_reducible refine rg_V ?_) | (with_reducible refine re_ap1X ?_) | (with_reducible refine re_ap2X ?_) | (with_reducible refine re_apKX ?_) | (refine rg_varN (by simp only [List.set_cons_zero, List.set_cons_succ]; exact rfl) ?_) | (refine re_lcN (by simp only [wipe, List.set_cons_zero, List.set_cons_succ]; exact rfl) ?_) | (with_reducible refine And.intro (show (lstOf _ (D.lst _)).isSome = true from rfl) ?_) | (with_reducible refine rs_seq ?_) | (with_reducible refine rs_asg ?_) | (with_reducible refine re_apK ?_) | (with_reducible refine re_ap ?_) | (with_reducible refine ra_cons ?_) | (with_reducible refine ra_nil ?_) | (with_reducible refine re_c ?_) | (with_reducible refine re_ap2 ?_) | (with_reducible refine re_ap1 ?_) | (with_reducible refine rg_var ?_) | (with_reducible refine rk_nx ?_) | (with_reducible refine rk_N ?_) | (with_reducible refine rs_if ?_) | (with_reducible refine rt_B ?_) | (with_reducible refine rs_ex ?_) | (with_reducible refine rs_ret ?_) | (with_reducible refine rt_not ?_) | (with_reducible refine re_T ?_) | (with_reducible refine rk_rt ?_) | (with_reducible refine re_mt ?_) | (with_reducible refine re_mx ?_) | (with_reducible refine re_sl ?_) | (with_reducible refine ro_no ?_) | (with_reducible refine ro_p ?_) | (with_reducible refine rg_add ?_) | (with_reducible refine rg_sbt ?_) | (with_reducible refine rg_iadd ?_) | (with_reducible refine rg_isub ?_) | (with_reducible refine rg_neg ?_) | (with_reducible refine rg_lt ?_) | (with_reducible refine rg_le ?_) | (with_reducible refine rg_gt ?_) | (with_reducible refine rg_ge ?_) | (with_reducible refine rg_isb ?_) | (with_reducible refine rg_isnb ?_) | (with_reducible refine rg_eqI ?_) | (with_reducible refine rg_neI ?_) | (with_reducible refine rg_eqR ?_) | (with_reducible refine rg_lenW ?_) | (with_reducible refine rg_lenI ?_) | (with_reducible refine rg_lenT ?_) | (with_reducible refine rg_lenL ?_) | (with_reducible refine rg_sumI ?_) | (with_reducible refine rg_sumL ?_) | (with_reducible refine rg_intI ?_) | (with_reducible refine rg_intB ?_) | (with_reducible refine rg_tupL ?_) | (with_reducible refine rs_nop ?_) | (with_reducible refine re_tup ?_) | (with_reducible refine re_lst ?_) | (with_reducible refine re_lstR ?_) | (with_reducible refine al0 ?_) | (with_reducible refine al1 ?_) | (with_reducible refine al2 ?_) | (with_reducible refine al3 ?_) | (with_reducible refine al4 ?_) | (with_reducible refine al5 ?_) | (with_reducible refine al6 ?_) | (with_reducible refine re_and ?_) | (with_reducible refine re_or ?_) | (with_reducible refine re_not ?_) | (with_reducible refine re_ch ?_) | (with_reducible refine re_if ?_) | (with_reducible refine rt_and ?_) | (with_reducible refine rt_or ?_) | (with_reducible refine rt_TT ?_) | (with_reducible refine rs_for ?_) | (with_reducible refine ri_val ?_) | (with_reducible refine ri_rg1 ?_) | (with_reducible refine ri_rg2 ?_) | (with_reducible refine ri_en ?_) | (with_reducible refine ri_zip ?_) | (with_reducible refine re_is ?_) | (with_reducible refine rt_B ?_) | (with_reducible refine re_lc ?_) | (with_reducible refine rl_in ?_) | (with_reducible refine rl_one ?_) | (with_reducible refine rs_par2 ?_) | (with_reducible refine rs_par3 ?_) | (with_reducible refine rg_tup ?_) | (with_reducible refine rg_all ?_) | (with_reducible refine rg_all_nil ?_) | (with_reducible refine rg_sub ?_) | (with_reducible refine rs_augS ?_) | (with_reducible refine re_var ?_; refine ⟨_, rfl, ?_⟩) | (with_reducible refine rs_aug ?_; refine ⟨_, rfl, ?_⟩) | refine ⟨_, rfl, ?_⟩ | with_reducible refine ⟨_, _, rfl, ?_⟩ | with_reducible refine ⟨_, _, _, rfl, ?_⟩ | refine ⟨⟨rfl, rfl⟩, ?_⟩ | refine ⟨by unfold BIG; omega, ?_⟩))
end BR

namespace BR
open PySem
local macro_rules
  | `(tactic| and_intros) => `(tactic| repeat (first | (with_reducible refine re_V ?_) | (with_reducible refine ra_V ?_) | (with_reducible refine rt_V ?_) | (with_reducible refine rs_V ?_) | (with_reducible refine rg_V ?_) | (with_reducible refine re_ap1X ?_) | (with_reducible refine re_ap2X ?_) | (with_reducible refine re_apKX ?_) | (refine rg_varN (by simp only [List.set_cons_zero, List.set_cons_succ]; exact rfl) ?_) | (refine re_lcN (by simp only [wipe, List.set_cons_zero, List.set_cons_succ]; exact rfl) ?_) | (with_reducible refine And.intro (show (lstOf _ (D.lst _)).isSome = true from rfl) ?_) | (with_reducible refine rs_seq ?_) | (with_reducible refine rs_asg ?_) | (with_reducible refine re_apK ?_) | (with_reducible refine re_ap ?_) | (with_reducible refine ra_cons ?_) | (with_reducible refine ra_nil ?_) | (with_reducible refine re_c ?_) | (with_reducible refine re_ap2 ?_) | (with_reducible refine re_ap1 ?_) | (with_reducible refine rg_var ?_) | (with_reducible refine rk_nx ?_) | (with_reducible refine rk_N ?_) | (with_reducible refine rs_if ?_) | (with_reducible refine rt_B ?_) | (with_reducible refine rs_ex ?_) | (with_reducible refine rs_ret ?_) | (with_reducible refine rt_not ?_) | (with_reducible refine re_T ?_) | (with_reducible refine rk_rt ?_) | (with_reducible refine re_mt ?_) | (with_reducible refine re_mx ?_) | (with_reducible refine re_sl ?_) | (with_reducible refine ro_no ?_) | (with_reducible refine ro_p ?_) | (with_reducible refine rg_add ?_) | (with_reducible refine rg_sbt ?_) | (with_reducible refine rg_iadd ?_) | (with_reducible refine rg_isub ?_) | (with_reducible refine rg_neg ?_) | (with_reducible refine rg_lt ?_) | (with_reducible refine rg_le ?_) | (with_reducible refine rg_gt ?_) | (with_reducible refine rg_ge ?_) | (with_reducible refine rg_isb ?_) | (with_reducible refine rg_isnb ?_) | (with_reducible refine rg_eqI ?_) | (with_reducible refine rg_neI ?_) | (with_reducible refine rg_eqR ?_) | (with_reducible refine rg_lenW ?_) | (with_reducible refine rg_lenI ?_) | (with_reducible refine rg_lenT ?_) | (with_reducible refine rg_lenL ?_) | (with_reducible refine rg_sumI ?_) | (with_reducible refine rg_sumL ?_) | (with_reducible refine rg_intI ?_) | (with_reducible refine rg_intB ?_) | (with_reducible refine rg_tupL ?_) | (with_reducible refine rs_nop ?_) | (with_reducible refine re_tup ?_) | (with_reducible refine re_lst ?_) | (with_reducible refine re_lstR ?_) | (with_reducible refine al0 ?_) | (with_reducible refine al1 ?_) | (with_reducible refine al2 ?_) | (with_reducible refine al3 ?_) | (with_reducible refine al4 ?_) | (with_reducible refine al5 ?_) | (with_reducible refine al6 ?_) | (with_reducible refine re_and ?_) | (with_reducible refine re_or ?_) | (with_reducible refine re_not ?_) | (with_reducible refine re_ch ?_) | (with_reducible refine re_if ?_) | (with_reducible refine rt_and ?_) | (with_reducible refine rt_or ?_) | (with_reducible refine rt_TT ?_) | (with_reducible refine rs_for ?_) | (with_reducible refine ri_val ?_) | (with_reducible refine ri_rg1 ?_) | (with_reducible refine ri_rg2 ?_) | (with_reducible refine ri_en ?_) | (with_reducible refine ri_zip ?_) | (with_reducible refine re_is ?_) | (with_reducible refine rt_B ?_) | (with_reducible refine re_lc ?_) | (with_reducible refine rl_in ?_) | (with_reducible refine rl_one ?_) | (with_reducible refine rs_par2 ?_) | (with_reducible refine rs_par3 ?_) | (with_reducible refine rg_tup ?_) | (with_reducible refine rg_all ?_) | (with_reducible refine rg_all_nil ?_) | (with_reducible refine rg_sub ?_) | (with_reducible refine rs_augS ?_) | (with_reducible refine re_var ?_; refine ⟨_, rfl, ?_⟩) | (with_reducible refine rs_aug ?_; refine ⟨_, rfl, ?_⟩) | refine ⟨_, rfl, ?_⟩ | with_reducible refine ⟨_, _, rfl, ?_⟩ | with_reducible refine ⟨_, _, _, rfl, ?_⟩ | refine ⟨⟨rfl, rfl⟩, ?_⟩ | refine ⟨by unfold BIG; omega, ?_⟩))
section
variable {h : Hd} {a q : Nat} {m : List (List Int)} {F : List Int} {y : List Int}
end
end BR

namespace BR
open PySem
local macro_rules
  | `(tactic| and_intros) => `(tactic| repeat (first | (with_reducible refine re_V ?_) | (with_reducible refine ra_V ?_) | (with_reducible refine rt_V ?_) | (with_reducible refine rs_V ?_) | (with_reducible refine rg_V ?_) | (with_reducible refine re_ap1X ?_) | (with_reducible refine re_ap2X ?_) | (with_reducible refine re_apKX ?_) | (refine rg_varN (by simp only [List.set_cons_zero, List.set_cons_succ]; exact rfl) ?_) | (refine re_lcN (by simp only [wipe, List.set_cons_zero, List.set_cons_succ]; exact rfl) ?_) | (with_reducible refine And.intro (show (lstOf _ (D.lst _)).isSome = true from rfl) ?_) | (with_reducible refine rs_seq ?_) | (with_reducible refine rs_asg ?_) | (with_reducible refine re_apK ?_) | (with_reducible refine re_ap ?_) | (with_reducible refine ra_cons ?_) | (with_reducible refine ra_nil ?_) | (with_reducible refine re_c ?_) | (with_reducible refine re_ap2 ?_) | (with_reducible refine re_ap1 ?_) | (with_reducible refine rg_var ?_) | (with_reducible refine rk_nx ?_) | (with_reducible refine rk_N ?_) | (with_reducible refine rs_if ?_) | (with_reducible refine rt_B ?_) | (with_reducible refine rs_ex ?_) | (with_reducible refine rs_ret ?_) | (with_reducible refine rt_not ?_) | (with_reducible refine re_T ?_) | (with_reducible refine rk_rt ?_) | (with_reducible refine re_mt ?_) | (with_reducible refine re_mx ?_) | (with_reducible refine re_sl ?_) | (with_reducible refine ro_no ?_) | (with_reducible refine ro_p ?_) | (with_reducible refine rg_add ?_) | (with_reducible refine rg_sbt ?_) | (with_reducible refine rg_iadd ?_) | (with_reducible refine rg_isub ?_) | (with_reducible refine rg_neg ?_) | (with_reducible refine rg_lt ?_) | (with_reducible refine rg_le ?_) | (with_reducible refine rg_gt ?_) | (with_reducible refine rg_ge ?_) | (with_reducible refine rg_isb ?_) | (with_reducible refine rg_isnb ?_) | (with_reducible refine rg_eqI ?_) | (with_reducible refine rg_neI ?_) | (with_reducible refine rg_eqR ?_) | (with_reducible refine rg_lenW ?_) | (with_reducible refine rg_lenI ?_) | (with_reducible refine rg_lenT ?_) | (with_reducible refine rg_lenL ?_) | (with_reducible refine rg_sumI ?_) | (with_reducible refine rg_sumL ?_) | (with_reducible refine rg_intI ?_) | (with_reducible refine rg_intB ?_) | (with_reducible refine rg_tupL ?_) | (with_reducible refine rs_nop ?_) | (with_reducible refine re_tup ?_) | (with_reducible refine re_lst ?_) | (with_reducible refine re_lstR ?_) | (with_reducible refine al0 ?_) | (with_reducible refine al1 ?_) | (with_reducible refine al2 ?_) | (with_reducible refine al3 ?_) | (with_reducible refine al4 ?_) | (with_reducible refine al5 ?_) | (with_reducible refine al6 ?_) | (with_reducible refine re_and ?_) | (with_reducible refine re_or ?_) | (with_reducible refine re_not ?_) | (with_reducible refine re_ch ?_) | (with_reducible refine re_if ?_) | (with_reducible refine rt_and ?_) | (with_reducible refine rt_or ?_) | (with_reducible refine rt_TT ?_) | (with_reducible refine rs_for ?_) | (with_reducible refine ri_val ?_) | (with_reducible refine ri_rg1 ?_) | (with_reducible refine ri_rg2 ?_) | (with_reducible refine ri_en ?_) | (with_reducible refine ri_zip ?_) | (with_reducible refine re_is ?_) | (with_reducible refine rt_B ?_) | (with_reducible refine re_lc ?_) | (with_reducible refine rl_in ?_) | (with_reducible refine rl_one ?_) | (with_reducible refine rs_par2 ?_) | (with_reducible refine rs_par3 ?_) | (with_reducible refine rg_tup ?_) | (with_reducible refine rg_all ?_) | (with_reducible refine rg_all_nil ?_) | (with_reducible refine rg_sub ?_) | (with_reducible refine rs_augS ?_) | (with_reducible refine re_var ?_; refine ⟨_, rfl, ?_⟩) | (with_reducible refine rs_aug ?_; refine ⟨_, rfl, ?_⟩) | refine ⟨_, rfl, ?_⟩ | with_reducible refine ⟨_, _, rfl, ?_⟩ | with_reducible refine ⟨_, _, _, rfl, ?_⟩ | refine ⟨⟨rfl, rfl⟩, ?_⟩ | refine ⟨by unfold BIG; omega, ?_⟩))
section
variable {h : Hd}
end
end BR

namespace BR
open PySem
local macro_rules
  | `(tactic| and_intros) => `(tactic| repeat (first | (with_reducible refine re_V ?_) | (with_reducible refine ra_V ?_) | (with_reducible refine rt_V ?_) | (with_reducible refine rs_V ?_) | (with_reducible refine rg_V ?_) | (with_reducible refine re_ap1X ?_) | (with_reducible refine re_ap2X ?_) | (with_reducible refine re_apKX ?_) | (refine rg_varN (by simp only [List.set_cons_zero, List.set_cons_succ]; exact rfl) ?_) | (refine re_lcN (by simp only [wipe, List.set_cons_zero, List.set_cons_succ]; exact rfl) ?_) | (with_reducible refine And.intro (show (lstOf _ (D.lst _)).isSome = true from rfl) ?_) | (with_reducible refine rs_seq ?_) | (with_reducible refine rs_asg ?_) | (with_reducible refine re_apK ?_) | (with_reducible refine re_ap ?_) | (with_reducible refine ra_cons ?_) | (with_reducible refine ra_nil ?_) | (with_reducible refine re_c ?_) | (with_reducible refine re_ap2 ?_) | (with_reducible refine re_ap1 ?_) | (with_reducible refine rg_var ?_) | (with_reducible refine rk_nx ?_) | (with_reducible refine rk_N ?_) | (with_reducible refine rs_if ?_) | (with_reducible refine rt_B ?_) | (with_reducible refine rs_ex ?_) | (with_reducible refine rs_ret ?_) | (with_reducible refine rt_not ?_) | (with_reducible refine re_T ?_) | (with_reducible refine rk_rt ?_) | (with_reducible refine re_mt ?_) | (with_reducible refine re_mx ?_) | (with_reducible refine re_sl ?_) | (with_reducible refine ro_no ?_) | (with_reducible refine ro_p ?_) | (with_reducible refine rg_add ?_) | (with_reducible refine rg_sbt ?_) | (with_reducible refine rg_iadd ?_) | (with_reducible refine rg_isub ?_) | (with_reducible refine rg_neg ?_) | (with_reducible refine rg_lt ?_) | (with_reducible refine rg_le ?_) | (with_reducible refine rg_gt ?_) | (with_reducible refine rg_ge ?_) | (with_reducible refine rg_isb ?_) | (with_reducible refine rg_isnb ?_) | (with_reducible refine rg_eqI ?_) | (with_reducible refine rg_neI ?_) | (with_reducible refine rg_eqR ?_) | (with_reducible refine rg_lenW ?_) | (with_reducible refine rg_lenI ?_) | (with_reducible refine rg_lenT ?_) | (with_reducible refine rg_lenL ?_) | (with_reducible refine rg_sumI ?_) | (with_reducible refine rg_sumL ?_) | (with_reducible refine rg_intI ?_) | (with_reducible refine rg_intB ?_) | (with_reducible refine rg_tupL ?_) | (with_reducible refine rs_nop ?_) | (with_reducible refine re_tup ?_) | (with_reducible refine re_lst ?_) | (with_reducible refine re_lstR ?_) | (with_reducible refine al0 ?_) | (with_reducible refine al1 ?_) | (with_reducible refine al2 ?_) | (with_reducible refine al3 ?_) | (with_reducible refine al4 ?_) | (with_reducible refine al5 ?_) | (with_reducible refine al6 ?_) | (with_reducible refine re_and ?_) | (with_reducible refine re_or ?_) | (with_reducible refine re_not ?_) | (with_reducible refine re_ch ?_) | (with_reducible refine re_if ?_) | (with_reducible refine rt_and ?_) | (with_reducible refine rt_or ?_) | (with_reducible refine rt_TT ?_) | (with_reducible refine rs_for ?_) | (with_reducible refine ri_val ?_) | (with_reducible refine ri_rg1 ?_) | (with_reducible refine ri_rg2 ?_) | (with_reducible refine ri_en ?_) | (with_reducible refine ri_zip ?_) | (with_reducible refine re_is ?_) | (with_reducible refine rt_B ?_) | (with_reducible refine re_lc ?_) | (with_reducible refine rl_in ?_) | (with_reducible refine rl_one ?_) | (with_reducible refine rs_par2 ?_) | (with_reducible refine rs_par3 ?_) | (with_reducible refine rg_tup ?_) | (with_reducible refine rg_all ?_) | (with_reducible refine rg_all_nil ?_) | (with_reducible refine rg_sub ?_) | (with_reducible refine rs_augS ?_) | (with_reducible refine re_var ?_; refine ⟨_, rfl, ?_⟩) | (with_reducible refine rs_aug ?_; refine ⟨_, rfl, ?_⟩) | refine ⟨_, rfl, ?_⟩ | with_reducible refine ⟨_, _, rfl, ?_⟩ | with_reducible refine ⟨_, _, _, rfl, ?_⟩ | refine ⟨⟨rfl, rfl⟩, ?_⟩ | refine ⟨by unfold BIG; omega, ?_⟩))
end BR

namespace BR
open PySem
local macro_rules
  | `(tactic| and_intros) => `(tactic| repeat (first | (with_reducible refine re_V ?_) | (with_reducible refine ra_V ?_) | (with_reducible refine rt_V ?_) | (with_reducible refine rs_V ?_) | (with_reducible refine rg_V ?_) | (with_reducible refine re_ap1X ?_) | (with_reducible refine re_ap2X ?_) | (with_reducible refine re_apKX ?_) | (refine rg_varN (by simp only [List.set_cons_zero, List.set_cons_succ]; exact rfl) ?_) | (refine re_lcN (by simp only [wipe, List.set_cons_zero, List.set_cons_succ]; exact rfl) ?_) | (with_reducible refine And.intro (show (lstOf _ (D.lst _)).isSome = true from rfl) ?_) | (with_reducible refine rs_seq ?_) | (with_reducible refine rs_asg ?_) | (with_reducible refine re_apK ?_) | (with_reducible refine re_ap ?_) | (with_reducible refine ra_cons ?_) | (with_reducible refine ra_nil ?_) | (with_reducible refine re_c ?_) | (with_reducible refine re_ap2 ?_) | (with_reducible refine re_ap1 ?_) | (with_reducible refine rg_var ?_) | (with_reducible refine rk_nx ?_) | (with_reducible refine rk_N ?_) | (with_reducible refine rs_if ?_) | (with_reducible refine rt_B ?_) | (with_reducible refine rs_ex ?_) | (with_reducible refine rs_ret ?_) | (with_reducible refine rt_not ?_) | (with_reducible refine re_T ?_) | (with_reducible refine rk_rt ?_) | (with_reducible refine re_mt ?_) | (with_reducible refine re_mx ?_) | (with_reducible refine re_sl ?_) | (with_reducible refine ro_no ?_) | (with_reducible refine ro_p ?_) | (with_reducible refine rg_add ?_) | (with_reducible refine rg_sbt ?_) | (with_reducible refine rg_iadd ?_) | (with_reducible refine rg_isub ?_) | (with_reducible refine rg_neg ?_) | (with_reducible refine rg_lt ?_) | (with_reducible refine rg_le ?_) | (with_reducible refine rg_gt ?_) | (with_reducible refine rg_ge ?_) | (with_reducible refine rg_isb ?_) | (with_reducible refine rg_isnb ?_) | (with_reducible refine rg_eqI ?_) | (with_reducible refine rg_neI ?_) | (with_reducible refine rg_eqR ?_) | (with_reducible refine rg_lenW ?_) | (with_reducible refine rg_lenI ?_) | (with_reducible refine rg_lenT ?_) | (with_reducible refine rg_lenL ?_) | (with_reducible refine rg_sumI ?_) | (with_reducible refine rg_sumL ?_) | (with_reducible refine rg_intI ?_) | (with_reducible refine rg_intB ?_) | (with_reducible refine rg_tupL ?_) | (with_reducible refine rs_nop ?_) | (with_reducible refine re_tup ?_) | (with_reducible refine re_lst ?_) | (with_reducible refine re_lstR ?_) | (with_reducible refine al0 ?_) | (with_reducible refine al1 ?_) | (with_reducible refine al2 ?_) | (with_reducible refine al3 ?_) | (with_reducible refine al4 ?_) | (with_reducible refine al5 ?_) | (with_reducible refine al6 ?_) | (with_reducible refine re_and ?_) | (with_reducible refine re_or ?_) | (with_reducible refine re_not ?_) | (with_reducible refine re_ch ?_) | (with_reducible refine re_if ?_) | (with_reducible refine rt_and ?_) | (with_reducible refine rt_or ?_) | (with_reducible refine rt_TT ?_) | (with_reducible refine rs_for ?_) | (with_reducible refine ri_val ?_) | (with_reducible refine ri_rg1 ?_) | (with_reducible refine ri_rg2 ?_) | (with_reducible refine ri_en ?_) | (with_reducible refine ri_zip ?_) | (with_reducible refine re_is ?_) | (with_reducible refine rt_B ?_) | (with_reducible refine re_lc ?_) | (with_reducible refine rl_in ?_) | (with_reducible refine rl_one ?_) | (with_reducible refine rs_par2 ?_) | (with_reducible refine rs_par3 ?_) | (with_reducible refine rg_tup ?_) | (with_reducible refine rg_all ?_) | (with_reducible refine rg_all_nil ?_) | (with_reducible refine rg_sub ?_) | (with_reducible refine rs_augS ?_) | (with_reducible refine re_var ?_; refine ⟨_, rfl, ?_⟩) | (with_reducible refine rs_aug ?_; refine ⟨_, rfl, ?_⟩) | refine ⟨_, rfl, ?_⟩ | with_reducible refine ⟨_, _, rfl, ?_⟩ | with_reducible refine ⟨_, _, _, rfl, ?_⟩ | refine ⟨⟨rfl, rfl⟩, ?_⟩ | refine ⟨by unfold BIG; omega, ?_⟩))
end BR

namespace BR
open PySem
local macro_rules
  | `(tactic| and_intros) => `(tactic| repeat (first | (with_reducible refine re_V ?_) | (with_reducible refine ra_V ?_) | (with_reducible refine rt_V ?_) | (with_reducible refine rs_V ?_) | (with_reducible refine rg_V ?_) | (with_reducible refine re_ap1X ?_) | (with_reducible refine re_ap2X ?_) | (with_reducible refine re_apKX ?_) | (refine rg_varN (by simp only [List.set_cons_zero, List.set_cons_succ]; exact rfl) ?_) | (refine re_lcN (by simp only [wipe, List.set_cons_zero, List.set_cons_succ]; exact rfl) ?_) | (with_reducible refine And.intro (show (lstOf _ (D.lst _)).isSome = true from rfl) ?_) | (with_reducible refine rs_seq ?_) | (with_reducible refine rs_asg ?_) | (with_reducible refine re_apK ?_) | (with_reducible refine re_ap ?_) | (with_reducible refine ra_cons ?_) | (with_reducible refine ra_nil ?_) | (with_reducible refine re_c ?_) | (with_reducible refine re_ap2 ?_) | (with_reducible refine re_ap1 ?_) | (with_reducible refine rg_var ?_) | (with_reducible refine rk_nx ?_) | (with_reducible refine rk_N ?_) | (with_reducible refine rs_if ?_) | (with_reducible refine rt_B ?_) | (with_reducible refine rs_ex ?_) | (with_reducible refine rs_ret ?_) | (with_reducible refine rt_not ?_) | (with_reducible refine re_T ?_) | (with_reducible refine rk_rt ?_) | (with_reducible refine re_mt ?_) | (with_reducible refine re_mx ?_) | (with_reducible refine re_sl ?_) | (with_reducible refine ro_no ?_) | (with_reducible refine ro_p ?_) | (with_reducible refine rg_add ?_) | (with_reducible refine rg_sbt ?_) | (with_reducible refine rg_iadd ?_) | (with_reducible refine rg_isub ?_) | (with_reducible refine rg_neg ?_) | (with_reducible refine rg_lt ?_) | (with_reducible refine rg_le ?_) | (with_reducible refine rg_gt ?_) | (with_reducible refine rg_ge ?_) | (with_reducible refine rg_isb ?_) | (with_reducible refine rg_isnb ?_) | (with_reducible refine rg_eqI ?_) | (with_reducible refine rg_neI ?_) | (with_reducible refine rg_eqR ?_) | (with_reducible refine rg_lenW ?_) | (with_reducible refine rg_lenI ?_) | (with_reducible refine rg_lenT ?_) | (with_reducible refine rg_lenL ?_) | (with_reducible refine rg_sumI ?_) | (with_reducible refine rg_sumL ?_) | (with_reducible refine rg_intI ?_) | (with_reducible refine rg_intB ?_) | (with_reducible refine rg_tupL ?_) | (with_reducible refine rs_nop ?_) | (with_reducible refine re_tup ?_) | (with_reducible refine re_lst ?_) | (with_reducible refine re_lstR ?_) | (with_reducible refine al0 ?_) | (with_reducible refine al1 ?_) | (with_reducible refine al2 ?_) | (with_reducible refine al3 ?_) | (with_reducible refine al4 ?_) | (with_reducible refine al5 ?_) | (with_reducible refine al6 ?_) | (with_reducible refine re_and ?_) | (with_reducible refine re_or ?_) | (with_reducible refine re_not ?_) | (with_reducible refine re_ch ?_) | (with_reducible refine re_if ?_) | (with_reducible refine rt_and ?_) | (with_reducible refine rt_or ?_) | (with_reducible refine rt_TT ?_) | (with_reducible refine rs_for ?_) | (with_reducible refine ri_val ?_) | (with_reducible refine ri_rg1 ?_) | (with_reducible refine ri_rg2 ?_) | (with_reducible refine ri_en ?_) | (with_reducible refine ri_zip ?_) | (with_reducible refine re_is ?_) | (with_reducible refine rt_B ?_) | (with_reducible refine re_lc ?_) | (with_reducible refine rl_in ?_) | (with_reducible refine rl_one ?_) | (with_reducible refine rs_par2 ?_) | (with_reducible refine rs_par3 ?_) | (with_reducible refine rg_tup ?_) | (with_reducible refine rg_all ?_) | (with_reducible refine rg_all_nil ?_) | (with_reducible refine rg_sub ?_) | (with_reducible refine rs_augS ?_) | (with_reducible refine re_var ?_; refine ⟨_, rfl, ?_⟩) | (with_reducible refine rs_aug ?_; refine ⟨_, rfl, ?_⟩) | refine ⟨_, rfl, ?_⟩ | with_reducible refine ⟨_, _, rfl, ?_⟩ | with_reducible refine ⟨_, _, _, rfl, ?_⟩ | refine ⟨⟨rfl, rfl⟩, ?_⟩ | refine ⟨by unfold BIG; omega, ?_⟩))
section
variable {e : EE} {σ : Sg} {h : Hd} {Q : D → Hd → Prop} {sub : Nat → Bool}
theorem re_isXF (q : Rn (e σ h) fun d h1 => ∃ n c, d = .ref n ∧ (h1[n]? = some (.exo c) ∨ ∃ f, h1[n]? = some (.exf c f)) ∧ Q (.bl (sub c)) h1) : Rn (eIsXF sub e σ h) Q := rn_bind (rn_imp q fun _ _ ⟨n, c, z, w, q⟩ => by
  subst z
  rcases w with w | ⟨f, w⟩
  · simp only [w]; exact rn_ok q
  · simp only [w]; exact rn_ok q)
theorem re_xf (q : Rn (e σ h) fun d h1 => ∃ n c f, d = .ref n ∧ h1[n]? = some (.exf c f) ∧ sub c = true ∧ Q f h1) : Rn (eXf sub e σ h) Q := rn_bind (rn_imp q fun _ _ ⟨n, c, f, z, w, hc, q⟩ => by
  subst z
  simp only [w, hc, if_true]; exact rn_ok q)
theorem re_mkX {c : Nat} (q : Rn (e σ h) fun _ h1 => Q (.ref h1.length) (h1 ++ [.exo c])) : Rn (eMkX c e σ h) Q := rn_bind (rn_imp q fun _ _ q => rn_ok q)
theorem re_mkF {c : Nat} {a : EA} (q : Rn (a σ h) fun ds h1 => ∃ d, ds = [d] ∧ Q (.ref h1.length) (h1 ++ [.exf c d])) : Rn (eMkF c a σ h) Q := rn_bind (rn_imp q fun _ _ ⟨d, z, q⟩ => by subst z; exact rn_ok q)
end
/-- the eighteen, in the law's order -/
def O18 : List Nat := [0, 1, 2, 4, 5, 6, 7, 8, 9, 10, 11, 3, 12, 13, 14, 15, 16, 17]
def P18 : List Nat := [0, 1, 2, 3, 4, 5, 6, 7, 8, 9, 10, 11, 12, 13, 14, 15, 16, 17]
/-- what lies there -/
def Ex (h : Hd) (n c : Nat) : Prop := h[n]? = some (.exo c) ∨ ∃ f, h[n]? = some (.exf c f)
theorem kinds_eq {h : Hd} {n c : Nat} (x : Ex h n c) : f_law_kinds [.ref n] h = .ok (.lst (O18.map fun i => .bl (subP P18 i c))) h := by
  have key : Rn (f_law_kinds [.ref n] h) fun r h' => r = .lst (O18.map fun i => .bl (subP P18 i c)) ∧ h' = h := by
    unfold f_law_kinds
    refine rf_fnN rfl (by simp only [List.map_cons, List.map_nil, List.cons_append, List.nil_append, List.replicate, Nat.reduceSub]; exact rfl) ?_
    and_intros
    repeat (first
      | (refine re_isXF ?_; and_intros; refine ⟨_, c, rfl, x, ?_⟩; and_intros)
      | (refine rg_addLL (Nat.le_of_ble_eq_true rfl) ?_; and_intros))
    exact rn_fin rfl ⟨rfl, rfl⟩
  obtain ⟨d, h', e, rfl, rfl⟩ := key
  exact e
/-- the classes' numbers in the order of the list, their fields -/
def exs (num nam thg : D) : List Ob := [.exo 0, .exo 1, .exo 2, .exo 4, .exo 5, .exo 6, .exo 7, .exo 8, .exo 9, .exo 10, .exo 11, .exo 3, .exf 12 num, .exf 13 thg, .exf 14 nam, .exf 15 nam, .exf 16 num, .exf 17 num]
def rfs04 (k : Nat) : List D := (List.range 18).map fun i => .ref (k + i)
theorem all_eq (w num nam thg : D) (h : Hd) : f_law_all [w, .tup [num, nam, thg]] h = .ok (.lst (rfs04 h.length)) (h ++ exs num nam thg) := by
  have key : Rn (f_law_all [w, .tup [num, nam, thg]] h) fun r h' => r = .lst (rfs04 h.length) ∧ h' = h ++ exs num nam thg := by
    unfold f_law_all
    refine rf_fnK rfl (by simp only [List.map_cons, List.map_nil, List.cons_append, List.nil_append, List.replicate, Nat.reduceSub]; exact rfl) ?_
    and_intros
    repeat (first
      | (refine re_mkX ?_; and_intros)
      | (refine re_mkF ?_; and_intros)
      | (refine ⟨Nat.le_of_ble_eq_true rfl, ?_⟩; and_intros)
      | (refine rg_addLL (Nat.le_of_ble_eq_true rfl) ?_; and_intros))
    refine ⟨?_, by simp [exs]⟩
    simp [rfs04, List.range_succ, Nat.add_assoc]
  obtain ⟨d, h', e, rfl, rfl⟩ := key
  exact e
theorem Pen.app {c : List Int} {r h : Hd} {N : Int} (p : Pen c r h N) (es : List Ob) : Pen c (r ++ es) (h ++ es) N := by
  obtain ⟨t, a, rfl, b1, b2⟩ := p
  exact ⟨t, a, rfl, b1, b2⟩
theorem exs_at {num nam thg : D} {h : Hd} (i : Nat) : (h ++ exs num nam thg)[h.length + i]? = (exs num nam thg)[i]? := by
  rw [List.getElem?_append_right (by omega)]
  congr 1; omega
theorem ex_of {num nam thg : D} {h : Hd} {i : Nat} (hi : i < 18) : Ex (h ++ exs num nam thg) (h.length + i) (O18.getD i 0) := by
  unfold Ex
  rw [exs_at]
  have k : i = 0 ∨ i = 1 ∨ i = 2 ∨ i = 3 ∨ i = 4 ∨ i = 5 ∨ i = 6 ∨ i = 7 ∨ i = 8 ∨ i = 9 ∨ i = 10 ∨ i = 11 ∨ i = 12 ∨ i = 13 ∨ i = 14 ∨ i = 15 ∨ i = 16 ∨ i = 17 := by omega
  rcases k with rfl | rfl | rfl | rfl | rfl | rfl | rfl | rfl | rfl | rfl | rfl | rfl | rfl | rfl | rfl | rfl | rfl | rfl <;> first | exact .inl rfl | exact .inr ⟨_, rfl⟩
theorem kinds18 : ∀ i, i < 18 → (O18.map fun q => subP P18 q (O18.getD i 0)) = (List.range 18).map fun j => decide (j = i) := by decide +kernel
theorem rf_at {b i : Nat} (hi : i < 18) : (rfs04 b).getD i .non = .ref (b + i) := by simp [rfs04, List.getD_eq_getElem?_getD, hi]
theorem gIx_rf {b i : Nat} (hi : i < 18) (h : Hd) : gIx [.lst (rfs04 b), .int (i : Int)] h = .ok (.ref (b + i)) h := by
  have := gIx_at (xs := rfs04 b) (i := (i : Int)) (d := .lst (rfs04 b)) (h := h) rfl (by omega) (by simp [rfs04]; omega)
  rw [this]
  congr 1
  have e := rf_at (b := b) hi
  rw [List.getD_eq_getElem?_getD] at e
  simpa using e
theorem law_ok : ∀ ns : List Int, ns.length ≤ 63 → ∃ h', f_law04 [.scr ns] [] = .ok (.bl true) h' := by
  intro ns _
  have tm : TM = 1000000000 := rfl
  have key : Rn (f_law04 [.scr ns] []) fun d h => d = .bl true := by
    unfold f_law04
    refine rf_fnN rfl (by simp only [List.map_cons, List.map_nil, List.cons_append, List.nil_append, List.replicate, Nat.reduceSub]; exact rfl) ?_
    and_intros
    obtain ⟨c, e1⟩ := open_eq ns
    refine rn_eq e1 ?_
    and_intros
    refine rn_for0 (fun (i : Nat) => D.int (i : Int)) (List.range 3) (fun i σ h => ∃ w2 w3 w4 w5 w6 w7 w8 w9 w10 w11 : Option D, σ = [some (.scr ns), some (.ref 1), w2, w3, w4, w5, w6, w7, w8, w9, w10, w11] ∧ ∃ r, Pen c r h (20000 * i)) ⟨none, none, none, none, none, none, none, none, none, none, rfl, [], 0, 0, rfl, by omega, by omega⟩ (fun i xi σ h hx hI => ?_) fun σ h hI => ?_
    · obtain ⟨w2, w3, w4, w5, w6, w7, w8, w9, w10, w11, rfl, r, p⟩ := hI
      have hi : i < 3 := by
        have := (List.getElem?_eq_some_iff.mp hx).1
        simpa using this
      and_intros
      refine ⟨show 9 ≤ LIM by decide, ?_⟩
      and_intros
      refine rn_take (m := 9) p (by omega) (by decide) (by decide) fun z h1 z0 z1 p => ?_
      and_intros
      refine rg_ixL z0 (show z < 9 from z1) fun thg hthg => ?_
      have d1 : Dat 0 thg := by
        simp only [List.mem_cons, List.not_mem_nil, or_false] at hthg
        rcases hthg with rfl | rfl | rfl | rfl | rfl | rfl | rfl | rfl | rfl <;> exact .str _
      and_intros
      refine rn_take (m := 3) p (by omega) (by decide) (by decide) fun y h2 y0 y1 p => ?_
      and_intros
      refine rg_ixL y0 (show y < 3 from y1) fun w _ => ?_
      and_intros
      refine rn_eq (gPow10 30 (by decide) _) ?_
      and_intros
      refine rn_take (m := 10 ^ 30) p (by omega) (by decide) (by decide) fun x h3 x0 x1 p => ?_
      and_intros
      refine rn_take (m := 3) p (by omega) (by decide) (by decide) fun u h4 u0 u1 p => ?_
      and_intros
      refine rg_ixL u0 (show u < 3 from u1) fun num hnum => ?_
      have d2 : Dat 0 num := by
        simp only [List.mem_cons, List.not_mem_nil, or_false] at hnum
        rcases hnum with rfl | rfl | rfl <;> exact .int _
      and_intros
      refine rn_take (m := 3) p (by omega) (by decide) (by decide) fun v h5 v0 v1 p => ?_
      and_intros
      refine rg_ixL v0 (show v < 3 from v1) fun nam hnam => ?_
      have d3 : Dat 0 nam := by
        simp only [List.mem_cons, List.not_mem_nil, or_false] at hnam
        rcases hnam with rfl | rfl | rfl <;> exact .str _
      and_intros
      refine rn_eq (all_eq _ _ _ _ _) ?_
      have p := p.app (exs num nam thg)
      have xa : ∀ i, (h5 ++ exs num nam thg)[h5.length + i]? = (exs num nam thg)[i]? := exs_at
      have xo : ∀ i, i < 18 → Ex (h5 ++ exs num nam thg) (h5.length + i) (O18.getD i 0) := fun i hi => ex_of hi
      generalize h5 ++ exs num nam thg = h6 at p xa xo
      generalize h5.length = b at xa xo
      and_intros
      refine ⟨_, _, rfl, rfl, ?_⟩
      have l18 : (rfs04 b).length = 18 := by simp [rfs04]
      rw [l18]
      refine rn_for0 (fun (i : Nat) => D.tup [.int (i : Int), (rfs04 b).getD i .non]) (List.range 18) (fun k σ h => h = h6 ∧ ∃ w8 w9 w10 w11 : Option D, σ = [some (.scr ns), some (.ref 1), some (.int (xi : Int)), some thg, some w, some num, some nam, some (.lst (rfs04 b)), w8, w9, w10, w11]) ⟨rfl, _, _, _, _, rfl⟩ (fun k xk σ h hk hI => ?_) fun σ h hI => ?_
      · obtain ⟨rfl, w8, w9, w10, w11, rfl⟩ := hI
        obtain ⟨rfl, hk⟩ := rngA hk
        rw [rf_at hk]
        and_intros
        refine re_isXF ?_
        and_intros
        refine ⟨_, _, rfl, xo xk hk, ?_⟩
        and_intros
        refine ⟨fun z => (by cases z), fun _ => ?_⟩
        and_intros
        refine re_isXF ?_
        and_intros
        refine ⟨_, _, rfl, xo xk hk, ?_⟩
        and_intros
        refine ⟨fun z => (by cases z), fun _ => ?_⟩
        and_intros
        refine rn_eq (kinds_eq (xo xk hk)) ?_
        and_intros
        refine rn_lcP (fun (i : Nat) => D.int (i : Int)) (fun j => .bl (decide (j = xk))) (List.range 18) (fun j v hv => ?_) ?_
        · and_intros
          refine ⟨?_, rfl⟩
          congr 1
          simp
          exact Int.ofNat_inj
        refine rl_end (by simp; decide) ?_
        and_intros
        have e18 : (O18.map fun i => D.bl (subP P18 i (O18.getD xk 0))) = (List.range 18).map fun j => D.bl (decide (j = xk)) := by
          have := congrArg (List.map D.bl) (kinds18 xk hk)
          simpa [List.map_map, Function.comp_def] using this
        rw [e18]
        refine rn_same (.lst (k := 4) (by simp) fun d hd => ?_) ?_
        · obtain ⟨j, _, rfl⟩ := List.mem_map.mp hd
          exact .bl _
        and_intros
        refine ⟨fun z => (by cases z), fun _ => ?_⟩
        and_intros
        exact ⟨rfl, _, _, _, _, rfl⟩
      obtain ⟨rfl, w8, w9, w10, w11, rfl⟩ := hI
      and_intros
      refine re_xf ?_
      and_intros
      refine rn_eq (gIx_rf (i := 12) (by decide) _) ?_
      refine ⟨_, 12, _, rfl, (xa 12).trans rfl, rfl, ?_⟩
      and_intros
      refine re_xf ?_
      and_intros
      refine rn_eq (gIx_rf (i := 13) (by decide) _) ?_
      refine ⟨_, 13, _, rfl, (xa 13).trans rfl, rfl, ?_⟩
      and_intros
      refine re_xf ?_
      and_intros
      refine rn_eq (gIx_rf (i := 14) (by decide) _) ?_
      refine ⟨_, 14, _, rfl, (xa 14).trans rfl, rfl, ?_⟩
      and_intros
      refine re_xf ?_
      and_intros
      refine rn_eq (gIx_rf (i := 15) (by decide) _) ?_
      refine ⟨_, 15, _, rfl, (xa 15).trans rfl, rfl, ?_⟩
      and_intros
      refine re_xf ?_
      and_intros
      refine rn_eq (gIx_rf (i := 16) (by decide) _) ?_
      refine ⟨_, 16, _, rfl, (xa 16).trans rfl, rfl, ?_⟩
      and_intros
      refine re_xf ?_
      and_intros
      refine rn_eq (gIx_rf (i := 17) (by decide) _) ?_
      refine ⟨_, 17, _, rfl, (xa 17).trans rfl, rfl, ?_⟩
      and_intros
      refine rn_same (.lst (k := 4) (show 6 ≤ 10000 by decide) fun d hd => ?_) ?_
      · simp only [List.mem_cons, List.not_mem_nil, or_false] at hd
        rcases hd with rfl | rfl | rfl | rfl | rfl | rfl
        · exact d2.le (by decide)
        · exact d1.le (by decide)
        · exact d3.le (by decide)
        · exact d3.le (by decide)
        · exact d2.le (by decide)
        · exact d2.le (by decide)
      and_intros
      refine ⟨fun z => (by cases z), fun _ => ?_⟩
      and_intros
      exact ⟨_, _, _, _, _, _, _, _, _, _, rfl, _, p.mono (by omega)⟩
    · obtain ⟨w2, w3, w4, w5, w6, w7, w8, w9, w10, w11, rfl, r, p⟩ := hI
      and_intros
      obtain ⟨t, a, rfl, _, _⟩ := p
      exact ⟨.bl true, [], fin_app (h := []) rfl, rfl⟩
  obtain ⟨d, h', e, rfl⟩ := key
  exact ⟨h', e⟩
end BR

open PySem PySem.W PyProof.Rows
set_option maxRecDepth 100000 in
set_option maxHeartbeats 0 in
theorem PySem.Challenge.cw_burnrank_k04_refusals_holds : PySem.Challenge.rw_burnrank_k04_refusals.Holds := by
  w_on; o_law; k_head; (case hw => w_witness2)
  k_fill
  refine BR.walk_end (l := PySem.Challenge.rw_burnrank_k04_refusals) (k := 7) (x := "_law_script") rfl rfl (by decide) (fun w h Y => PySem.W.kIn_of Y) ?F
  case F =>
    intro w mg fa h KX G hmg
    refine' BR.all_law KX G hmg BR.law_ok ?ba0 ?bl0 ?bc0 ?bk0 ?ba1 ?bl1 ?bc1 ?bk1 ?ba2 ?bl2 ?bc2 ?bk2 ?ba3 ?bl3 ?bc3 ?bk3 ?ba4 ?bl4 ?bc4 ?bk4 ?ba5 ?bl5 ?bc5 ?bk5 ?ba6 ?bl6 ?bc6 ?bk6 ?bz0 ?bz1 ?bz2 ?bz3 ?bz4 ?bz5 ?bz6 ?bz7 ?bz8 ?bz9 ?bz10 ?bz11 ?bz12 ?bz13 ?bz14 ?bz15 ?bz16 ?bz17 ?bxaB ?bxa0 ?bxa1 ?bxa2 ?bxa3 ?bxa4 ?bxa5 ?bxa6 ?bxa7 ?bxa8 ?bxa9 ?bxa10 ?bxa11 ?bxa12 ?bxa13 ?bxa14 ?bxa15 ?bxa16 ?bxa17 ?bxq0 ?bxp0 ?bxs0 ?bxt0 ?bxg0 ?bxh0 ?bxd0 ?bxc0 ?bxm0 ?bxkb0 ?bxkv0 ?bxq1 ?bxp1 ?bxs1 ?bxt1 ?bxg1 ?bxh1 ?bxd1 ?bxc1 ?bxm1 ?bxkb1 ?bxkv1 ?bxq2 ?bxp2 ?bxs2 ?bxt2 ?bxg2 ?bxh2 ?bxd2 ?bxc2 ?bxm2 ?bxkb2 ?bxkv2 ?bxq3 ?bxp3 ?bxs3 ?bxt3 ?bxg3 ?bxh3 ?bxd3 ?bxc3 ?bxm3 ?bxkb3 ?bxkv3 ?bxq4 ?bxp4 ?bxs4 ?bxt4 ?bxg4 ?bxh4 ?bxd4 ?bxc4 ?bxm4 ?bxkb4 ?bxkv4 ?bxq5 ?bxp5 ?bxs5 ?bxt5 ?bxg5 ?bxh5 ?bxd5 ?bxc5 ?bxm5 ?bxkb5 ?bxkv5 ?bxq6 ?bxp6 ?bxs6 ?bxt6 ?bxg6 ?bxh6 ?bxd6 ?bxc6 ?bxm6 ?bxkb6 ?bxkv6 ?bxq7 ?bxp7 ?bxs7 ?bxt7 ?bxg7 ?bxh7 ?bxd7 ?bxc7 ?bxm7 ?bxkb7 ?bxkv7 ?bxq8 ?bxp8 ?bxs8 ?bxt8 ?bxg8 ?bxh8 ?bxd8 ?bxc8 ?bxm8 ?bxkb8 ?bxkv8 ?bxq9 ?bxp9 ?bxs9 ?bxt9 ?bxg9 ?bxh9 ?bxd9 ?bxc9 ?bxm9 ?bxkb9 ?bxkv9 ?bxq10 ?bxp10 ?bxs10 ?bxt10 ?bxg10 ?bxh10 ?bxd10 ?bxc10 ?bxm10 ?bxkb10 ?bxkv10 ?bxq11 ?bxp11 ?bxs11 ?bxt11 ?bxg11 ?bxh11 ?bxd11 ?bxc11 ?bxm11 ?bxkb11 ?bxkv11 ?bxoi12 ?bxp12 ?bxs12 ?bxt12 ?bxg12 ?bxh12 ?bxd12 ?bxc12 ?bxm12 ?bxkb12 ?bxkv12 ?bxoi13 ?bxp13 ?bxs13 ?bxt13 ?bxg13 ?bxh13 ?bxd13 ?bxc13 ?bxm13 ?bxkb13 ?bxkv13 ?bxoi14 ?bxp14 ?bxs14 ?bxt14 ?bxg14 ?bxh14 ?bxd14 ?bxc14 ?bxm14 ?bxkb14 ?bxkv14 ?bxoi15 ?bxp15 ?bxs15 ?bxt15 ?bxg15 ?bxh15 ?bxd15 ?bxc15 ?bxm15 ?bxkb15 ?bxkv15 ?bxoi16 ?bxp16 ?bxs16 ?bxt16 ?bxg16 ?bxh16 ?bxd16 ?bxc16 ?bxm16 ?bxkb16 ?bxkv16 ?bxoi17 ?bxp17 ?bxs17 ?bxt17 ?bxg17 ?bxh17 ?bxd17 ?bxc17 ?bxm17 ?bxkb17 ?bxkv17 ?bxsa12 ?bxia12 ?bxil12 ?bxic12 ?bxik12 ?bxit12 ?bxin12 ?bxsa13 ?bxia13 ?bxil13 ?bxic13 ?bxik13 ?bxit13 ?bxin13 ?bxsa14 ?bxia14 ?bxil14 ?bxic14 ?bxik14 ?bxit14 ?bxin14 ?bxsa15 ?bxia15 ?bxil15 ?bxic15 ?bxik15 ?bxit15 ?bxin15 ?bxsa16 ?bxia16 ?bxil16 ?bxic16 ?bxik16 ?bxit16 ?bxin16 ?bxsa17 ?bxia17 ?bxil17 ?bxic17 ?bxik17 ?bxit17 ?bxin17 ?bxbm ?bxbr ?bxbf ?bxbg ?bxnb ?bxnv ?bxzv ?bxcn ?bxct ?bxw0_0 ?bxw1_0 ?bxw2_0 ?bxw3_0 ?bxw4_0 ?bxw5_0 ?bxw6_0 ?bxw7_0 ?bxw8_0 ?bxw9_0 ?bxw10_0 ?bxw11_0 ?bxw12_0 ?bxw13_0 ?bxw14_0 ?bxw15_0 ?bxw16_0 ?bxw17_0 ?bxv0 ?bxw0_1 ?bxw1_1 ?bxw2_1 ?bxw3_1 ?bxw4_1 ?bxw5_1 ?bxw6_1 ?bxw7_1 ?bxw8_1 ?bxw9_1 ?bxw10_1 ?bxw11_1 ?bxw12_1 ?bxw13_1 ?bxw14_1 ?bxw15_1 ?bxw16_1 ?bxw17_1 ?bxv1 ?bxw0_2 ?bxw1_2 ?bxw2_2 ?bxw3_2 ?bxw4_2 ?bxw5_2 ?bxw6_2 ?bxw7_2 ?bxw8_2 ?bxw9_2 ?bxw10_2 ?bxw11_2 ?bxw12_2 ?bxw13_2 ?bxw14_2 ?bxw15_2 ?bxw16_2 ?bxw17_2 ?bxv2 ?bxw0_4 ?bxw1_4 ?bxw2_4 ?bxw3_4 ?bxw4_4 ?bxw5_4 ?bxw6_4 ?bxw7_4 ?bxw8_4 ?bxw9_4 ?bxw10_4 ?bxw11_4 ?bxw12_4 ?bxw13_4 ?bxw14_4 ?bxw15_4 ?bxw16_4 ?bxw17_4 ?bxv4 ?bxw0_5 ?bxw1_5 ?bxw2_5 ?bxw3_5 ?bxw4_5 ?bxw5_5 ?bxw6_5 ?bxw7_5 ?bxw8_5 ?bxw9_5 ?bxw10_5 ?bxw11_5 ?bxw12_5 ?bxw13_5 ?bxw14_5 ?bxw15_5 ?bxw16_5 ?bxw17_5 ?bxv5 ?bxw0_6 ?bxw1_6 ?bxw2_6 ?bxw3_6 ?bxw4_6 ?bxw5_6 ?bxw6_6 ?bxw7_6 ?bxw8_6 ?bxw9_6 ?bxw10_6 ?bxw11_6 ?bxw12_6 ?bxw13_6 ?bxw14_6 ?bxw15_6 ?bxw16_6 ?bxw17_6 ?bxv6 ?bxw0_7 ?bxw1_7 ?bxw2_7 ?bxw3_7 ?bxw4_7 ?bxw5_7 ?bxw6_7 ?bxw7_7 ?bxw8_7 ?bxw9_7 ?bxw10_7 ?bxw11_7 ?bxw12_7 ?bxw13_7 ?bxw14_7 ?bxw15_7 ?bxw16_7 ?bxw17_7 ?bxv7 ?bxw0_8 ?bxw1_8 ?bxw2_8 ?bxw3_8 ?bxw4_8 ?bxw5_8 ?bxw6_8 ?bxw7_8 ?bxw8_8 ?bxw9_8 ?bxw10_8 ?bxw11_8 ?bxw12_8 ?bxw13_8 ?bxw14_8 ?bxw15_8 ?bxw16_8 ?bxw17_8 ?bxv8 ?bxw0_9 ?bxw1_9 ?bxw2_9 ?bxw3_9 ?bxw4_9 ?bxw5_9 ?bxw6_9 ?bxw7_9 ?bxw8_9 ?bxw9_9 ?bxw10_9 ?bxw11_9 ?bxw12_9 ?bxw13_9 ?bxw14_9 ?bxw15_9 ?bxw16_9 ?bxw17_9 ?bxv9 ?bxw0_10 ?bxw1_10 ?bxw2_10 ?bxw3_10 ?bxw4_10 ?bxw5_10 ?bxw6_10 ?bxw7_10 ?bxw8_10 ?bxw9_10 ?bxw10_10 ?bxw11_10 ?bxw12_10 ?bxw13_10 ?bxw14_10 ?bxw15_10 ?bxw16_10 ?bxw17_10 ?bxv10 ?bxw0_11 ?bxw1_11 ?bxw2_11 ?bxw3_11 ?bxw4_11 ?bxw5_11 ?bxw6_11 ?bxw7_11 ?bxw8_11 ?bxw9_11 ?bxw10_11 ?bxw11_11 ?bxw12_11 ?bxw13_11 ?bxw14_11 ?bxw15_11 ?bxw16_11 ?bxw17_11 ?bxv11 ?bxw0_3 ?bxw1_3 ?bxw2_3 ?bxw3_3 ?bxw4_3 ?bxw5_3 ?bxw6_3 ?bxw7_3 ?bxw8_3 ?bxw9_3 ?bxw10_3 ?bxw11_3 ?bxw12_3 ?bxw13_3 ?bxw14_3 ?bxw15_3 ?bxw16_3 ?bxw17_3 ?bxv3 ?bxw0_12 ?bxw1_12 ?bxw2_12 ?bxw3_12 ?bxw4_12 ?bxw5_12 ?bxw6_12 ?bxw7_12 ?bxw8_12 ?bxw9_12 ?bxw10_12 ?bxw11_12 ?bxw12_12 ?bxw13_12 ?bxw14_12 ?bxw15_12 ?bxw16_12 ?bxw17_12 ?bxv12 ?bxw0_13 ?bxw1_13 ?bxw2_13 ?bxw3_13 ?bxw4_13 ?bxw5_13 ?bxw6_13 ?bxw7_13 ?bxw8_13 ?bxw9_13 ?bxw10_13 ?bxw11_13 ?bxw12_13 ?bxw13_13 ?bxw14_13 ?bxw15_13 ?bxw16_13 ?bxw17_13 ?bxv13 ?bxw0_14 ?bxw1_14 ?bxw2_14 ?bxw3_14 ?bxw4_14 ?bxw5_14 ?bxw6_14 ?bxw7_14 ?bxw8_14 ?bxw9_14 ?bxw10_14 ?bxw11_14 ?bxw12_14 ?bxw13_14 ?bxw14_14 ?bxw15_14 ?bxw16_14 ?bxw17_14 ?bxv14 ?bxw0_15 ?bxw1_15 ?bxw2_15 ?bxw3_15 ?bxw4_15 ?bxw5_15 ?bxw6_15 ?bxw7_15 ?bxw8_15 ?bxw9_15 ?bxw10_15 ?bxw11_15 ?bxw12_15 ?bxw13_15 ?bxw14_15 ?bxw15_15 ?bxw16_15 ?bxw17_15 ?bxv15 ?bxw0_16 ?bxw1_16 ?bxw2_16 ?bxw3_16 ?bxw4_16 ?bxw5_16 ?bxw6_16 ?bxw7_16 ?bxw8_16 ?bxw9_16 ?bxw10_16 ?bxw11_16 ?bxw12_16 ?bxw13_16 ?bxw14_16 ?bxw15_16 ?bxw16_16 ?bxw17_16 ?bxv16 ?bxw0_17 ?bxw1_17 ?bxw2_17 ?bxw3_17 ?bxw4_17 ?bxw5_17 ?bxw6_17 ?bxw7_17 ?bxw8_17 ?bxw9_17 ?bxw10_17 ?bxw11_17 ?bxw12_17 ?bxw13_17 ?bxw14_17 ?bxw15_17 ?bxw16_17 ?bxw17_17 ?bxv17
    (case ba0 => k_is)
    (case bl0 => k_is)
    (case bc0 => k_is)
    (case bk0 => k_is)
    (case ba1 => k_is)
    (case bl1 => k_is)
    (case bc1 => k_is)
    (case bk1 => k_is)
    (case ba2 => k_is)
    (case bl2 => k_is)
    (case bc2 => k_is)
    (case bk2 => k_is)
    (case ba3 => k_is)
    (case bl3 => k_is)
    (case bc3 => k_is)
    (case bk3 => k_is)
    (case ba4 => k_is)
    (case bl4 => k_is)
    (case bc4 => k_is)
    (case bk4 => k_is)
    (case ba5 => k_is)
    (case bl5 => k_is)
    (case bc5 => k_is)
    (case bk5 => k_is)
    (case ba6 => k_is)
    (case bl6 => k_is)
    (case bc6 => k_is)
    (case bk6 => k_is)
    (case bz0 => k_is)
    (case bz1 => k_is)
    (case bz2 => k_is)
    (case bz3 => k_is)
    (case bz4 => k_is)
    (case bz5 => k_is)
    (case bz6 => k_is)
    (case bz7 => k_is)
    (case bz8 => k_is)
    (case bz9 => k_is)
    (case bz10 => k_is)
    (case bz11 => k_is)
    (case bz12 => k_is)
    (case bz13 => k_is)
    (case bz14 => k_is)
    (case bz15 => k_is)
    (case bz16 => k_is)
    (case bz17 => k_is)
    (case bxaB => k_is)
    (case bxa0 => k_is)
    (case bxa1 => k_is)
    (case bxa2 => k_is)
    (case bxa3 => k_is)
    (case bxa4 => k_is)
    (case bxa5 => k_is)
    (case bxa6 => k_is)
    (case bxa7 => k_is)
    (case bxa8 => k_is)
    (case bxa9 => k_is)
    (case bxa10 => k_is)
    (case bxa11 => k_is)
    (case bxa12 => k_is)
    (case bxa13 => k_is)
    (case bxa14 => k_is)
    (case bxa15 => k_is)
    (case bxa16 => k_is)
    (case bxa17 => k_is)
    (case bxq0 => k_exc)
    (case bxp0 => k_is)
    (case bxs0 => k_is)
    (case bxt0 => k_is)
    (case bxg0 => k_is)
    (case bxh0 => k_is)
    (case bxd0 => k_is)
    (case bxc0 => k_is)
    (case bxm0 => k_is)
    (case bxkb0 => kit_is)
    (case bxkv0 => kit_is)
    (case bxq1 => k_exc)
    (case bxp1 => k_is)
    (case bxs1 => k_is)
    (case bxt1 => k_is)
    (case bxg1 => k_is)
    (case bxh1 => k_is)
    (case bxd1 => k_is)
    (case bxc1 => k_is)
    (case bxm1 => k_is)
    (case bxkb1 => kit_is)
    (case bxkv1 => kit_is)
    (case bxq2 => k_exc)
    (case bxp2 => k_is)
    (case bxs2 => k_is)
    (case bxt2 => k_is)
    (case bxg2 => k_is)
    (case bxh2 => k_is)
    (case bxd2 => k_is)
    (case bxc2 => k_is)
    (case bxm2 => k_is)
    (case bxkb2 => kit_is)
    (case bxkv2 => kit_is)
    (case bxq3 => k_exc)
    (case bxp3 => k_is)
    (case bxs3 => k_is)
    (case bxt3 => k_is)
    (case bxg3 => k_is)
    (case bxh3 => k_is)
    (case bxd3 => k_is)
    (case bxc3 => k_is)
    (case bxm3 => k_is)
    (case bxkb3 => kit_is)
    (case bxkv3 => kit_is)
    (case bxq4 => k_exc)
    (case bxp4 => k_is)
    (case bxs4 => k_is)
    (case bxt4 => k_is)
    (case bxg4 => k_is)
    (case bxh4 => k_is)
    (case bxd4 => k_is)
    (case bxc4 => k_is)
    (case bxm4 => k_is)
    (case bxkb4 => kit_is)
    (case bxkv4 => kit_is)
    (case bxq5 => k_exc)
    (case bxp5 => k_is)
    (case bxs5 => k_is)
    (case bxt5 => k_is)
    (case bxg5 => k_is)
    (case bxh5 => k_is)
    (case bxd5 => k_is)
    (case bxc5 => k_is)
    (case bxm5 => k_is)
    (case bxkb5 => kit_is)
    (case bxkv5 => kit_is)
    (case bxq6 => k_exc)
    (case bxp6 => k_is)
    (case bxs6 => k_is)
    (case bxt6 => k_is)
    (case bxg6 => k_is)
    (case bxh6 => k_is)
    (case bxd6 => k_is)
    (case bxc6 => k_is)
    (case bxm6 => k_is)
    (case bxkb6 => kit_is)
    (case bxkv6 => kit_is)
    (case bxq7 => k_exc)
    (case bxp7 => k_is)
    (case bxs7 => k_is)
    (case bxt7 => k_is)
    (case bxg7 => k_is)
    (case bxh7 => k_is)
    (case bxd7 => k_is)
    (case bxc7 => k_is)
    (case bxm7 => k_is)
    (case bxkb7 => kit_is)
    (case bxkv7 => kit_is)
    (case bxq8 => k_exc)
    (case bxp8 => k_is)
    (case bxs8 => k_is)
    (case bxt8 => k_is)
    (case bxg8 => k_is)
    (case bxh8 => k_is)
    (case bxd8 => k_is)
    (case bxc8 => k_is)
    (case bxm8 => k_is)
    (case bxkb8 => kit_is)
    (case bxkv8 => kit_is)
    (case bxq9 => k_exc)
    (case bxp9 => k_is)
    (case bxs9 => k_is)
    (case bxt9 => k_is)
    (case bxg9 => k_is)
    (case bxh9 => k_is)
    (case bxd9 => k_is)
    (case bxc9 => k_is)
    (case bxm9 => k_is)
    (case bxkb9 => kit_is)
    (case bxkv9 => kit_is)
    (case bxq10 => k_exc)
    (case bxp10 => k_is)
    (case bxs10 => k_is)
    (case bxt10 => k_is)
    (case bxg10 => k_is)
    (case bxh10 => k_is)
    (case bxd10 => k_is)
    (case bxc10 => k_is)
    (case bxm10 => k_is)
    (case bxkb10 => kit_is)
    (case bxkv10 => kit_is)
    (case bxq11 => k_exc)
    (case bxp11 => k_is)
    (case bxs11 => k_is)
    (case bxt11 => k_is)
    (case bxg11 => k_is)
    (case bxh11 => k_is)
    (case bxd11 => k_is)
    (case bxc11 => k_is)
    (case bxm11 => k_is)
    (case bxkb11 => kit_is)
    (case bxkv11 => kit_is)
    (case bxoi12 => kernel_rfl)
    (case bxp12 => k_is)
    (case bxs12 => k_is)
    (case bxt12 => k_is)
    (case bxg12 => k_is)
    (case bxh12 => k_is)
    (case bxd12 => k_is)
    (case bxc12 => k_is)
    (case bxm12 => k_is)
    (case bxkb12 => kit_is)
    (case bxkv12 => kit_is)
    (case bxoi13 => kernel_rfl)
    (case bxp13 => k_is)
    (case bxs13 => k_is)
    (case bxt13 => k_is)
    (case bxg13 => k_is)
    (case bxh13 => k_is)
    (case bxd13 => k_is)
    (case bxc13 => k_is)
    (case bxm13 => k_is)
    (case bxkb13 => kit_is)
    (case bxkv13 => kit_is)
    (case bxoi14 => kernel_rfl)
    (case bxp14 => k_is)
    (case bxs14 => k_is)
    (case bxt14 => k_is)
    (case bxg14 => k_is)
    (case bxh14 => k_is)
    (case bxd14 => k_is)
    (case bxc14 => k_is)
    (case bxm14 => k_is)
    (case bxkb14 => kit_is)
    (case bxkv14 => kit_is)
    (case bxoi15 => kernel_rfl)
    (case bxp15 => k_is)
    (case bxs15 => k_is)
    (case bxt15 => k_is)
    (case bxg15 => k_is)
    (case bxh15 => k_is)
    (case bxd15 => k_is)
    (case bxc15 => k_is)
    (case bxm15 => k_is)
    (case bxkb15 => kit_is)
    (case bxkv15 => kit_is)
    (case bxoi16 => kernel_rfl)
    (case bxp16 => k_is)
    (case bxs16 => k_is)
    (case bxt16 => k_is)
    (case bxg16 => k_is)
    (case bxh16 => k_is)
    (case bxd16 => k_is)
    (case bxc16 => k_is)
    (case bxm16 => k_is)
    (case bxkb16 => kit_is)
    (case bxkv16 => kit_is)
    (case bxoi17 => kernel_rfl)
    (case bxp17 => k_is)
    (case bxs17 => k_is)
    (case bxt17 => k_is)
    (case bxg17 => k_is)
    (case bxh17 => k_is)
    (case bxd17 => k_is)
    (case bxc17 => k_is)
    (case bxm17 => k_is)
    (case bxkb17 => kit_is)
    (case bxkv17 => kit_is)
    (case bxsa12 => first | k_is | kernel_rfl)
    (case bxia12 => first | k_is | kernel_rfl)
    (case bxil12 => first | k_is | kernel_rfl)
    (case bxic12 => k_is)
    (case bxik12 => k_is)
    (case bxit12 => first | k_is | kernel_rfl)
    (case bxin12 => first | k_is | kernel_rfl)
    (case bxsa13 => first | k_is | kernel_rfl)
    (case bxia13 => first | k_is | kernel_rfl)
    (case bxil13 => first | k_is | kernel_rfl)
    (case bxic13 => k_is)
    (case bxik13 => k_is)
    (case bxit13 => first | k_is | kernel_rfl)
    (case bxin13 => first | k_is | kernel_rfl)
    (case bxsa14 => first | k_is | kernel_rfl)
    (case bxia14 => first | k_is | kernel_rfl)
    (case bxil14 => first | k_is | kernel_rfl)
    (case bxic14 => k_is)
    (case bxik14 => k_is)
    (case bxit14 => first | k_is | kernel_rfl)
    (case bxin14 => first | k_is | kernel_rfl)
    (case bxsa15 => first | k_is | kernel_rfl)
    (case bxia15 => first | k_is | kernel_rfl)
    (case bxil15 => first | k_is | kernel_rfl)
    (case bxic15 => k_is)
    (case bxik15 => k_is)
    (case bxit15 => first | k_is | kernel_rfl)
    (case bxin15 => first | k_is | kernel_rfl)
    (case bxsa16 => first | k_is | kernel_rfl)
    (case bxia16 => first | k_is | kernel_rfl)
    (case bxil16 => first | k_is | kernel_rfl)
    (case bxic16 => k_is)
    (case bxik16 => k_is)
    (case bxit16 => first | k_is | kernel_rfl)
    (case bxin16 => first | k_is | kernel_rfl)
    (case bxsa17 => first | k_is | kernel_rfl)
    (case bxia17 => first | k_is | kernel_rfl)
    (case bxil17 => first | k_is | kernel_rfl)
    (case bxic17 => k_is)
    (case bxik17 => k_is)
    (case bxit17 => first | k_is | kernel_rfl)
    (case bxin17 => first | k_is | kernel_rfl)
    (case bxbm => first | k_is | kernel_rfl)
    (case bxbr => first | k_is | kernel_rfl)
    (case bxbf => first | k_is | kernel_rfl)
    (case bxbg => first | k_is | kernel_rfl)
    (case bxnb => kit_is)
    (case bxnv => kit_is)
    (case bxzv => k_is)
    (case bxcn => k_is)
    (case bxct => k_is)
    (case bxw0_0 => kit_is)
    (case bxw1_0 => kit_is)
    (case bxw2_0 => kit_is)
    (case bxw3_0 => kit_is)
    (case bxw4_0 => kit_is)
    (case bxw5_0 => kit_is)
    (case bxw6_0 => kit_is)
    (case bxw7_0 => kit_is)
    (case bxw8_0 => kit_is)
    (case bxw9_0 => kit_is)
    (case bxw10_0 => kit_is)
    (case bxw11_0 => kit_is)
    (case bxw12_0 => kit_is)
    (case bxw13_0 => kit_is)
    (case bxw14_0 => kit_is)
    (case bxw15_0 => kit_is)
    (case bxw16_0 => kit_is)
    (case bxw17_0 => kit_is)
    (case bxv0 => kit_is)
    (case bxw0_1 => kit_is)
    (case bxw1_1 => kit_is)
    (case bxw2_1 => kit_is)
    (case bxw3_1 => kit_is)
    (case bxw4_1 => kit_is)
    (case bxw5_1 => kit_is)
    (case bxw6_1 => kit_is)
    (case bxw7_1 => kit_is)
    (case bxw8_1 => kit_is)
    (case bxw9_1 => kit_is)
    (case bxw10_1 => kit_is)
    (case bxw11_1 => kit_is)
    (case bxw12_1 => kit_is)
    (case bxw13_1 => kit_is)
    (case bxw14_1 => kit_is)
    (case bxw15_1 => kit_is)
    (case bxw16_1 => kit_is)
    (case bxw17_1 => kit_is)
    (case bxv1 => kit_is)
    (case bxw0_2 => kit_is)
    (case bxw1_2 => kit_is)
    (case bxw2_2 => kit_is)
    (case bxw3_2 => kit_is)
    (case bxw4_2 => kit_is)
    (case bxw5_2 => kit_is)
    (case bxw6_2 => kit_is)
    (case bxw7_2 => kit_is)
    (case bxw8_2 => kit_is)
    (case bxw9_2 => kit_is)
    (case bxw10_2 => kit_is)
    (case bxw11_2 => kit_is)
    (case bxw12_2 => kit_is)
    (case bxw13_2 => kit_is)
    (case bxw14_2 => kit_is)
    (case bxw15_2 => kit_is)
    (case bxw16_2 => kit_is)
    (case bxw17_2 => kit_is)
    (case bxv2 => kit_is)
    (case bxw0_4 => kit_is)
    (case bxw1_4 => kit_is)
    (case bxw2_4 => kit_is)
    (case bxw3_4 => kit_is)
    (case bxw4_4 => kit_is)
    (case bxw5_4 => kit_is)
    (case bxw6_4 => kit_is)
    (case bxw7_4 => kit_is)
    (case bxw8_4 => kit_is)
    (case bxw9_4 => kit_is)
    (case bxw10_4 => kit_is)
    (case bxw11_4 => kit_is)
    (case bxw12_4 => kit_is)
    (case bxw13_4 => kit_is)
    (case bxw14_4 => kit_is)
    (case bxw15_4 => kit_is)
    (case bxw16_4 => kit_is)
    (case bxw17_4 => kit_is)
    (case bxv4 => kit_is)
    (case bxw0_5 => kit_is)
    (case bxw1_5 => kit_is)
    (case bxw2_5 => kit_is)
    (case bxw3_5 => kit_is)
    (case bxw4_5 => kit_is)
    (case bxw5_5 => kit_is)
    (case bxw6_5 => kit_is)
    (case bxw7_5 => kit_is)
    (case bxw8_5 => kit_is)
    (case bxw9_5 => kit_is)
    (case bxw10_5 => kit_is)
    (case bxw11_5 => kit_is)
    (case bxw12_5 => kit_is)
    (case bxw13_5 => kit_is)
    (case bxw14_5 => kit_is)
    (case bxw15_5 => kit_is)
    (case bxw16_5 => kit_is)
    (case bxw17_5 => kit_is)
    (case bxv5 => kit_is)
    (case bxw0_6 => kit_is)
    (case bxw1_6 => kit_is)
    (case bxw2_6 => kit_is)
    (case bxw3_6 => kit_is)
    (case bxw4_6 => kit_is)
    (case bxw5_6 => kit_is)
    (case bxw6_6 => kit_is)
    (case bxw7_6 => kit_is)
    (case bxw8_6 => kit_is)
    (case bxw9_6 => kit_is)
    (case bxw10_6 => kit_is)
    (case bxw11_6 => kit_is)
    (case bxw12_6 => kit_is)
    (case bxw13_6 => kit_is)
    (case bxw14_6 => kit_is)
    (case bxw15_6 => kit_is)
    (case bxw16_6 => kit_is)
    (case bxw17_6 => kit_is)
    (case bxv6 => kit_is)
    (case bxw0_7 => kit_is)
    (case bxw1_7 => kit_is)
    (case bxw2_7 => kit_is)
    (case bxw3_7 => kit_is)
    (case bxw4_7 => kit_is)
    (case bxw5_7 => kit_is)
    (case bxw6_7 => kit_is)
    (case bxw7_7 => kit_is)
    (case bxw8_7 => kit_is)
    (case bxw9_7 => kit_is)
    (case bxw10_7 => kit_is)
    (case bxw11_7 => kit_is)
    (case bxw12_7 => kit_is)
    (case bxw13_7 => kit_is)
    (case bxw14_7 => kit_is)
    (case bxw15_7 => kit_is)
    (case bxw16_7 => kit_is)
    (case bxw17_7 => kit_is)
    (case bxv7 => kit_is)
    (case bxw0_8 => kit_is)
    (case bxw1_8 => kit_is)
    (case bxw2_8 => kit_is)
    (case bxw3_8 => kit_is)
    (case bxw4_8 => kit_is)
    (case bxw5_8 => kit_is)
    (case bxw6_8 => kit_is)
    (case bxw7_8 => kit_is)
    (case bxw8_8 => kit_is)
    (case bxw9_8 => kit_is)
    (case bxw10_8 => kit_is)
    (case bxw11_8 => kit_is)
    (case bxw12_8 => kit_is)
    (case bxw13_8 => kit_is)
    (case bxw14_8 => kit_is)
    (case bxw15_8 => kit_is)
    (case bxw16_8 => kit_is)
    (case bxw17_8 => kit_is)
    (case bxv8 => kit_is)
    (case bxw0_9 => kit_is)
    (case bxw1_9 => kit_is)
    (case bxw2_9 => kit_is)
    (case bxw3_9 => kit_is)
    (case bxw4_9 => kit_is)
    (case bxw5_9 => kit_is)
    (case bxw6_9 => kit_is)
    (case bxw7_9 => kit_is)
    (case bxw8_9 => kit_is)
    (case bxw9_9 => kit_is)
    (case bxw10_9 => kit_is)
    (case bxw11_9 => kit_is)
    (case bxw12_9 => kit_is)
    (case bxw13_9 => kit_is)
    (case bxw14_9 => kit_is)
    (case bxw15_9 => kit_is)
    (case bxw16_9 => kit_is)
    (case bxw17_9 => kit_is)
    (case bxv9 => kit_is)
    (case bxw0_10 => kit_is)
    (case bxw1_10 => kit_is)
    (case bxw2_10 => kit_is)
    (case bxw3_10 => kit_is)
    (case bxw4_10 => kit_is)
    (case bxw5_10 => kit_is)
    (case bxw6_10 => kit_is)
    (case bxw7_10 => kit_is)
    (case bxw8_10 => kit_is)
    (case bxw9_10 => kit_is)
    (case bxw10_10 => kit_is)
    (case bxw11_10 => kit_is)
    (case bxw12_10 => kit_is)
    (case bxw13_10 => kit_is)
    (case bxw14_10 => kit_is)
    (case bxw15_10 => kit_is)
    (case bxw16_10 => kit_is)
    (case bxw17_10 => kit_is)
    (case bxv10 => kit_is)
    (case bxw0_11 => kit_is)
    (case bxw1_11 => kit_is)
    (case bxw2_11 => kit_is)
    (case bxw3_11 => kit_is)
    (case bxw4_11 => kit_is)
    (case bxw5_11 => kit_is)
    (case bxw6_11 => kit_is)
    (case bxw7_11 => kit_is)
    (case bxw8_11 => kit_is)
    (case bxw9_11 => kit_is)
    (case bxw10_11 => kit_is)
    (case bxw11_11 => kit_is)
    (case bxw12_11 => kit_is)
    (case bxw13_11 => kit_is)
    (case bxw14_11 => kit_is)
    (case bxw15_11 => kit_is)
    (case bxw16_11 => kit_is)
    (case bxw17_11 => kit_is)
    (case bxv11 => kit_is)
    (case bxw0_3 => kit_is)
    (case bxw1_3 => kit_is)
    (case bxw2_3 => kit_is)
    (case bxw3_3 => kit_is)
    (case bxw4_3 => kit_is)
    (case bxw5_3 => kit_is)
    (case bxw6_3 => kit_is)
    (case bxw7_3 => kit_is)
    (case bxw8_3 => kit_is)
    (case bxw9_3 => kit_is)
    (case bxw10_3 => kit_is)
    (case bxw11_3 => kit_is)
    (case bxw12_3 => kit_is)
    (case bxw13_3 => kit_is)
    (case bxw14_3 => kit_is)
    (case bxw15_3 => kit_is)
    (case bxw16_3 => kit_is)
    (case bxw17_3 => kit_is)
    (case bxv3 => kit_is)
    (case bxw0_12 => kit_is)
    (case bxw1_12 => kit_is)
    (case bxw2_12 => kit_is)
    (case bxw3_12 => kit_is)
    (case bxw4_12 => kit_is)
    (case bxw5_12 => kit_is)
    (case bxw6_12 => kit_is)
    (case bxw7_12 => kit_is)
    (case bxw8_12 => kit_is)
    (case bxw9_12 => kit_is)
    (case bxw10_12 => kit_is)
    (case bxw11_12 => kit_is)
    (case bxw12_12 => kit_is)
    (case bxw13_12 => kit_is)
    (case bxw14_12 => kit_is)
    (case bxw15_12 => kit_is)
    (case bxw16_12 => kit_is)
    (case bxw17_12 => kit_is)
    (case bxv12 => kit_is)
    (case bxw0_13 => kit_is)
    (case bxw1_13 => kit_is)
    (case bxw2_13 => kit_is)
    (case bxw3_13 => kit_is)
    (case bxw4_13 => kit_is)
    (case bxw5_13 => kit_is)
    (case bxw6_13 => kit_is)
    (case bxw7_13 => kit_is)
    (case bxw8_13 => kit_is)
    (case bxw9_13 => kit_is)
    (case bxw10_13 => kit_is)
    (case bxw11_13 => kit_is)
    (case bxw12_13 => kit_is)
    (case bxw13_13 => kit_is)
    (case bxw14_13 => kit_is)
    (case bxw15_13 => kit_is)
    (case bxw16_13 => kit_is)
    (case bxw17_13 => kit_is)
    (case bxv13 => kit_is)
    (case bxw0_14 => kit_is)
    (case bxw1_14 => kit_is)
    (case bxw2_14 => kit_is)
    (case bxw3_14 => kit_is)
    (case bxw4_14 => kit_is)
    (case bxw5_14 => kit_is)
    (case bxw6_14 => kit_is)
    (case bxw7_14 => kit_is)
    (case bxw8_14 => kit_is)
    (case bxw9_14 => kit_is)
    (case bxw10_14 => kit_is)
    (case bxw11_14 => kit_is)
    (case bxw12_14 => kit_is)
    (case bxw13_14 => kit_is)
    (case bxw14_14 => kit_is)
    (case bxw15_14 => kit_is)
    (case bxw16_14 => kit_is)
    (case bxw17_14 => kit_is)
    (case bxv14 => kit_is)
    (case bxw0_15 => kit_is)
    (case bxw1_15 => kit_is)
    (case bxw2_15 => kit_is)
    (case bxw3_15 => kit_is)
    (case bxw4_15 => kit_is)
    (case bxw5_15 => kit_is)
    (case bxw6_15 => kit_is)
    (case bxw7_15 => kit_is)
    (case bxw8_15 => kit_is)
    (case bxw9_15 => kit_is)
    (case bxw10_15 => kit_is)
    (case bxw11_15 => kit_is)
    (case bxw12_15 => kit_is)
    (case bxw13_15 => kit_is)
    (case bxw14_15 => kit_is)
    (case bxw15_15 => kit_is)
    (case bxw16_15 => kit_is)
    (case bxw17_15 => kit_is)
    (case bxv15 => kit_is)
    (case bxw0_16 => kit_is)
    (case bxw1_16 => kit_is)
    (case bxw2_16 => kit_is)
    (case bxw3_16 => kit_is)
    (case bxw4_16 => kit_is)
    (case bxw5_16 => kit_is)
    (case bxw6_16 => kit_is)
    (case bxw7_16 => kit_is)
    (case bxw8_16 => kit_is)
    (case bxw9_16 => kit_is)
    (case bxw10_16 => kit_is)
    (case bxw11_16 => kit_is)
    (case bxw12_16 => kit_is)
    (case bxw13_16 => kit_is)
    (case bxw14_16 => kit_is)
    (case bxw15_16 => kit_is)
    (case bxw16_16 => kit_is)
    (case bxw17_16 => kit_is)
    (case bxv16 => kit_is)
    (case bxw0_17 => kit_is)
    (case bxw1_17 => kit_is)
    (case bxw2_17 => kit_is)
    (case bxw3_17 => kit_is)
    (case bxw4_17 => kit_is)
    (case bxw5_17 => kit_is)
    (case bxw6_17 => kit_is)
    (case bxw7_17 => kit_is)
    (case bxw8_17 => kit_is)
    (case bxw9_17 => kit_is)
    (case bxw10_17 => kit_is)
    (case bxw11_17 => kit_is)
    (case bxw12_17 => kit_is)
    (case bxw13_17 => kit_is)
    (case bxw14_17 => kit_is)
    (case bxw15_17 => kit_is)
    (case bxw16_17 => kit_is)
    (case bxw17_17 => kit_is)
    (case bxv17 => kit_is)
