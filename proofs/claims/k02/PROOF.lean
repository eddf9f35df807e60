import PyProof.Rows.All
import Wide.All
import OpenK.AllK
import Wide.FinOn
import HandS.ForMost
import HandS.ExcCtx
import KE.GoesEnum
import HandS.ExcOwn
import HandS.Ends
import HandS.Words
import HandS.Wide
import HandS.Zip
import HandS.TupAny
import HandS.TupMul
import HandS.Style
import HandS.Small
import HandS.Deep
import HandS.IsInst
import HandS.Conv
import HandS.Strs
import KE.KIndexOf
import HandS.More
import HandS.WordsDict
import HandS.TupLen
import PyProof.Rows.SortShellAny
import PyProof.TupleOfSeq
import KE.GoesEnumKw
import HandS.RaiseMore
import PyProof.ReprRoads
import PyProof.ReprBulk
import HandS.Defaults
import HandS.ExcIs
import PyProof.ExcBaseAll.ValueError
import PySem.Challenge.RW_burnrank_k02_ties_reaches_shapes
set_option Elab.async false
set_option linter.all false
set_option maxRecDepth 100000
set_option maxHeartbeats 4000000
namespace BR
open PySem (Str)

inductive D where
  | non | bl (b : Bool) | int (i : Int) | str (x : Str)
  | tup (xs : List D) | lst (xs : List D) | dct (ks vs : List D) | dcT (ks vs : List D) | ref (a : Nat)
  /-- what the law is handed -/
  | scr (ns : List Int)

inductive Ob where
  | lst (xs : List D) | dct (ks vs : List D) | dcT (ks vs : List D) | ins (c : Nat) (fs : List D)
  /-- a tuple that was made here (its object has no names of its own) -/
  | tpl (xs : List D)
  /-- an exception of class c that was caught -/
  | exo (c : Nat)

abbrev Hd := List Ob
abbrev Sg := List (Option D)

inductive Res (α : Type) where
  | ok (a : α) (h : Hd) | exc (c : Nat) (xs : List D) (h : Hd) | bad

def Res.bind {α β : Type} (r : Res α) (f : α → Hd → Res β) : Res β :=
  match r with
  | .ok a h => f a h
  | .exc c xs h => .exc c xs h
  | .bad => .bad
@[simp] theorem Res.bind_ok {α β : Type} (a : α) (h : Hd) (f : α → Hd → Res β) : (Res.ok a h).bind f = f a h := rfl
@[simp] theorem Res.bind_bad {α β : Type} (f : α → Hd → Res β) : (Res.bad : Res α).bind f = .bad := rfl
@[simp] theorem Res.bind_exc {α β : Type} (c : Nat) (xs : List D) (h : Hd) (f : α → Hd → Res β) : (Res.exc c xs h : Res α).bind f = .exc c xs h := rfl
theorem Res.bind_eq_ok {α β : Type} {r : Res α} {f : α → Hd → Res β} {b : β} {h' : Hd} (e : r.bind f = .ok b h') : ∃ a h, r = .ok a h ∧ f a h = .ok b h' := by
  cases r with
  | ok a h => exact ⟨a, h, rfl, e⟩
  | exc c xs h => cases e
  | bad => cases e

abbrev EE := Sg → Hd → Res D
abbrev ET := Sg → Hd → Res Bool
abbrev EA := Sg → Hd → Res (List D)
abbrev EF := List D → Hd → Res D
abbrev EG := D → Sg → Hd → Res Sg
/-- where a statement ends -/
inductive Fl where
  | nx (σ : Sg) | rt (d : D) | bk (σ : Sg) | ct (σ : Sg)
abbrev SS := Sg → Hd → Res Fl
/-- what is walked: the items, the changeable lists among what they are read off -/
structure Walked where
  items : List D
  chk : List (Nat × List D)
abbrev EI := Sg → Hd → Res Walked

/-- the most things in one list -/
def LIM : Nat := 1000000

def eVar (i : Nat) : EE := fun σ h => match σ[i]? with
  | some (some d) => .ok d h
  | _ => .bad
def eC (d : D) : EE := fun _ h => .ok d h
def aNil : EA := fun _ h => .ok [] h
def aCons (f : EE) (g : EA) : EA := fun σ h => (f σ h).bind fun d h1 => (g σ h1).bind fun ds h2 => .ok (d :: ds) h2
/-- a value of values: operators, built-ins, calls -/
def eAp (g : EF) (a : EA) : EE := fun σ h => (a σ h).bind g
def eAp1 (g : EF) (a : EE) : EE := eAp g (aCons a aNil)
def eAp2 (g : EF) (a b : EE) : EE := eAp g (aCons a (aCons b aNil))
/-- a test: a truth value -/
def tB (f : EE) : ET := fun σ h => (f σ h).bind fun d h1 => match d with
  | .bl b => .ok b h1
  | _ => .bad
def tAnd (f g : ET) : ET := fun σ h => (f σ h).bind fun b h1 => if b = true then g σ h1 else .ok false h1
def tOr (f g : ET) : ET := fun σ h => (f σ h).bind fun b h1 => if b = true then .ok true h1 else g σ h1
def tNot (f : ET) : ET := fun σ h => (f σ h).bind fun b h1 => .ok (!b) h1
def tTT : ET := fun _ h => .ok true h
def eT (f : ET) : EE := fun σ h => (f σ h).bind fun b h1 => .ok (.bl b) h1
def eIf (c : ET) (f g : EE) : EE := fun σ h => (c σ h).bind fun b h1 => if b = true then f σ h1 else g σ h1

/-- a and b, a or b as values: a a truth value -/
def eAnd (f g : EE) : EE := fun σ h => (f σ h).bind fun d h1 => match d with
  | .bl b => if b = true then g σ h1 else .ok (.bl false) h1
  | _ => .bad
def eOr (f g : EE) : EE := fun σ h => (f σ h).bind fun d h1 => match d with
  | .bl b => if b = true then .ok (.bl true) h1 else g σ h1
  | _ => .bad
def eNot (f : EE) : EE := fun σ h => (f σ h).bind fun d h1 => match d with
  | .bl b => .ok (.bl (!b)) h1
  | _ => .bad
/-- a < b < c -/
def eCh (g g' : EF) (a b c : EE) : EE := fun σ h => (a σ h).bind fun x h1 => (b σ h1).bind fun y h2 => (g [x, y] h2).bind fun z h3 => match z with
  | .bl k => if k = true then (c σ h3).bind fun u h4 => g' [y, u] h4 else .ok (.bl false) h3
  | _ => .bad
/-- a part of a slice -/
def oNo : Sg → Hd → Res (Option Int) := fun _ h => .ok none h
def oP (f : EE) : Sg → Hd → Res (Option Int) := fun σ h => (f σ h).bind fun d h1 => match d with
  | .int i => .ok (some i) h1
  | _ => .bad
def eSl (g : D → Option Int → Option Int → Hd → Res D) (f : EE) (lo hi : Sg → Hd → Res (Option Int)) : EE := fun σ h =>
  (f σ h).bind fun x h1 => (lo σ h1).bind fun l h2 => (hi σ h2).bind fun u h3 => g x l u h3
/-- the items of a list or tuple -/
def seqOf (h : Hd) : D → Option (List D)
  | .tup xs => some xs
  | .lst xs => some xs
  | .ref a => match h[a]? with
    | some (.lst xs) => some xs
    | _ => none
  | _ => none
def lstOf (h : Hd) : D → Option (List D)
  | .lst xs => some xs
  | .ref a => match h[a]? with
    | some (.lst xs) => some xs
    | _ => none
  | _ => none
def chkOf (h : Hd) : D → List (Nat × List D)
  | .ref a => match h[a]? with
    | some (.lst xs) => [(a, xs)]
    | _ => []
  | _ => []

def sNop : SS := fun σ h => .ok (.nx σ) h
def sSeq (s t : SS) : SS := fun σ h => (s σ h).bind fun f h1 => match f with
  | .nx σ1 => t σ1 h1
  | f => .ok f h1
def sEx (f : EE) : SS := fun σ h => (f σ h).bind fun _ h1 => .ok (.nx σ) h1
def sRet (f : EE) : SS := fun σ h => (f σ h).bind fun d h1 => .ok (.rt d) h1
def sIf (c : ET) (s t : SS) : SS := fun σ h => (c σ h).bind fun b h1 => if b = true then s σ h1 else t σ h1
def sBrk : SS := fun σ h => .ok (.bk σ) h
def sCnt : SS := fun σ h => .ok (.ct σ) h
def sAsg (f : EE) (g : EG) : SS := fun σ h => (f σ h).bind fun d h1 => (g d σ h1).bind fun σ1 h2 => .ok (.nx σ1) h2
def gVar (i : Nat) : EG := fun d σ h => .ok (σ.set i (some d)) h
/-- several targets -/
def gAll : List EG → List D → Sg → Hd → Res Sg
  | [], [], σ, h => .ok σ h
  | g :: gs, d :: ds, σ, h => (g d σ h).bind fun σ1 h1 => gAll gs ds σ1 h1
  | _, _, _, _ => .bad
def gTup (gs : List EG) : EG := fun d σ h => match d with
  | .tup xs => gAll gs xs σ h
  | _ => .bad
/-- o[i] = d, by values -/
def gSub (o i : EE) (st : EF) : EG := fun d σ h => (o σ h).bind fun x h1 => (i σ h1).bind fun y h2 => (st [x, y, d] h2).bind fun _ h3 => .ok σ h3
/-- name op= e -/
def sAug (i : Nat) (f : EE) (g : EF) : SS := fun σ h => match σ[i]? with
  | some (some d) => (f σ h).bind fun e h1 => (g [d, e] h1).bind fun r h2 => .ok (.nx (σ.set i (some r))) h2
  | _ => .bad
/-- o[i] op= e -/
def sAugS (o i e : EE) (gt op st : EF) : SS := fun σ h => (o σ h).bind fun x h1 => (i σ h1).bind fun y h2 => (gt [x, y] h2).bind fun old h3 =>
  (e σ h3).bind fun z h4 => (op [old, z] h4).bind fun new h5 => (st [x, y, new] h5).bind fun _ h6 => .ok (.nx σ) h6

def okChk (chk : List (Nat × List D)) (h : Hd) : Prop := ∀ p ∈ chk, h[p.1]? = some (.lst p.2)
@[simp] theorem okChk_nil (h : Hd) : okChk [] h := fun _ hp => nomatch hp

open Classical in
noncomputable def forF (g : EG) (body : SS) (chk : List (Nat × List D)) : List D → Sg → Hd → Res Fl
  | [], σ, h => if okChk chk h then .ok (.nx σ) h else .bad
  | x :: xs, σ, h => if okChk chk h then (g x σ h).bind fun σ1 h1 => (body σ1 h1).bind fun f h2 => match f with
      | .nx σ2 => forF g body chk xs σ2 h2
      | .ct σ2 => forF g body chk xs σ2 h2
      | .bk σ2 => .ok (.nx σ2) h2
      | .rt d => .ok (.rt d) h2
    else .bad
noncomputable def sFor (g : EG) (it : EI) (body : SS) : SS := fun σ h => (it σ h).bind fun I h1 => forF g body I.chk I.items σ h1

noncomputable def whF (c : ET) (body : SS) : Nat → Sg → Hd → Res Fl
  | 0, _, _ => .bad
  | n + 1, σ, h => (c σ h).bind fun b h1 => if b = true then (body σ h1).bind fun f h2 => match f with
      | .nx σ2 => whF c body n σ2 h2
      | .ct σ2 => whF c body n σ2 h2
      | .bk σ2 => .ok (.nx σ2) h2
      | .rt d => .ok (.rt d) h2
    else .ok (.nx σ) h1
theorem whF_more {c : ET} {body : SS} : ∀ {n : Nat} {σ : Sg} {h : Hd}, whF c body n σ h ≠ .bad → whF c body (n + 1) σ h = whF c body n σ h
  | 0, _, _, e => absurd rfl e
  | n + 1, σ, h, e => by
    unfold whF at e ⊢
    cases hc : c σ h with
    | bad => rfl
    | exc => rfl
    | ok b h1 =>
      rw [hc] at e
      simp only [Res.bind_ok] at e ⊢
      cases b with
      | false => rfl
      | true =>
        simp only [if_true] at e ⊢
        cases hb : body σ h1 with
        | bad => rfl
        | exc => rfl
        | ok f h2 =>
          rw [hb] at e
          simp only [Res.bind_ok] at e ⊢
          cases f with
          | nx σ2 => exact whF_more e
          | ct σ2 => exact whF_more e
          | bk σ2 => rfl
          | rt d => rfl
theorem whF_le {c : ET} {body : SS} {n : Nat} {σ : Sg} {h : Hd} (e : whF c body n σ h ≠ .bad) : ∀ k, whF c body (n + k) σ h = whF c body n σ h
  | 0 => rfl
  | k + 1 => by
    have q := whF_le e k
    have : whF c body (n + k) σ h ≠ .bad := by rw [q]; exact e
    exact (whF_more this).trans q
theorem whF_any {c : ET} {body : SS} {n m : Nat} {σ : Sg} {h : Hd} (e : whF c body n σ h ≠ .bad) (e' : whF c body m σ h ≠ .bad) : whF c body n σ h = whF c body m σ h := by
  rcases Nat.le_total n m with q | q
  · obtain ⟨k, rfl⟩ := Nat.exists_eq_add_of_le q
    exact (whF_le e k).symm
  · obtain ⟨k, rfl⟩ := Nat.exists_eq_add_of_le q
    exact whF_le e' k
open Classical in
noncomputable def sWh (c : ET) (body : SS) : SS := fun σ h => if e : ∃ n, whF c body n σ h ≠ .bad then whF c body (choose e) σ h else .bad
theorem sWh_of {c : ET} {body : SS} {n : Nat} {σ : Sg} {h : Hd} (e : whF c body n σ h ≠ .bad) : sWh c body σ h = whF c body n σ h := by
  have q : ∃ n, whF c body n σ h ≠ .bad := ⟨n, e⟩
  unfold sWh
  rw [dif_pos q]
  exact whF_any (Classical.choose_spec q) e
theorem sWh_to {c : ET} {body : SS} {σ : Sg} {h : Hd} (e : sWh c body σ h ≠ .bad) : ∃ n, whF c body n σ h = sWh c body σ h := by
  unfold sWh at e ⊢
  split at e
  · exact ⟨_, by rw [dif_pos (by assumption)]⟩
  · exact absurd rfl e
/-- a while's turn -/
theorem sWh_eq (c : ET) (body : SS) (σ : Sg) (h : Hd) : sWh c body σ h = (c σ h).bind fun b h1 => if b = true then (body σ h1).bind fun f h2 => match f with
      | .nx σ2 => sWh c body σ2 h2
      | .ct σ2 => sWh c body σ2 h2
      | .bk σ2 => .ok (.nx σ2) h2
      | .rt d => .ok (.rt d) h2
    else .ok (.nx σ) h1 := by
  have key : ∀ (σ2 : Sg) (h2 : Hd), (∃ n, whF c body n σ2 h2 ≠ .bad) ∨ ((∀ n, whF c body n σ2 h2 = .bad) ∧ sWh c body σ2 h2 = .bad) := by
    intro σ2 h2
    by_cases q : ∃ n, whF c body n σ2 h2 ≠ .bad
    · exact .inl q
    · refine .inr ⟨fun n => Classical.byContradiction fun z => q ⟨n, z⟩, ?_⟩
      unfold sWh
      rw [dif_neg q]
  have up : ∀ n, whF c body (n + 1) σ h = (c σ h).bind fun b h1 => if b = true then (body σ h1).bind fun f h2 => match f with
      | .nx σ2 => whF c body n σ2 h2
      | .ct σ2 => whF c body n σ2 h2
      | .bk σ2 => .ok (.nx σ2) h2
      | .rt d => .ok (.rt d) h2
    else .ok (.nx σ) h1 := fun n => rfl
  have none : (∀ n, whF c body (n + 1) σ h = .bad) → sWh c body σ h = .bad := fun z => by
    rcases key σ h with ⟨n, q⟩ | ⟨_, q⟩
    · exact absurd ((whF_more q).symm.trans (z n)) q
    · exact q
  cases hc : c σ h with
  | bad => exact none fun n => by rw [up, hc]; rfl
  | exc ci xs h1 =>
    have : whF c body 1 σ h = .exc ci xs h1 := by rw [up, hc]; rfl
    rw [sWh_of (n := 1) (by rw [this]; simp), this]; rfl
  | ok b h1 =>
    cases b with
    | false =>
      have : whF c body 1 σ h = .ok (.nx σ) h1 := by rw [up, hc]; rfl
      rw [sWh_of (n := 1) (by rw [this]; simp), this]; rfl
    | true =>
      simp only [Res.bind_ok, if_true]
      cases hb : body σ h1 with
      | bad => exact none fun n => by rw [up, hc]; simp [hb]
      | exc ci xs h2 =>
        have : whF c body 1 σ h = .exc ci xs h2 := by rw [up, hc]; simp [hb]
        rw [sWh_of (n := 1) (by rw [this]; simp), this]; rfl
      | ok f h2 =>
        simp only [Res.bind_ok]
        have go : ∀ σ2, (∀ n, whF c body (n + 1) σ h = whF c body n σ2 h2) → sWh c body σ h = sWh c body σ2 h2 := fun σ2 z => by
          rcases key σ2 h2 with ⟨n, q⟩ | ⟨q, q2⟩
          · rw [sWh_of (n := n + 1) (by rw [z]; exact q), z, sWh_of q]
          · rw [q2]; exact none fun n => by rw [z]; exact q n
        cases f with
        | nx σ2 => exact go σ2 fun n => by rw [up, hc]; simp [hb]
        | ct σ2 => exact go σ2 fun n => by rw [up, hc]; simp [hb]
        | bk σ2 =>
          have : whF c body 1 σ h = .ok (.nx σ2) h2 := by rw [up, hc]; simp [hb]
          rw [sWh_of (n := 1) (by rw [this]; simp), this]
        | rt d =>
          have : whF c body 1 σ h = .ok (.rt d) h2 := by rw [up, hc]; simp [hb]
          rw [sWh_of (n := 1) (by rw [this]; simp), this]

def wipe (σ : Sg) : List Nat → Sg
  | [] => σ
  | v :: vs => (wipe σ vs).set v none
open Classical in
noncomputable def lcF (g : EG) (c : ET) (e : Sg → Hd → Res (List D)) (chk : List (Nat × List D)) (σ : Sg) : List D → Hd → Res (List D)
  | [], h => if okChk chk h then .ok [] h else .bad
  | x :: xs, h => if okChk chk h then (g x σ h).bind fun σ1 h1 => (c σ1 h1).bind fun b h2 =>
      if b = true then (e σ1 h2).bind fun ys h3 => (lcF g c e chk σ xs h3).bind fun zs h4 => .ok (ys ++ zs) h4
      else lcF g c e chk σ xs h2
    else .bad
def lcOne (e : EE) : Sg → Hd → Res (List D) := fun σ h => (e σ h).bind fun d h1 => .ok [d] h1
/-- a clause more -/
noncomputable def lcIn (vs : List Nat) (it : EI) (g : EG) (c : ET) (e : Sg → Hd → Res (List D)) : Sg → Hd → Res (List D) := fun σ h =>
  (it σ h).bind fun I h1 => lcF g c e I.chk (wipe σ vs) I.items h1
/-- the list that a comprehension leaves: as a value, or as a list that may change -/
def lcEnd (rf : Bool) (ys : List D) (h1 : Hd) : Res D := if ys.length ≤ LIM then (if rf = true then .ok (.ref h1.length) (h1 ++ [.lst ys]) else .ok (.lst ys) h1) else .bad
noncomputable def eLc (rf : Bool) (vs : List Nat) (it : EI) (g : EG) (c : ET) (e : Sg → Hd → Res (List D)) : EE := fun σ h =>
  (lcIn vs it g c e σ h).bind fun ys h1 => lcEnd rf ys h1
def noRef (n : Nat) : D → Bool
  | .ref a => decide (a < n)
  | .tup xs => go xs
  | .lst xs => go xs
  | .dct ks vs => go ks && go vs
  | .dcT ks vs => go ks && go vs
  | _ => true
where go : List D → Bool
  | [] => true
  | d :: ds => noRef n d && go ds
def obNoRef (n : Nat) : Ob → Bool
  | .lst xs => xs.all (noRef n)
  | .dct ks vs => ks.all (noRef n) && vs.all (noRef n)
  | .dcT ks vs => ks.all (noRef n) && vs.all (noRef n)
  | .ins _ fs => fs.all (noRef n)
  | .tpl xs => xs.all (noRef n)
  | .exo _ => true
/-- what a def hands back, its own lists frozen -/
def frz (h : Hd) (n : Nat) (d : D) : Option D :=
  if noRef n d = true then some d else match d with
    | .ref a => match h[a]? with
      | some (.lst xs) => if xs.all (noRef n) = true then some (.lst xs) else none
      | some (.dct ks vs) => if (ks.all (noRef n) && vs.all (noRef n)) = true then some (.dct ks vs) else none
      | some (.dcT ks vs) => if (ks.all (noRef n) && vs.all (noRef n)) = true then some (.dcT ks vs) else none
      | some (.tpl xs) => if xs.all (noRef n) = true then some (.tup xs) else none
      | _ => none
    | _ => none
/-- the older things are as they were, or bear nothing newer -/
def okOld (h h' : Hd) : Prop := ∀ a, a < h.length → ∃ o, h'[a]? = some o ∧ (h[a]? = some o ∨ obNoRef h.length o = true)
open Classical in
noncomputable def fin (h : Hd) (d : D) (h' : Hd) : Res D := if okOld h h' then match frz h' h.length d with
    | some d' => .ok d' (h'.take h.length)
    | none => .bad
  else .bad
/-- n parameters, m slots -/
noncomputable def fn (n m : Nat) (body : SS) : EF := fun ds h => if ds.length = n then
    (body (ds.map some ++ List.replicate (m - n) none) h).bind fun f h' => match f with
      | .rt d => fin h d h'
      | .nx _ => fin h .non h'
      | _ => .bad
  else .bad
/-- .. whose things stay (an __init__, a method that gives its object new lists) -/
def fnK (n m : Nat) (body : SS) : EF := fun ds h => if ds.length = n then
    (body (ds.map some ++ List.replicate (m - n) none) h).bind fun f h' => match f with
      | .rt d => .ok d h'
      | .nx _ => .ok .non h'
      | _ => .bad
  else .bad
end BR

namespace BR
open PySem L2

/-- the changeable things by number; addresses that nothing may name (a list that a comprehension fills) -/
structure W where
  io : List Addr
  rs : List Addr
/-- the classes: where each stands, the names of its fields in order -/
abbrev CT := Nat → Addr × List Str

def keyD : Key → D
  | .inl i => .int i
  | .inr x => .str x
/-- a list of the written part -/
def KL (K : PySem.W.Frag) (a : Addr) (xs : List V) : Prop :=
  ∃ (o : Obj) (its : Array Value) (n : Nat), K.lookup a = some o ∧ o.cls = .type "list" ∧ o.dict = none ∧ o.data = .seq its n ∧ its.size ≤ sizeLine ∧ Vals xs its.toList
theorem SqL.ofKL {K : PySem.W.Frag} {H : Hp} {a : Addr} {xs : List V} (h : KL K a xs) : SqL K H a xs := .inr h
/-- the script -/
def Scr (K : PySem.W.Frag) (H : Hp) (a : Addr) (ns : List Int) : Prop := (∃ o, H a = some (.frz o (.lst (ns.map V.int)))) ∨ KL K a (ns.map V.int)
theorem Scr.seq {K : PySem.W.Frag} {H : Hp} {a : Addr} {ns : List Int} (h : Scr K H a ns) : SqL K H a (ns.map V.int) := by
  rcases h with ⟨o, h⟩ | h
  · exact .inl (.inr ⟨o, h⟩)
  · exact SqL.ofKL h
/-- nothing that may change -/
def Still (w : W) (a : Addr) : Prop := a ∉ w.io ∧ a ∉ w.rs

section
variable (K : PySem.W.Frag) (w : W) (H : Hp)
mutual
def RD : D → V → Prop
  | .non, v => v = .non
  | .bl b, v => v = .bl b
  | .int i, v => v = .int i
  | .str x, v => v = .str x
  | .tup xs, v => ∃ a vs, v = .ref a ∧ SqT K H a vs ∧ RDs xs vs
  | .lst xs, v => ∃ a vs, v = .ref a ∧ (H a = some (.lst vs) ∧ Still w a) ∧ RDs xs vs
  | .scr ns, v => ∃ a, v = .ref a ∧ Scr K H a ns
  | .dct ks us, v => ∃ a, v = .ref a ∧ Still w a ∧ ∃ kvs : List (Key × V), Rd H a (.dK kvs) ∧ ks = kvs.map (fun p => keyD p.1) ∧ RDs us (kvs.map (·.2))
  | .dcT ks us, v => ∃ a, v = .ref a ∧ Still w a ∧ ∃ kvs : List (List Key × V), Rd H a (.dT kvs) ∧ ks = kvs.map (fun p => D.tup (p.1.map keyD)) ∧ RDs us (kvs.map (·.2))
  | .ref n, v => ∃ a, v = .ref a ∧ w.io[n]? = some a
def RDs : List D → List V → Prop
  | [], vs => vs = []
  | d :: ds, vs => ∃ v r, vs = v :: r ∧ RD d v ∧ RDs ds r
end
/-- an exception's object as it lies -/
def excF (cls : Value) (d : Option Addr) (a : Addr) : Heap → Prop := fun h => ∃ oe, h.get? a = some oe ∧ L2N.Zn cls d oe ∧ ∃ vs, oe.data = .fields vs
/-- a changeable thing at its address -/
def RO (ct : CT) : Ob → Addr → Prop
  | .lst xs, a => ∃ vs, H a = some (.lst vs) ∧ RDs K w H xs vs
  | .dct ks us, a => ∃ kvs : List (Key × V), H a = some (.dK kvs) ∧ ks = kvs.map (fun p => keyD p.1) ∧ RDs K w H us (kvs.map (·.2))
  | .dcT ks us, a => ∃ kvs : List (List Key × V), H a = some (.dT kvs) ∧ ks = kvs.map (fun p => D.tup (p.1.map keyD)) ∧ RDs K w H us (kvs.map (·.2))
  | .tpl xs, a => ∃ o vs, H a = some (.frz o (.tup vs)) ∧ o.dict = none ∧ RDs K w H xs vs
  | .exo c, a => H a = some (.ext (excF (.ref (ct c).1) none a))
  | .ins c fs, a => ∃ dx gs, H a = some (.ins (ct c).1 dx gs) ∧ gs.map (·.1) = (ct c).2.take fs.length ∧ fs.length ≤ (ct c).2.length ∧ RDs K w H fs (gs.map (·.2))
structure SR (ct : CT) (h : Hd) : Prop where
  len : w.io.length = h.length
  nd : w.io.Nodup
  ap : ∀ a ∈ w.rs, a ∉ w.io
  tr : ∀ a ∈ w.rs, ∃ xs, H a = some (.lst xs)
  ob : ∀ (n : Nat) (o : Ob) (a : Addr), h[n]? = some o → w.io[n]? = some a → RO K w H ct o a
def RS (σd : Sg) (σ : St) : Prop := σd.length = σ.length ∧ ∀ (i : Nat) (d : D), σd[i]? = some (some d) → ∃ v, σ[i]? = some (some v) ∧ RD K w H d v
end

section
variable {K : PySem.W.Frag} {w w' w1 w2 : W} {H H' H1 H2 : Hp} {ct : CT} {h h' : Hd} {σd : Sg} {σ : St} {p a : Addr} {o : HO}

mutual
theorem RD.mono (hT : ∀ a xs, SqT K H a xs → SqT K H' a xs) (hF : ∀ a o u, H a = some (.frz o u) → H' a = some (.frz o u)) (hL : ∀ a xs, H a = some (.lst xs) → Still w a → H' a = some (.lst xs) ∧ Still w' a)
    (hD : ∀ a kvs, Rd H a (.dK kvs) → Still w a → Rd H' a (.dK kvs) ∧ Still w' a) (hE : ∀ a kvs, Rd H a (.dT kvs) → Still w a → Rd H' a (.dT kvs) ∧ Still w' a)
    (hI : ∀ (n : Nat) a, w.io[n]? = some a → w'.io[n]? = some a) : ∀ (d : D) (v : V), RD K w H d v → RD K w' H' d v
  | .non, _, e => e
  | .bl _, _, e => e
  | .int _, _, e => e
  | .str _, _, e => e
  | .tup xs, v, ⟨a, vs, e, q, r⟩ => ⟨a, vs, e, hT a vs q, RDs.mono hT hF hL hD hE hI xs vs r⟩
  | .lst xs, v, ⟨a, vs, e, ⟨q, s⟩, r⟩ => ⟨a, vs, e, hL a vs q s, RDs.mono hT hF hL hD hE hI xs vs r⟩
  | .scr ns, v, ⟨a, e, .inl ⟨o, q⟩⟩ => ⟨a, e, .inl ⟨o, hF a o _ q⟩⟩
  | .scr ns, v, ⟨a, e, .inr q⟩ => ⟨a, e, .inr q⟩
  | .dct ks us, v, ⟨a, e, s, ⟨kvs, q, hk, r⟩⟩ => ⟨a, e, (hD a kvs q s).2, ⟨kvs, (hD a kvs q s).1, hk, RDs.mono hT hF hL hD hE hI us _ r⟩⟩
  | .dcT ks us, v, ⟨a, e, s, ⟨kvs, q, hk, r⟩⟩ => ⟨a, e, (hE a kvs q s).2, ⟨kvs, (hE a kvs q s).1, hk, RDs.mono hT hF hL hD hE hI us _ r⟩⟩
  | .ref n, v, ⟨a, e, q⟩ => ⟨a, e, hI n a q⟩
theorem RDs.mono (hT : ∀ a xs, SqT K H a xs → SqT K H' a xs) (hF : ∀ a o u, H a = some (.frz o u) → H' a = some (.frz o u)) (hL : ∀ a xs, H a = some (.lst xs) → Still w a → H' a = some (.lst xs) ∧ Still w' a)
    (hD : ∀ a kvs, Rd H a (.dK kvs) → Still w a → Rd H' a (.dK kvs) ∧ Still w' a) (hE : ∀ a kvs, Rd H a (.dT kvs) → Still w a → Rd H' a (.dT kvs) ∧ Still w' a)
    (hI : ∀ (n : Nat) a, w.io[n]? = some a → w'.io[n]? = some a) : ∀ (ds : List D) (vs : List V), RDs K w H ds vs → RDs K w' H' ds vs
  | [], _, e => e
  | d :: ds, vs, ⟨v, r, e, q, t⟩ => ⟨v, r, e, RD.mono hT hF hL hD hE hI d v q, RDs.mono hT hF hL hD hE hI ds r t⟩
end
theorem RDs.of_rd (f : ∀ d v, RD K w H d v → RD K w' H' d v) : ∀ {ds : List D} {vs : List V}, RDs K w H ds vs → RDs K w' H' ds vs
  | [], _, e => e
  | d :: ds, vs, ⟨v, r, e, q, t⟩ => ⟨v, r, e, f d v q, RDs.of_rd f t⟩
theorem RDs.len : ∀ {ds : List D} {vs : List V}, RDs K w H ds vs → ds.length = vs.length
  | [], _, e => by cases (show _ = [] from e); rfl
  | d :: ds, vs, ⟨v, r, e, q, t⟩ => by subst e; simp [RDs.len t]
theorem RDs.nil : RDs K w H [] [] := rfl
theorem RDs.cons {d : D} {v : V} {ds : List D} {vs : List V} (a : RD K w H d v) (b : RDs K w H ds vs) : RDs K w H (d :: ds) (v :: vs) := ⟨v, vs, rfl, a, b⟩
theorem RDs.append : ∀ {ds es : List D} {vs us : List V}, RDs K w H ds vs → RDs K w H es us → RDs K w H (ds ++ es) (vs ++ us)
  | [], _, _, _, e, t => by cases (show _ = [] from e); exact t
  | d :: ds, es, vs, us, ⟨v, r, e, q, t⟩, z => by subst e; exact .cons q (RDs.append t z)
theorem RDs.get : ∀ {ds : List D} {vs : List V} {i : Nat} {d : D}, RDs K w H ds vs → ds[i]? = some d → ∃ v, vs[i]? = some v ∧ RD K w H d v
  | [], _, _, _, _, e => by simp at e
  | d :: ds, _, 0, _, ⟨v, r, e, q, t⟩, z => by subst e; simp at z; subst z; exact ⟨v, rfl, q⟩
  | d :: ds, _, i + 1, x, ⟨v, r, e, q, t⟩, z => by
    subst e
    obtain ⟨u, h1, h2⟩ := RDs.get (i := i) t (by simpa using z)
    exact ⟨u, by simpa using h1, h2⟩
theorem RDs.take : ∀ {ds : List D} {vs : List V} (n : Nat), RDs K w H ds vs → RDs K w H (ds.take n) (vs.take n)
  | _, _, 0, _ => rfl
  | [], _, n + 1, e => by cases (show _ = [] from e); rfl
  | d :: ds, _, n + 1, ⟨v, r, e, q, t⟩ => by subst e; exact .cons q (RDs.take n t)
theorem RDs.drop : ∀ {ds : List D} {vs : List V} (n : Nat), RDs K w H ds vs → RDs K w H (ds.drop n) (vs.drop n)
  | _, _, 0, e => e
  | [], _, n + 1, e => by cases (show _ = [] from e); rfl
  | d :: ds, _, n + 1, ⟨v, r, e, q, t⟩ => by subst e; exact RDs.drop n t
theorem RDs.set {x : D} {u : V} (q : RD K w H x u) : ∀ {ds : List D} {vs : List V} (i : Nat), RDs K w H ds vs → RDs K w H (ds.set i x) (vs.set i u)
  | [], _, _, e => by cases (show _ = [] from e); rfl
  | d :: ds, _, 0, ⟨v, r, e, z, t⟩ => by subst e; exact .cons q t
  | d :: ds, _, i + 1, ⟨v, r, e, z, t⟩ => by subst e; exact .cons z (RDs.set q i t)
theorem RDs.two {ds : List D} {x y : V} (r : RDs K w H ds [x, y]) : ∃ d e, ds = [d, e] ∧ RD K w H d x ∧ RD K w H e y := by
  match ds, r with
  | [d, e], ⟨_, _, e1, q1, _, _, e2, q2, _⟩ => cases e1; cases e2; exact ⟨d, e, rfl, q1, q2⟩
  | [d], ⟨_, _, e1, _, e2⟩ => cases e1; cases (show _ = [] from e2)
  | [], e => cases (show _ = [] from e)
  | d :: e :: f :: r, ⟨_, _, e1, _, _, _, e2, _, _, _, e3, _⟩ => cases e1; cases e2; cases e3
theorem RDs.one {ds : List D} {x : V} (r : RDs K w H ds [x]) : ∃ d, ds = [d] ∧ RD K w H d x := by
  match ds, r with
  | [d], ⟨_, _, e1, q1, _⟩ => cases e1; exact ⟨d, rfl, q1⟩
  | [], e => cases (show _ = [] from e)
  | d :: e :: r, ⟨_, _, e1, _, _, _, e2, _⟩ => cases e1; cases e2
theorem RDs.zero {ds : List D} (r : RDs K w H ds []) : ds = [] := by
  match ds, r with
  | [], _ => rfl
  | d :: r, ⟨_, _, e1, _⟩ => cases e1
theorem RDs.ints : ∀ {ns : List Int} {vs : List V}, RDs K w H (ns.map D.int) vs → vs = ns.map V.int
  | [], _, e => e
  | n :: ns, vs, ⟨v, r, e, q, t⟩ => by
    subst e
    cases (show v = _ from q)
    rw [RDs.ints t]; rfl
theorem RDs.of_ints : ∀ {ns : List Int}, RDs K w H (ns.map D.int) (ns.map V.int)
  | [] => rfl
  | n :: ns => .cons rfl RDs.of_ints

structure Step (K : PySem.W.Frag) (w : W) (H : Hp) (w' : W) (H' : Hp) : Prop where
  pre : ∃ m, w'.io = w.io ++ m
  rs : w'.rs = w.rs
  kp : ∀ a ∈ w.rs, H' a = H a
  rd : ∀ d v, RD K w H d v → RD K w' H' d v
theorem Step.refl : Step K w H w H := ⟨⟨[], by simp⟩, rfl, fun _ _ => rfl, fun _ _ r => r⟩
theorem Step.trans (a : Step K w H w1 H1) (b : Step K w1 H1 w2 H2) : Step K w H w2 H2 := by
  obtain ⟨m1, e1⟩ := a.pre
  obtain ⟨m2, e2⟩ := b.pre
  exact ⟨⟨m1 ++ m2, by rw [e2, e1, List.append_assoc]⟩, b.rs.trans a.rs, fun c hc => (b.kp c (by rw [a.rs]; exact hc)).trans (a.kp c hc), fun d v r => b.rd d v (a.rd d v r)⟩
theorem Step.rds (s : Step K w H w' H') {ds : List D} {vs : List V} (r : RDs K w H ds vs) : RDs K w' H' ds vs := RDs.of_rd s.rd r
theorem Step.rsg (s : Step K w H w' H') (r : RS K w H σd σ) : RS K w' H' σd σ := ⟨r.1, fun i d e => by
  obtain ⟨v, h1, h2⟩ := r.2 i d e
  exact ⟨v, h1, s.rd d v h2⟩⟩

theorem SR.tracked (s : SR K w H ct h) (ha : a ∈ w.io) : ∃ u, H a = some u := by
  obtain ⟨n, hn, e⟩ := List.getElem_of_mem ha
  have hn' : n < h.length := by rw [← s.len]; exact hn
  have q := s.ob n h[n] a (by simp [hn']) (by rw [← e]; simp [hn])
  generalize h[n] = ob at q
  cases ob with
  | lst xs => obtain ⟨vs, e, _⟩ := q; exact ⟨_, e⟩
  | dct ks us => obtain ⟨kvs, e, _⟩ := q; exact ⟨_, e⟩
  | dcT ks us => obtain ⟨kvs, e, _⟩ := q; exact ⟨_, e⟩
  | ins c fs => obtain ⟨dx, gs, e, _⟩ := q; exact ⟨_, e⟩
  | tpl xs => obtain ⟨o, vs, e, _⟩ := q; exact ⟨_, e⟩
  | exo c => exact ⟨_, q⟩
/-- a thing that may be written -/
def Soft (h : Hd) (n : Nat) : Prop := ∃ o, h[n]? = some o ∧ ∀ xs, o ≠ .tpl xs
theorem SR.soft {n : Nat} (s : SR K w H ct h) (hn : w.io[n]? = some a) (so : Soft h n) : (∀ xs, H a ≠ some (.tup xs)) ∧ ∀ o u, H a ≠ some (.frz o u) := by
  obtain ⟨ob, e, ne⟩ := so
  have q := s.ob n ob a e hn
  cases ob with
  | lst xs => obtain ⟨vs, e, _⟩ := q; rw [e]; exact ⟨(fun _ z => by cases z), fun _ _ z => by cases z⟩
  | dct ks us => obtain ⟨kvs, e, _⟩ := q; rw [e]; exact ⟨(fun _ z => by cases z), fun _ _ z => by cases z⟩
  | dcT ks us => obtain ⟨kvs, e, _⟩ := q; rw [e]; exact ⟨(fun _ z => by cases z), fun _ _ z => by cases z⟩
  | ins c fs => obtain ⟨dx, gs, e, _⟩ := q; rw [e]; exact ⟨(fun _ z => by cases z), fun _ _ z => by cases z⟩
  | tpl xs => exact absurd rfl (ne xs)
  | exo c => rw [show H a = _ from q]; exact ⟨(fun _ z => by cases z), fun _ _ z => by cases z⟩
theorem SR.fresh (s : SR K w H ct h) (hp : H p = none) : Still w p := by
  refine ⟨fun m => ?_, fun m => ?_⟩
  · obtain ⟨u, e⟩ := s.tracked m
    rw [hp] at e; cases e
  · obtain ⟨u, e⟩ := s.tr p m
    rw [hp] at e; cases e
theorem Rd.upd_ne {u : HO} (q : Rd H a u) (ne : a ≠ p) : Rd (upd H p o) a u := by
  rcases q with q | ⟨x, q⟩
  · exact .inl (by rw [L2.upd_ne ne]; exact q)
  · exact .inr ⟨x, by rw [L2.upd_ne ne]; exact q⟩
theorem Rd.ne_of_none {u : HO} (q : Rd H a u) (hp : H p = none) : a ≠ p := by
  rintro rfl
  rcases q with q | ⟨x, q⟩ <;> (rw [hp] at q; cases q)
theorem SqT.upd_ne {xs : List V} (q : SqT K H a xs) (ne : a ≠ p ∨ (∀ xs, H p ≠ some (.tup xs)) ∧ ∀ o u, H p ≠ some (.frz o u)) : SqT K (upd H p o) a xs := by
  rcases q with q | q
  · refine .inl (Rd.upd_ne q ?_)
    rcases ne with ne | ⟨n1, n2⟩
    · exact ne
    · rintro rfl
      rcases q with q | ⟨x, q⟩
      · exact n1 _ q
      · exact n2 _ _ q
  · exact .inr q
theorem SR.ne_rs (s : SR K w H ct h) (hp : H p = none) : ∀ a ∈ w.rs, a ≠ p := fun a ha e => by
  obtain ⟨u, q⟩ := s.tr a ha
  rw [e, hp] at q; cases q
theorem SR.ne_io (s : SR K w H ct h) (hp : H p = none) : ∀ a ∈ w.io, a ≠ p := fun a ha e => (s.fresh hp).1 (e ▸ ha)
/-- all that was told stays, where the address written is a new one or a changeable thing's -/
theorem rd_upd (hp : (∀ xs, H p ≠ some (.tup xs)) ∧ ∀ o u, H p ≠ some (.frz o u)) (hs : ∀ a, Still w a → a = p → H a = none) (hi : ∀ (n : Nat) a, w.io[n]? = some a → w'.io[n]? = some a) (hw : ∀ a, a ≠ p → Still w a → Still w' a) : ∀ d v, RD K w H d v → RD K w' (upd H p o) d v := by
  have ne : ∀ {a u}, Rd H a u → Still w a → a ≠ p := fun {a u} q s e => Rd.ne_of_none q (hs a s e) rfl
  have nL : ∀ {a u}, H a = some u → Still w a → a ≠ p := fun {a u} q s e => by
    have z := hs a s e
    rw [q] at z; cases z
  exact RD.mono (fun a xs q => SqT.upd_ne q (.inr hp)) (fun a o u q => by rw [L2.upd_ne (fun e => hp.2 o u (by rw [← e]; exact q))]; exact q) (fun a xs q s => ⟨by rw [L2.upd_ne (nL q s)]; exact q, hw a (nL q s) s⟩) (fun a xs q s => ⟨Rd.upd_ne q (ne q s), hw a (ne q s) s⟩) (fun a xs q s => ⟨Rd.upd_ne q (ne q s), hw a (ne q s) s⟩) hi
theorem none_upd (hp : H p = none) : (∀ xs, H p ≠ some (.tup xs)) ∧ ∀ o u, H p ≠ some (.frz o u) := ⟨fun _ e => (by rw [hp] at e; cases e), fun _ _ e => (by rw [hp] at e; cases e)⟩
theorem RO.step {ob : Ob} (rd : ∀ d v, RD K w H d v → RD K w' H' d v) (e : H' a = H a) (q : RO K w H ct ob a) : RO K w' H' ct ob a := by
  cases ob with
  | lst xs => obtain ⟨vs, q1, q2⟩ := q; exact ⟨vs, e.trans q1, RDs.of_rd rd q2⟩
  | dct ks us => obtain ⟨kvs, q1, q2, q3⟩ := q; exact ⟨kvs, e.trans q1, q2, RDs.of_rd rd q3⟩
  | dcT ks us => obtain ⟨kvs, q1, q2, q3⟩ := q; exact ⟨kvs, e.trans q1, q2, RDs.of_rd rd q3⟩
  | ins c fs => obtain ⟨dx, gs, q1, q2, q3, q4⟩ := q; exact ⟨dx, gs, e.trans q1, q2, q3, RDs.of_rd rd q4⟩
  | tpl xs => obtain ⟨o, vs, q1, q2, q3⟩ := q; exact ⟨o, vs, e.trans q1, q2, RDs.of_rd rd q3⟩
  | exo c => exact e.trans q
/-- a new thing that stays as it is -/
theorem Step.alloc (s : SR K w H ct h) (hp : H p = none) : Step K w H w (upd H p o) :=
  ⟨⟨[], by simp⟩, rfl, fun a ha => L2.upd_ne (s.ne_rs hp a ha), rd_upd (none_upd hp) (fun a _ e => by rw [e]; exact hp) (fun _ _ e => e) fun _ _ x => x⟩
theorem SR.alloc (s : SR K w H ct h) (hp : H p = none) : SR K w (upd H p o) ct h :=
  ⟨s.len, s.nd, s.ap, fun a ha => by rw [L2.upd_ne (s.ne_rs hp a ha)]; exact s.tr a ha,
    fun n ob a e1 e2 => (s.ob n ob a e1 e2).step (Step.alloc s hp).rd (L2.upd_ne (s.ne_io hp a (List.mem_of_getElem? e2)))⟩
/-- a new changeable thing -/
theorem Step.new (s : SR K w H ct h) (hp : H p = none) : Step K w H ⟨w.io ++ [p], w.rs⟩ (upd H p o) :=
  ⟨⟨[p], rfl⟩, rfl, fun a ha => L2.upd_ne (s.ne_rs hp a ha), rd_upd (none_upd hp) (fun a _ e => by rw [e]; exact hp) (fun n a e => by
    show (w.io ++ [p])[n]? = some a
    rw [List.getElem?_append_left (List.getElem?_eq_some_iff.mp e).1]; exact e) fun a ne x => ⟨by
      show a ∉ w.io ++ [p]
      simp only [List.mem_append, List.mem_singleton, not_or]; exact ⟨x.1, ne⟩, x.2⟩⟩
theorem SR.new {ob : Ob} (s : SR K w H ct h) (hp : H p = none) (q : RO K ⟨w.io ++ [p], w.rs⟩ (upd H p o) ct ob p) : SR K ⟨w.io ++ [p], w.rs⟩ (upd H p o) ct (h ++ [ob]) := by
  refine ⟨by simp [s.len], ?_, fun a ha m => ?_, fun a ha => by rw [L2.upd_ne (s.ne_rs hp a ha)]; exact s.tr a ha, fun n o' a e1 e2 => ?_⟩
  · show (w.io ++ [p]).Nodup
    rw [List.nodup_append]
    exact ⟨s.nd, by simp, fun a ha b hb e => by
      have : b = p := by simpa using hb
      exact s.ne_io hp a ha (e.trans this)⟩
  · have m : a ∈ w.io ++ [p] := m
    rcases List.mem_append.mp m with m | m
    · exact s.ap a ha m
    · exact s.ne_rs hp a ha (by simpa using m)
  · have e2 : (w.io ++ [p])[n]? = some a := e2
    by_cases hn : n < h.length
    · rw [List.getElem?_append_left hn] at e1
      rw [List.getElem?_append_left (by rw [s.len]; exact hn)] at e2
      exact (s.ob n o' a e1 e2).step (Step.new s hp).rd (L2.upd_ne (s.ne_io hp a (List.mem_of_getElem? e2)))
    · have l := s.len
      have hn2 : n = h.length := by
        have := (List.getElem?_eq_some_iff.mp e1).1
        simp at this; omega
      subst hn2
      rw [List.getElem?_append_right (by omega)] at e2
      rw [List.getElem?_append_right (by omega)] at e1
      simp only [Nat.sub_self, List.getElem?_cons_zero, Option.some.injEq] at e1
      have : h.length - w.io.length = 0 := by omega
      rw [this] at e2
      simp only [List.getElem?_cons_zero, Option.some.injEq] at e2
      subst e1; subst e2
      exact q
/-- a changeable thing is changed -/
theorem nd_at : ∀ {l : List Addr}, l.Nodup → ∀ {i j : Nat} {a : Addr}, l[i]? = some a → l[j]? = some a → i = j := fun nd i j a h1 h2 => by
  obtain ⟨l1, e1⟩ := List.getElem?_eq_some_iff.mp h1
  obtain ⟨l2, e2⟩ := List.getElem?_eq_some_iff.mp h2
  exact (List.getElem_inj nd).mp (e1.trans e2.symm)
theorem Step.mut (s : SR K w H ct h) {n : Nat} (hn : w.io[n]? = some p) (so : Soft h n) : Step K w H w (upd H p o) := by
  have hm := List.mem_of_getElem? hn
  exact ⟨⟨[], by simp⟩, rfl, fun a ha => L2.upd_ne fun z => s.ap a ha (z ▸ hm), rd_upd (s.soft hn so) (fun a st z => absurd (z ▸ hm) st.1) (fun _ _ e => e) fun _ _ x => x⟩
theorem SR.mut {ob : Ob} (s : SR K w H ct h) {n : Nat} (hn : w.io[n]? = some p) (so : Soft h n) (q : RO K w (upd H p o) ct ob p) : SR K w (upd H p o) ct (h.set n ob) := by
  have hm := List.mem_of_getElem? hn
  refine ⟨by simp [s.len], s.nd, s.ap, fun a ha => by rw [L2.upd_ne (show a ≠ p from fun z => s.ap a ha (z ▸ hm))]; exact s.tr a ha, fun m o' a e1 e2 => ?_⟩
  by_cases hmn : n = m
  · subst hmn
    rw [hn] at e2; cases e2
    have hl : n < h.length := by rw [← s.len]; exact (List.getElem?_eq_some_iff.mp hn).1
    rw [List.getElem?_set_self hl] at e1
    cases e1
    exact q
  · rw [List.getElem?_set_ne hmn] at e1
    exact (s.ob m o' a e1 e2).step (Step.mut s hn so).rd (L2.upd_ne fun z => hmn (nd_at s.nd hn (z ▸ e2)))

def okR {α β : Type} (K : PySem.W.Frag) (ct : CT) (rel : W → Hp → α → β → Prop) (r : Res α) (w : W) (H : Hp) (Q : β → Hp → Prop) : Prop :=
  match r with
  | .ok a h' => ∀ w' H' b, Step K w H w' H' → SR K w' H' ct h' → rel w' H' a b → Q b H'
  | _ => False
section
variable {α β γ δ : Type} {rel : W → Hp → α → β → Prop} {rel2 : W → Hp → γ → δ → Prop}
theorem okR.step {r : Res α} {Q : β → Hp → Prop} (s : Step K w H w1 H1) (q : okR K ct rel r w H Q) : okR K ct rel r w1 H1 Q := by
  cases r with
  | ok a h' => exact fun w' H' b st sr r => q w' H' b (s.trans st) sr r
  | exc _ _ _ => exact q
  | bad => exact q
theorem okR.bind {r : Res α} {f : α → Hd → Res γ} {Q : δ → Hp → Prop} (q : okR K ct rel2 (r.bind f) w H Q) :
    okR K ct rel r w H fun b H1 => ∃ w1 h1 a, Step K w H w1 H1 ∧ SR K w1 H1 ct h1 ∧ rel w1 H1 a b ∧ okR K ct rel2 (f a h1) w1 H1 Q := by
  cases r with
  | ok a h' => exact fun w' H' b st sr r => ⟨w', h', a, st, sr, r, q.step st⟩
  | exc _ _ _ => exact q
  | bad => exact q
theorem okR.bind0 {r : Res α} {f : α → Hd → Res γ} {Q : δ → Hp → Prop} (q : okR K ct rel2 (r.bind f) w H Q) :
    okR K ct rel r w H fun b H1 => ∃ w1 h1 a, Step K w H w1 H1 ∧ SR K w1 H1 ct h1 ∧ rel w1 H1 a b ∧ okR K ct rel2 (f a h1) w H Q := by
  cases r with
  | ok a h' => exact fun w' H' b st sr r => ⟨w', h', a, st, sr, r, q⟩
  | exc _ _ _ => exact q
  | bad => exact q
theorem okR.imp {r : Res α} {Q Q' : β → Hp → Prop} (q : okR K ct rel r w H Q) (f : ∀ b H', Q b H' → Q' b H') : okR K ct rel r w H Q' := by
  cases r with
  | ok a h' => exact fun w' H' b st sr r => f b H' (q w' H' b st sr r)
  | exc _ _ _ => exact q
  | bad => exact q
theorem okR.here {a : α} {b : β} {Q : β → Hp → Prop} (q : okR K ct rel (.ok a h) w H Q) (s : SR K w H ct h) (r : rel w H a b) : Q b H := q w H b .refl s r
end
abbrev rV (K : PySem.W.Frag) : W → Hp → D → V → Prop := fun w H => RD K w H
abbrev rVs (K : PySem.W.Frag) : W → Hp → List D → List V → Prop := fun w H => RDs K w H
abbrev rB : W → Hp → Bool → Bool → Prop := fun _ _ a b => a = b

def tE (K : PySem.W.Frag) (ct : CT) (f : EE) : TE := fun σ H Q => ∃ w h σd, SR K w H ct h ∧ RS K w H σd σ ∧ okR K ct (rV K) (f σd h) w H Q
def tA (K : PySem.W.Frag) (ct : CT) (f : EA) : TA := fun σ H Q => ∃ w h σd, SR K w H ct h ∧ RS K w H σd σ ∧ okR K ct (rVs K) (f σd h) w H Q
def tT (K : PySem.W.Frag) (ct : CT) (f : ET) : TT := fun σ H Q => ∃ w h σd, SR K w H ct h ∧ RS K w H σd σ ∧ okR K ct rB (f σd h) w H Q
/-- what a value of values asks -/
def rG (K : PySem.W.Frag) (ct : CT) (g : EF) : List V → Hp → VK → Prop := fun vs H Q => ∃ w h ds, SR K w H ct h ∧ RDs K w H ds vs ∧ okR K ct (rV K) (g ds h) w H Q
/-- where a statement ends -/
inductive FlV where
  | nx (σ : St) | rt (v : V) | bk (σ : St) | ct (σ : St)
def rF (K : PySem.W.Frag) : W → Hp → Fl → FlV → Prop := fun w H f p => match f, p with
  | .nx σd, .nx σ => RS K w H σd σ
  | .bk σd, .bk σ => RS K w H σd σ
  | .ct σd, .ct σ => RS K w H σd σ
  | .rt d, .rt v => RD K w H d v
  | _, _ => False
def endOf (E : Ends) : FlV → Hp → Prop
  | .nx σ, H => E.nx σ H
  | .bk σ, H => E.bk σ H
  | .ct σ, H => E.ct σ H
  | .rt v, H => E.rt v H
def tS (K : PySem.W.Frag) (ct : CT) (f : SS) : TS := fun E σ H => ∃ w h σd, SR K w H ct h ∧ RS K w H σd σ ∧ okR K ct (rF K) (f σd h) w H (endOf E)
def tG (K : PySem.W.Frag) (ct : CT) (g : EG) : TG := fun v σ H Q => ∃ w h σd d, SR K w H ct h ∧ RS K w H σd σ ∧ RD K w H d v ∧ okR K ct (fun w H => RS K w H) (g d σd h) w H Q
def tGs (K : PySem.W.Frag) (ct : CT) (gs : List EG) : TGs := fun vs σ H Q => ∃ w h σd ds, SR K w H ct h ∧ RS K w H σd σ ∧ RDs K w H ds vs ∧ okR K ct (fun w H => RS K w H) (gAll gs ds σd h) w H Q
def tO (K : PySem.W.Frag) (ct : CT) (f : Sg → Hd → Res (Option Int)) : TO := fun σ H Q => ∃ w h σd, SR K w H ct h ∧ RS K w H σd σ ∧ okR K ct (fun _ _ a b => a = b) (f σd h) w H Q

section
variable (ct : CT) (X : Cx)
abbrev SE (e : Expr) (f : EE) : Prop := PE X e (tE X.K ct f)
abbrev SA (es : List Expr) (f : EA) : Prop := PA X es (tA X.K ct f)
abbrev ST (e : Expr) (f : ET) : Prop := PT X e (tT X.K ct f)
abbrev SW (e : Expr) (f : ET) : Prop := PW X e (tT X.K ct f)
abbrev SX (s : Stmt) (f : SS) : Prop := PS X s (tS X.K ct f)
abbrev SXs (s : List Stmt) (f : SS) : Prop := PSs X s (tS X.K ct f)
end
theorem pe_imp {X : Cx} {e : Expr} {t t' : TE} (h : PE X e t) (i : ∀ σ H Q, t' σ H Q → t σ H Q) : PE X e t' := ⟨fun pins s σ H Q I q => h.run pins s σ H Q I (i σ H Q q)⟩
theorem pa_imp {X : Cx} {e : List Expr} {t t' : TA} (h : PA X e t) (i : ∀ σ H Q, t' σ H Q → t σ H Q) : PA X e t' := ⟨fun pos pins s σ H Q I q => h.run pos pins s σ H Q I (i σ H Q q)⟩
theorem pt_imp {X : Cx} {e : Expr} {t t' : TT} (h : PT X e t) (i : ∀ σ H Q, t' σ H Q → t σ H Q) : PT X e t' := ⟨fun pins s σ H Q I q => h.run pins s σ H Q I (i σ H Q q)⟩
theorem pw_imp {X : Cx} {e : Expr} {t t' : TT} (h : PW X e t) (i : ∀ σ H Q, t' σ H Q → t σ H Q) : PW X e t' := ⟨fun wh pins s σ H Q I q => h.run wh pins s σ H Q I (i σ H Q q)⟩
theorem ps_imp {X : Cx} {e : Stmt} {t t' : TS} (h : PS X e t) (i : ∀ E σ H, t' E σ H → t E σ H) : PS X e t' := ⟨fun pins s σ H D I q => h.run pins s σ H D I (i D σ H q)⟩
theorem pss_imp {X : Cx} {e : List Stmt} {t t' : TS} (h : PSs X e t) (i : ∀ E σ H, t' E σ H → t E σ H) : PSs X e t' := ⟨fun pins s σ H D I q => h.run pins s σ H D I (i D σ H q)⟩

section
variable {ct : CT} {X : Cx} {a b c e : Expr} {es rest : List Expr} {fa fb fc fe : EE} {ga gb gc : ET} {g : EF} {ha : EA} {pos : Pos}
theorem se_var {i : Nat} {x : Str} (h : PE X (.Name x pos) (tVar i)) : SE ct X (.Name x pos) (eVar i) := pe_imp h fun σ H Q ⟨w, h, σd, sr, rs, q⟩ => by
  unfold eVar at q
  split at q
  · rename_i d e
    obtain ⟨v, h1, h2⟩ := rs.2 i d e
    exact ⟨v, h1, q.here sr h2⟩
  · exact q.elim
theorem se_c {d : D} {v : V} (h : PE X e (tC v)) (r : ∀ w H, RD X.K w H d v) : SE ct X e (eC d) := pe_imp h fun σ H Q ⟨w, h, σd, sr, rs, q⟩ => q.here sr (r w H)
theorem se_int {i j} : SE ct X (.Constant (.int i) j pos) (eC (.int i)) := se_c pe_int fun _ _ => rfl
theorem se_bl {i j} : SE ct X (.Constant (.bool i) j pos) (eC (.bl i)) := se_c pe_bl fun _ _ => rfl
theorem se_non {j} : SE ct X (.Constant .none j pos) (eC .non) := se_c pe_non fun _ _ => rfl
theorem se_str {i j} : SE ct X (.Constant (.str i) j pos) (eC (.str i)) := se_c pe_str fun _ _ => rfl
theorem sa_nil : SA ct X [] aNil := pa_imp pa_nil fun σ H Q ⟨w, h, σd, sr, rs, q⟩ => q.here sr RDs.nil
theorem sa_cons (h1 : SE ct X e fe) (h2 : SA ct X es ha) (hs : starEach (e :: es) X.env = (false, eval e X.env) :: starEach es X.env := by rfl) : SA ct X (e :: es) (aCons fe ha) :=
  pa_imp (pa_cons h1 h2 hs) fun σ H Q ⟨w, h, σd, sr, rs, q⟩ => by
    refine ⟨w, h, σd, sr, rs, (okR.bind (rel := rV X.K) q).imp fun x H1 ⟨w1, h1, d, st1, sr1, r1, q1⟩ => ?_⟩
    refine ⟨w1, h1, σd, sr1, st1.rsg rs, (okR.bind (rel := rVs X.K) q1).imp fun xs H2 ⟨w2, h2, ds, st2, sr2, r2, q2⟩ => ?_⟩
    exact q2.here sr2 (.cons (st2.rd _ _ r1) r2)
theorem eAp2_eq (σ : Sg) (h : Hd) : eAp2 g fa fb σ h = (fa σ h).bind fun x h1 => (fb σ h1).bind fun y h2 => g [x, y] h2 := by
  unfold eAp2 eAp aCons aNil
  cases fa σ h with
  | ok x h1 => simp only [Res.bind_ok]; cases fb σ h1 <;> rfl
  | exc => rfl
  | bad => rfl
theorem eAp1_eq (σ : Sg) (h : Hd) : eAp1 g fa σ h = (fa σ h).bind fun x h1 => g [x] h1 := by
  unfold eAp1 eAp aCons aNil
  cases fa σ h <;> rfl
theorem tOp_of {r : R2} (hr : ∀ x y H Q, rG X.K ct g [x, y] H Q → r x y H Q) {σ : St} {H : Hp} {Q : VK} (q : tE X.K ct (eAp2 g fa fb) σ H Q) : tOp r (tE X.K ct fa) (tE X.K ct fb) σ H Q := by
  obtain ⟨w, h, σd, sr, rs, q⟩ := q
  rw [eAp2_eq] at q
  refine ⟨w, h, σd, sr, rs, (okR.bind (rel := rV X.K) q).imp fun x H1 ⟨w1, h1, d, st1, sr1, r1, q1⟩ => ?_⟩
  refine ⟨w1, h1, σd, sr1, st1.rsg rs, (okR.bind (rel := rV X.K) q1).imp fun y H2 ⟨w2, h2, d2, st2, sr2, r2, q2⟩ => ?_⟩
  exact hr x y H2 Q ⟨w2, h2, [d, d2], sr2, .cons (st2.rd _ _ r1) (.cons r2 .nil), q2⟩
abbrev r2G (K : PySem.W.Frag) (ct : CT) (g : EF) : R2 := fun x y H Q => rG K ct g [x, y] H Q
theorem se_op {op : Operator} (ho : OpR X (binaryOp op) (r2G X.K ct g)) (h1 : SE ct X a fa) (h2 : SE ct X b fb) : SE ct X (.BinOp a op b pos) (eAp2 g fa fb) :=
  pe_imp (pe_op ho h1 h2) fun _ _ _ q => tOp_of (fun _ _ _ _ z => z) q
theorem se_cmp {op : CmpOp} (ho : OpR X (compareOp op) (r2G X.K ct g)) (h1 : SE ct X a fa) (h2 : SE ct X b fb) (hm : behindInMarks op b = false := by first | exact nomark _ (by decide) (by decide) | rfl) : SE ct X (.Compare a [op] [b] pos) (eAp2 g fa fb) :=
  pe_imp (pe_cmpR ho h1 h2 hm) fun _ _ _ q => tOp_of (fun _ _ _ _ z => z) q
theorem tTest_of {t : TE} (ht : ∀ σ H Q, tE X.K ct fa σ H Q → t σ H Q) {σ : St} {H : Hp} {Q : Bool → Hp → Prop} (q : tT X.K ct (tB fa) σ H Q) : t σ H fun x H1 => ∃ k, x = .bl k ∧ Q k H1 := by
  obtain ⟨w, h, σd, sr, rs, q⟩ := q
  refine ht _ _ _ ⟨w, h, σd, sr, rs, (okR.bind (rel := rV X.K) q).imp fun x H1 ⟨w1, h1, d, st1, sr1, r1, q1⟩ => ?_⟩
  cases d with
  | bl k => exact ⟨k, r1, q1.here sr1 rfl⟩
  | _ => exact q1.elim
theorem st_cmp {op : CmpOp} (ho : OpR X (compareOp op) (r2G X.K ct g)) (h1 : SE ct X a fa) (h2 : SE ct X b fb) (hm : behindInMarks op b = false := by first | exact nomark _ (by decide) (by decide) | rfl) : ST ct X (.Compare a [op] [b] pos) (tB (eAp2 g fa fb)) :=
  pt_imp (pt_cmpR ho h1 h2 hm) fun _ _ _ q => tTest_of (fun _ _ _ z => tOp_of (fun _ _ _ _ z => z) z) q
/-- an expression whose value is a truth value, as a test -/
theorem st_val (h : SE ct X e fe) (he : ∀ whole, isTrue e X.env whole = (do let v ← whole; standAt e.pos; holding [v] (truthy v)) := by intro _; rfl) : ST ct X e (tB fe) :=
  pt_imp (pt_val h he) fun _ _ _ q => tTest_of (t := tE X.K ct fe) (fun _ _ _ z => z) q
theorem tT_bind {f : ET} {k : Bool → ET} {σ : St} {H : Hp} {Q : Bool → Hp → Prop} (q : tT X.K ct (fun σ h => (f σ h).bind fun b h1 => k b σ h1) σ H Q) :
    tT X.K ct f σ H fun b H1 => tT X.K ct (k b) σ H1 Q := by
  obtain ⟨w, h, σd, sr, rs, q⟩ := q
  refine ⟨w, h, σd, sr, rs, (okR.bind (rel := rB) q).imp fun b H1 ⟨w1, h1, d, st1, sr1, r1, q1⟩ => ?_⟩
  cases r1
  exact ⟨w1, h1, σd, sr1, st1.rsg rs, q1⟩
theorem tT_ok {b : Bool} {σ : St} {H : Hp} {Q : Bool → Hp → Prop} (q : tT X.K ct (fun _ h => .ok b h) σ H Q) : Q b H := by
  obtain ⟨w, h, σd, sr, rs, q⟩ := q
  exact q.here sr rfl
theorem st_not (h : ST ct X a ga) : ST ct X (.UnaryOp .Not a pos) (tNot ga) := pt_imp (pt_not h) fun σ H Q q => by
  have := tT_bind (k := fun b _ h1 => .ok (!b) h1) q
  obtain ⟨w, h, σd, sr, rs, q⟩ := this
  exact ⟨w, h, σd, sr, rs, q.imp fun b H1 z => tT_ok z⟩
theorem tT_ite {b : Bool} {f k : ET} {σ : St} {H : Hp} {Q : Bool → Hp → Prop} (q : tT X.K ct (fun σ h => if b = true then f σ h else k σ h) σ H Q) : if b = true then tT X.K ct f σ H Q else tT X.K ct k σ H Q := by
  cases b with
  | true => exact q
  | false => exact q
theorem tT_imp {f : ET} {σ : St} {H : Hp} {Q Q' : Bool → Hp → Prop} (q : tT X.K ct f σ H Q) (i : ∀ b H, Q b H → Q' b H) : tT X.K ct f σ H Q' := by
  obtain ⟨w, h, σd, sr, rs, q⟩ := q
  exact ⟨w, h, σd, sr, rs, q.imp i⟩
theorem sw_and1 (h : ST ct X a ga) : SW ct X (.BoolOp .And [a] pos) ga := pw_and1 h
theorem sw_or1 (h : ST ct X a ga) : SW ct X (.BoolOp .Or [a] pos) ga := pw_or1 h
theorem sw_and (h1 : ST ct X a ga) (h2 : SW ct X (.BoolOp .And (b :: rest) pos) gb) : SW ct X (.BoolOp .And (a :: b :: rest) pos) (tAnd ga gb) := pw_imp (pw_and h1 h2) fun σ H Q q =>
  tT_imp (tT_bind (k := fun b σ h1 => if b = true then gb σ h1 else .ok false h1) q) fun b H1 z => by
    have z := tT_ite z
    cases b with
    | true => exact z
    | false => exact tT_ok z
theorem sw_or (h1 : ST ct X a ga) (h2 : SW ct X (.BoolOp .Or (b :: rest) pos) gb) : SW ct X (.BoolOp .Or (a :: b :: rest) pos) (tOr ga gb) := pw_imp (pw_or h1 h2) fun σ H Q q =>
  tT_imp (tT_bind (k := fun b σ h1 => if b = true then .ok true h1 else gb σ h1) q) fun b H1 z => by
    have z := tT_ite z
    cases b with
    | true => exact tT_ok z
    | false => exact z
theorem st_w (h : SW ct X e ga) : ST ct X e ga := h.pt
theorem se_one {op} {f : EE} (h : SE ct X a f) : SE ct X (.BoolOp op [a] pos) f := pe_one h
end
end
end BR

namespace BR
open PySem L2
section
variable {ct : CT} {X : Cx} {a b c e : Expr} {es rest : List Expr} {fa fb fc fe : EE} {ga gb gc : ET} {g : EF} {ha : EA} {pos : Pos}
theorem se_and (h1 : SE ct X a fa) (h2 : SE ct X (.BoolOp .And (b :: rest) pos) fb) : SE ct X (.BoolOp .And (a :: b :: rest) pos) (eAnd fa fb) := pe_imp (pe_and h1 h2) fun σ H Q ⟨w, h, σd, sr, rs, q⟩ => by
  refine ⟨w, h, σd, sr, rs, (okR.bind (rel := rV X.K) q).imp fun x H1 ⟨w1, h1, d, st1, sr1, r1, q1⟩ => ?_⟩
  cases d with
  | bl k =>
    refine ⟨k, r1, ?_⟩
    cases k with
    | true => exact ⟨w1, h1, σd, sr1, st1.rsg rs, q1⟩
    | false => exact q1.here sr1 rfl
  | _ => exact q1.elim
theorem se_not (h1 : SE ct X a fa) : SE ct X (.UnaryOp .Not a pos) (eNot fa) := pe_imp (pe_not h1) fun σ H Q ⟨w, h, σd, sr, rs, q⟩ => by
  refine ⟨w, h, σd, sr, rs, (okR.bind (rel := rV X.K) q).imp fun x H1 ⟨w1, h1, d, st1, sr1, r1, q1⟩ => ?_⟩
  cases d with
  | bl k => exact ⟨k, r1, q1.here sr1 rfl⟩
  | _ => exact q1.elim
theorem se_un {op : UnaryOp} (ho : UnR X (unaryOp op) (fun x H Q => rG X.K ct g [x] H Q)) (h1 : SE ct X a fa) : SE ct X (.UnaryOp op a pos) (eAp1 g fa) := pe_imp (pe_un ho h1) fun σ H Q ⟨w, h, σd, sr, rs, q⟩ => by
  rw [eAp1_eq] at q
  exact ⟨w, h, σd, sr, rs, (okR.bind (rel := rV X.K) q).imp fun x H1 ⟨w1, h1, d, st1, sr1, r1, q1⟩ => ⟨w1, h1, [d], sr1, .cons r1 .nil, q1⟩⟩
theorem tChain_of {g' : EF} {σ : St} {H : Hp} {Q : VK} (q : tE X.K ct (eCh g g' fa fb fc) σ H Q) : tChain (r2G X.K ct g) (r2G X.K ct g') (tE X.K ct fa) (tE X.K ct fb) (tE X.K ct fc) σ H Q := by
  obtain ⟨w, h, σd, sr, rs, q⟩ := q
  refine ⟨w, h, σd, sr, rs, (okR.bind (rel := rV X.K) q).imp fun x H1 ⟨w1, h1, d, st1, sr1, r1, q1⟩ => ?_⟩
  refine ⟨w1, h1, σd, sr1, st1.rsg rs, (okR.bind (rel := rV X.K) q1).imp fun y H2 ⟨w2, h2, d2, st2, sr2, r2, q2⟩ => ?_⟩
  refine ⟨w2, h2, [d, d2], sr2, .cons (st2.rd _ _ r1) (.cons r2 .nil), (okR.bind (rel := rV X.K) q2).imp fun z H3 ⟨w3, h3, d3, st3, sr3, r3, q3⟩ => ?_⟩
  cases d3 with
  | bl k =>
    refine ⟨k, r3, ?_⟩
    cases k with
    | true => exact ⟨w3, h3, σd, sr3, st3.rsg (st2.rsg (st1.rsg rs)), (okR.bind (rel := rV X.K) q3).imp fun u H4 ⟨w4, h4, d4, st4, sr4, r4, q4⟩ => ⟨w4, h4, [d2, d4], sr4, .cons (st4.rd _ _ (st3.rd _ _ r2)) (.cons r4 .nil), q4⟩⟩
    | false => exact q3.here sr3 rfl
  | _ => exact q3.elim
theorem st_chain {op op' : CmpOp} {g' : EF} (ho : OpR X (compareOp op) (r2G X.K ct g)) (ho' : OpR X (compareOp op') (r2G X.K ct g')) (h1 : SE ct X a fa) (h2 : SE ct X b fb) (h3 : SE ct X c fc)
    (hm : lastMarks [op, op'] [b, c] = false := by with_unfolding_all rfl) : ST ct X (.Compare a [op, op'] [b, c] pos) (tB (eCh g g' fa fb fc)) := pt_imp (pt_chain ho ho' h1 h2 h3 hm) fun σ H Q q => tTest_of (fun _ _ _ z => tChain_of z) q
theorem se_ix (hr : IxR X (r2G X.K ct g)) (h1 : SE ct X a fa) (h2 : SE ct X b fb) (hs : PlainIx b := by exact fun _ _ => rfl) : SE ct X (.Subscript a b pos) (eAp2 g fa fb) :=
  pe_imp (pe_ix hr h1 h2 hs) fun _ _ _ q => tOp_of (fun _ _ _ _ z => z) q
abbrev rSG (K : PySem.W.Frag) (ct : CT) (g : D → Option Int → Option Int → Hd → Res D) : V → Option Int → Option Int → Hp → VK → Prop := fun x lo hi H Q => ∃ w h d, SR K w H ct h ∧ RD K w H d x ∧ okR K ct (rV K) (g d lo hi h) w H Q
abbrev SO (ct : CT) (X : Cx) (o : Option Expr) (f : Sg → Hd → Res (Option Int)) : Prop := PO X o (tO X.K ct f)
theorem po_imp {X : Cx} {e : Option Expr} {t t' : TO} (h : PO X e t) (i : ∀ σ H Q, t' σ H Q → t σ H Q) : PO X e t' := ⟨fun pins s σ H Q I q => h.run pins s σ H Q I (i σ H Q q)⟩
theorem so_no : SO ct X none oNo := po_imp po_none fun σ H Q ⟨w, h, σd, sr, rs, q⟩ => q.here sr rfl
theorem so_p (h1 : SE ct X a fa) : SO ct X (some a) (oP fa) := po_imp (po_some h1) fun σ H Q ⟨w, h, σd, sr, rs, q⟩ => by
  refine ⟨w, h, σd, sr, rs, (okR.bind (rel := rV X.K) q).imp fun x H1 ⟨w1, h1, d, st1, sr1, r1, q1⟩ => ?_⟩
  cases d with
  | int k => exact ⟨k, r1, q1.here sr1 rfl⟩
  | _ => exact q1.elim
theorem se_sl {gs : D → Option Int → Option Int → Hd → Res D} {lo hi : Option Expr} {p2 : Pos} {fl fu : Sg → Hd → Res (Option Int)} (hr : SlR X (rSG X.K ct gs)) (h1 : SE ct X a fa) (h2 : SO ct X lo fl) (h3 : SO ct X hi fu) :
    SE ct X (.Subscript a (.Slice lo hi none p2) pos) (eSl gs fa fl fu) := pe_imp (pe_slice hr h1 h2 h3) fun σ H Q ⟨w, h, σd, sr, rs, q⟩ => by
  refine ⟨w, h, σd, sr, rs, (okR.bind (rel := rV X.K) q).imp fun x H1 ⟨w1, h1, d, st1, sr1, r1, q1⟩ => ?_⟩
  refine ⟨w1, h1, σd, sr1, st1.rsg rs, (okR.bind (rel := fun _ _ a b => a = b) q1).imp fun l H2 ⟨w2, h2, l', st2, sr2, e2, q2⟩ => ?_⟩
  subst e2
  refine ⟨w2, h2, σd, sr2, st2.rsg (st1.rsg rs), (okR.bind (rel := fun _ _ a b => a = b) q2).imp fun u H3 ⟨w3, h3, u', st3, sr3, e3, q3⟩ => ?_⟩
  subst e3
  exact ⟨w3, h3, d, sr3, st3.rd _ _ (st2.rd _ _ r1), q3⟩
theorem tCB_of {σ : St} {H : Hp} {Q : VK} (q : tE X.K ct (eAp g ha) σ H Q) : tCB (rG X.K ct g) (tA X.K ct ha) σ H Q := by
  obtain ⟨w, h, σd, sr, rs, q⟩ := q
  exact ⟨w, h, σd, sr, rs, (okR.bind (rel := rVs X.K) q).imp fun x H1 ⟨w1, h1, ds, st1, sr1, r1, q1⟩ => ⟨w1, h1, ds, sr1, r1, q1⟩⟩
/-- a call of a built-in function or class -/
theorem se_cb {e' : Expr} (h2 : PE X e' (tCB (rG X.K ct g) (tA X.K ct ha))) : SE ct X e' (eAp g ha) := pe_imp h2 fun _ _ _ q => tCB_of q
/-- a display -/
theorem se_tup {x1} (h : SA ct X es ha) : SE ct X (.Tuple es x1 pos) (eAp (fun ds h => if ds.length ≤ LIM then .ok (.tup ds) h else .bad) ha) := pe_imp (pe_tup h) fun σ H Q ⟨w, h, σd, sr, rs, q⟩ => by
  refine ⟨w, h, σd, sr, rs, (okR.bind (rel := rVs X.K) q).imp fun xs H1 ⟨w1, h1, ds, st1, sr1, r1, q1⟩ => ?_⟩
  split at q1
  · rename_i hl
    refine ⟨by rw [← r1.len]; exact Nat.le_trans hl (by rw [sizeLine_eq]; decide), fun p hp => ?_⟩
    exact q1 w1 _ _ (.alloc sr1 hp) (sr1.alloc hp) ⟨p, xs, rfl, SqT.of upd_same, (Step.alloc sr1 hp).rds r1⟩
  · exact q1.elim
theorem se_lst (h : SA ct X es ha) : SE ct X (.List es pos) (eAp (fun ds h => if ds.length ≤ LIM then .ok (.lst ds) h else .bad) ha) := pe_imp (pe_lst h) fun σ H Q ⟨w, h, σd, sr, rs, q⟩ => by
  refine ⟨w, h, σd, sr, rs, (okR.bind (rel := rVs X.K) q).imp fun xs H1 ⟨w1, h1, ds, st1, sr1, r1, q1⟩ => ?_⟩
  split at q1
  · rename_i hl
    refine ⟨by rw [← r1.len]; exact Nat.le_trans hl (by rw [sizeLine_eq]; decide), fun p hp => ?_⟩
    exact q1 w1 _ _ (.alloc sr1 hp) (sr1.alloc hp) ⟨p, xs, rfl, ⟨upd_same, sr1.fresh hp⟩, (Step.alloc sr1 hp).rds r1⟩
  · exact q1.elim
theorem se_lstR (h : SA ct X es ha) : SE ct X (.List es pos) (eAp (fun ds h => if ds.length ≤ LIM then .ok (.ref h.length) (h ++ [.lst ds]) else .bad) ha) := pe_imp (pe_lst h) fun σ H Q ⟨w, h, σd, sr, rs, q⟩ => by
  refine ⟨w, h, σd, sr, rs, (okR.bind (rel := rVs X.K) q).imp fun xs H1 ⟨w1, h1, ds, st1, sr1, r1, q1⟩ => ?_⟩
  split at q1
  · rename_i hl
    refine ⟨by rw [← r1.len]; exact Nat.le_trans hl (by rw [sizeLine_eq]; decide), fun p hp => ?_⟩
    refine q1 _ _ _ (.new sr1 hp) (sr1.new hp ⟨xs, upd_same, (Step.new sr1 hp).rds r1⟩) ⟨p, rfl, ?_⟩
    show (w1.io ++ [p])[h1.length]? = some p
    rw [← sr1.len, List.getElem?_append_right (Nat.le_refl _), Nat.sub_self]; rfl
  · exact q1.elim
variable {s : Stmt} {ss : List Stmt} {f k : SS}
theorem tS_bind {α β : Type} {rel : W → Hp → α → β → Prop} {r : Sg → Hd → Res α} {k : α → SS} {E : Ends} {σ : St} {H : Hp} (q : tS X.K ct (fun σ h => (r σ h).bind fun a h1 => k a σ h1) E σ H) :
    ∃ w h σd, SR X.K w H ct h ∧ RS X.K w H σd σ ∧ okR X.K ct rel (r σd h) w H fun b H1 => ∃ w1 h1 a, SR X.K w1 H1 ct h1 ∧ RS X.K w1 H1 σd σ ∧ rel w1 H1 a b ∧ okR X.K ct (rF X.K) (k a σd h1) w1 H1 (endOf E) := by
  obtain ⟨w, h, σd, sr, rs, q⟩ := q
  exact ⟨w, h, σd, sr, rs, (okR.bind (rel := rel) q).imp fun b H1 ⟨w1, h1, a, st1, sr1, r1, q1⟩ => ⟨w1, h1, a, sr1, st1.rsg rs, r1, q1⟩⟩
theorem ss_nil : SXs ct X [] sNop := pss_imp pss_nil fun E σ H ⟨w, h, σd, sr, rs, q⟩ => okR.here (b := FlV.nx σ) q sr rs
theorem ss_one (h1 : SX ct X s f) : SXs ct X [s] f := pss_one h1
theorem tS_seq {k : SS} {E : Ends} {σ : St} {H : Hp} (q : tS X.K ct (sSeq f k) E σ H) : tS X.K ct f { E with nx := tS X.K ct k E } σ H := by
  obtain ⟨w, h, σd, sr, rs, q⟩ := q
  refine ⟨w, h, σd, sr, rs, (okR.bind (rel := rF X.K) q).imp fun b H1 ⟨w1, h1, fl, st1, sr1, r1, q1⟩ => ?_⟩
  cases fl with
  | nx σ1 => cases b with
    | nx σ2 => exact ⟨w1, h1, σ1, sr1, r1, q1⟩
    | _ => exact r1.elim
  | bk σ1 => cases b with
    | bk σ2 => exact okR.here (K := X.K) (ct := ct) (rel := rF X.K) (a := Fl.bk σ1) (b := FlV.bk σ2) (Q := endOf E) q1 sr1 r1
    | _ => exact r1.elim
  | ct σ1 => cases b with
    | ct σ2 => exact okR.here (K := X.K) (ct := ct) (rel := rF X.K) (a := Fl.ct σ1) (b := FlV.ct σ2) (Q := endOf E) q1 sr1 r1
    | _ => exact r1.elim
  | rt d => cases b with
    | rt v => exact okR.here (K := X.K) (ct := ct) (rel := rF X.K) (a := Fl.rt d) (b := FlV.rt v) (Q := endOf E) q1 sr1 r1
    | _ => exact r1.elim
theorem ss_cons (h1 : SX ct X s f) (h2 : SXs ct X ss k) : SXs ct X (s :: ss) (sSeq f k) := pss_imp (pss_cons h1 h2) fun E σ H q => tS_seq q
theorem sx_ex (h1 : SE ct X e fe) (hs : swapsWith e none pos.line X.env = pure false := by rfl) : SX ct X (.Expr e pos) (sEx fe) := ps_imp (ps_expr h1 hs) fun E σ H q => by
  obtain ⟨w, h, σd, sr, rs, q⟩ := tS_bind (rel := rV X.K) q
  exact ⟨w, h, σd, sr, rs, q.imp fun b H1 ⟨w1, h1, a, sr1, rs1, _, q1⟩ => okR.here (b := FlV.nx σ) q1 sr1 rs1⟩
theorem sx_ret (h1 : SE ct X e fe) : SX ct X (.Return (some e) pos) (sRet fe) := ps_imp (ps_ret h1) fun E σ H q => by
  obtain ⟨w, h, σd, sr, rs, q⟩ := tS_bind (rel := rV X.K) q
  exact ⟨w, h, σd, sr, rs, q.imp fun b H1 ⟨w1, h1, a, sr1, rs1, r1, q1⟩ => okR.here (b := FlV.rt b) q1 sr1 r1⟩
theorem sx_if {t u : List Stmt} (h1 : ST ct X c gc) (h2 : SXs ct X t f) (h3 : SXs ct X u k) : SX ct X (.If c t u pos) (sIf gc f k) := ps_imp (ps_if h1 h2 h3) fun E σ H q => by
  obtain ⟨w, h, σd, sr, rs, q⟩ := tS_bind (rel := rB) (k := fun b σ h => if b = true then f σ h else k σ h) q
  refine ⟨w, h, σd, sr, rs, q.imp fun b H1 ⟨w1, h1, a, sr1, rs1, r1, q1⟩ => ?_⟩
  cases r1
  cases b with
  | true => exact ⟨w1, h1, σd, sr1, rs1, q1⟩
  | false => exact ⟨w1, h1, σd, sr1, rs1, q1⟩
abbrev SG (ct : CT) (X : Cx) (e : Expr) (g : EG) : Prop := PG X e (tG X.K ct g)
abbrev SGs (ct : CT) (X : Cx) (es : List Expr) (gs : List EG) : Prop := PGs X es (tGs X.K ct gs)
theorem pg_imp {X : Cx} {e : Expr} {t t' : TG} (h : PG X e t) (i : ∀ v σ H Q, t' v σ H Q → t v σ H Q) : PG X e t' := ⟨fun pins s σ H v u Q I r q => h.run pins s σ H v u Q I r (i v σ H Q q)⟩
theorem pgs_imp {X : Cx} {e : List Expr} {t t' : TGs} (h : PGs X e t) (i : ∀ v σ H Q, t' v σ H Q → t v σ H Q) : PGs X e t' := ⟨fun pins s σ H v u Q I r q => h.run pins s σ H v u Q I r (i v σ H Q q)⟩
theorem RS.set {K : PySem.W.Frag} {w : W} {H : Hp} {σd : Sg} {σ : St} (r : RS K w H σd σ) {d : D} {v : V} (q : RD K w H d v) (i : Nat) : RS K w H (σd.set i (some d)) (σ.set i (some v)) := by
  refine ⟨by simp [r.1], fun j x e => ?_⟩
  by_cases hj : i = j
  · subst hj
    by_cases hl : i < σd.length
    · rw [List.getElem?_set_self hl] at e
      cases e
      exact ⟨v, by rw [List.getElem?_set_self (by rw [← r.1]; exact hl)], q⟩
    · rw [List.getElem?_eq_none (by simp; omega)] at e; cases e
  · rw [List.getElem?_set_ne hj] at e
    obtain ⟨u, h1, h2⟩ := r.2 j x e
    exact ⟨u, by rw [List.getElem?_set_ne hj]; exact h1, h2⟩
theorem gName_of {i : Nat} : ∀ v σ H Q, tG X.K ct (gVar i) v σ H Q → gName i v σ H Q := fun v σ H Q ⟨w, h, σd, d, sr, rs, rd, q⟩ => okR.here (b := σ.set i (some v)) q sr (rs.set rd i)
theorem sg_var {i : Nat} {x : Str} (h : PG X (.Name x pos) (gName i)) : SG ct X (.Name x pos) (gVar i) := pg_imp h gName_of
theorem sgs_nil : SGs ct X [] [] := pgs_imp pgs_nil fun vs σ H Q ⟨w, h, σd, ds, sr, rs, rd, q⟩ => by
  cases ds with
  | nil => cases (show vs = [] from rd); exact ⟨rfl, q.here sr rs⟩
  | cons d ds => exact q.elim
theorem sgs_cons {gt : EG} {gts : List EG} (h1 : SG ct X e gt) (h2 : SGs ct X es gts) (hs : (assignEach (e :: es) X.env).map (·.2) = assign e X.env :: (assignEach es X.env).map (·.2) := by rfl) : SGs ct X (e :: es) (gt :: gts) :=
  pgs_imp (pgs_cons h1 h2 hs) fun vs σ H Q ⟨w, h, σd, ds, sr, rs, rd, q⟩ => by
    cases ds with
    | nil => exact q.elim
    | cons d ds =>
      obtain ⟨v, r, rfl, rv, rr⟩ := rd
      refine ⟨v, r, rfl, w, h, σd, d, sr, rs, rv, (okR.bind (rel := fun w H => RS X.K w H) q).imp fun σ1 H1 ⟨w1, h1, σd1, st1, sr1, r1, q1⟩ => ?_⟩
      exact ⟨w1, h1, σd1, ds, sr1, r1, st1.rds rr, q1⟩
theorem gAll_len {K : PySem.W.Frag} {w : W} {H : Hp} {Q : St → Hp → Prop} : ∀ (gs : List EG) (ds : List D) (σ : Sg) (h : Hd), okR K ct (fun w H => RS K w H) (gAll gs ds σ h) w H Q → ds.length = gs.length := by
  intro gs
  induction gs with
  | nil =>
    intro ds σ h q
    cases ds with
    | nil => rfl
    | cons => exact q.elim
  | cons g gs ih =>
    intro ds σ h q
    cases ds with
    | nil => exact q.elim
    | cons d ds =>
      have q : okR K ct (fun w H => RS K w H) ((g d σ h).bind fun σ1 h1 => gAll gs ds σ1 h1) w H Q := q
      cases e : g d σ h with
      | ok σ1 h1 => rw [e] at q; simp only [List.length_cons]; rw [ih ds σ1 h1 q]
      | exc => rw [e] at q; exact q.elim
      | bad => rw [e] at q; exact q.elim
theorem sg_tup {kk n : Nat} {gts : List EG} (hc : X.calm = true) (h1 : SGs ct X es gts) (hl : gts.length = n := by rfl)
    (hn : (assignEach es X.env).length = n := by rfl) (hst : (assignEach es X.env).findIdx? (·.1) = none := by rfl) : SG ct X (.Tuple es kk pos) (gTup gts) := pg_imp (pg_tup hc h1 hn hst) fun v σ H Q ⟨w, h, σd, d, sr, rs, rd, q⟩ => by
  cases d with
  | tup xs =>
    obtain ⟨a, vs, rfl, hq, rr⟩ := rd
    exact ⟨a, vs, rfl, hq, by rw [← rr.len, gAll_len _ _ _ _ q, hl], w, h, σd, xs, sr, rs, rr, q⟩
  | _ => exact q.elim
/-- a store into a thing, by values -/
abbrev rSet (K : PySem.W.Frag) (ct : CT) (g : EF) : TSet := fun o i v H Q => rG K ct g [o, i, v] H fun _ H' => Q H'
theorem sg_sub {o i : Expr} {fo fi : EE} (hs : PSet X (rSet X.K ct g)) (h1 : SE ct X o fo) (h2 : SE ct X i fi)
    (hh : ∀ v, assign (.Subscript o i pos) X.env v = (do
      let ov ← holding [v] (eval o X.env)
      let iv ← holding [v, ov] (eval i X.env)
      standAt pos
      holding [v, ov, iv] (setItem ov iv v)
      release [v, ov, iv] []) := by intro _; rfl) : SG ct X (.Subscript o i pos) (gSub fo fi g) := pg_imp (pg_sub h1 h2 hs hh) fun v σ H Q ⟨w, h, σd, d, sr, rs, rd, q⟩ => by
  refine ⟨w, h, σd, sr, rs, (okR.bind (rel := rV X.K) q).imp fun x H1 ⟨w1, h1, d1, st1, sr1, r1, q1⟩ => ?_⟩
  refine ⟨w1, h1, σd, sr1, st1.rsg rs, (okR.bind (rel := rV X.K) q1).imp fun y H2 ⟨w2, h2, d2, st2, sr2, r2, q2⟩ => ?_⟩
  refine ⟨w2, h2, [d1, d2, d], sr2, .cons (st2.rd _ _ r1) (.cons r2 (.cons (st2.rd _ _ (st1.rd _ _ rd)) .nil)), (okR.bind (rel := rV X.K) q2).imp fun z H3 ⟨w3, h3, d3, st3, sr3, r3, q3⟩ => ?_⟩
  exact okR.here (b := σ) q3 sr3 (st3.rsg (st2.rsg (st1.rsg rs)))
theorem tAsg_of {gt : EG} {tg : TG} (ht : ∀ v σ H Q, tG X.K ct gt v σ H Q → tg v σ H Q) {E : Ends} {σ : St} {H : Hp} (q : tS X.K ct (sAsg fe gt) E σ H) : tAsg (tE X.K ct fe) tg E σ H := by
  obtain ⟨w, h, σd, sr, rs, q⟩ := tS_bind (rel := rV X.K) (k := fun d σ h1 => (gt d σ h1).bind fun σ1 h2 => .ok (.nx σ1) h2) q
  refine ⟨w, h, σd, sr, rs, q.imp fun v H1 ⟨w1, h1, d, sr1, rs1, r1, q1⟩ => ht _ _ _ _ ?_⟩
  exact ⟨w1, h1, σd, d, sr1, rs1, r1, (okR.bind (rel := fun w H => RS X.K w H) q1).imp fun σ1 H2 ⟨w2, h2, σd2, st2, sr2, r2, q2⟩ => okR.here (b := FlV.nx σ1) q2 sr2 r2⟩
theorem sx_asg {tg : Expr} {gt : EG} (h1 : SE ct X e fe) (h2 : SG ct X tg gt) (hs : swapsWithSole [tg] e pos.line X.env = pure false := by rfl) (hw : swappedStores [tg] e X.env = pure none := by rfl)
    (hh : (assignEach [tg] X.env).map (·.2) = [assign tg X.env] := by rfl) : SX ct X (.Assign [tg] e pos) (sAsg fe gt) := ps_imp (ps_asg h1 h2 hs hw hh) fun E σ H q => tAsg_of (fun _ _ _ _ z => z) q
theorem sx_set {i : Nat} {x : Str} {pos' : Pos} {te : TE} (h : PS X (.Assign [.Name x pos'] e pos) (tAsg te (gName i))) (ht : ∀ σ H Q, tE X.K ct fe σ H Q → te σ H Q) : SX ct X (.Assign [.Name x pos'] e pos) (sAsg fe (gVar i)) :=
  ps_imp h fun E σ H q => ht _ _ _ (tAsg_of (tg := gName i) gName_of q)
/-- o[i] op= e -/
theorem sx_augS {o i : Expr} {fo fi : EE} {gt go gs : EF} {op : Operator} {tpos : Pos} (hg : PGet X (r2G X.K ct gt)) (hp : PIp X op (r2G X.K ct go)) (hs : PSet X (rSet X.K ct gs)) (h1 : SE ct X o fo) (h2 : SE ct X i fi) (h3 : SE ct X e fe)
    (hh : ∀ ov iv new, augStore i ov iv new = (do holding [new, ov, iv] (setItem ov iv new); release [new, ov, iv] []; pure .next) := by intros; rfl) : SX ct X (.AugAssign (.Subscript o i tpos) op e pos) (sAugS fo fi fe gt go gs) := ps_imp (ps_augS h1 h2 hg h3 hp hs hh) fun E σ H q => by
  obtain ⟨w, h, σd, sr, rs, q⟩ := q
  refine ⟨w, h, σd, sr, rs, (okR.bind (rel := rV X.K) q).imp fun x H1 ⟨w1, h1, d1, st1, sr1, r1, q1⟩ => ?_⟩
  refine ⟨w1, h1, σd, sr1, st1.rsg rs, (okR.bind (rel := rV X.K) q1).imp fun y H2 ⟨w2, h2, d2, st2, sr2, r2, q2⟩ => ?_⟩
  refine ⟨w2, h2, [d1, d2], sr2, .cons (st2.rd _ _ r1) (.cons r2 .nil), (okR.bind (rel := rV X.K) q2).imp fun z H3 ⟨w3, h3, d3, st3, sr3, r3, q3⟩ => ?_⟩
  have rs3 := st3.rsg (st2.rsg (st1.rsg rs))
  refine ⟨w3, h3, σd, sr3, rs3, (okR.bind (rel := rV X.K) q3).imp fun u H4 ⟨w4, h4, d4, st4, sr4, r4, q4⟩ => ?_⟩
  refine ⟨w4, h4, [d3, d4], sr4, .cons (st4.rd _ _ r3) (.cons r4 .nil), (okR.bind (rel := rV X.K) q4).imp fun v H5 ⟨w5, h5, d5, st5, sr5, r5, q5⟩ => ?_⟩
  have st35 := st3.trans (st4.trans st5)
  refine ⟨w5, h5, [d1, d2, d5], sr5, .cons (st35.rd _ _ (st2.rd _ _ r1)) (.cons (st35.rd _ _ r2) (.cons r5 .nil)), (okR.bind (rel := rV X.K) q5).imp fun t H6 ⟨w6, h6, d6, st6, sr6, r6, q6⟩ => ?_⟩
  exact okR.here (b := FlV.nx σ) q6 sr6 ((st4.trans (st5.trans st6)).rsg rs3)
theorem sx_wh {body : List Stmt} (hp : PassesOwn (model X.prog X.w) X.A X.env X.xe) (h1 : ST ct X c gc) (h2 : SXs ct X body f) : SX ct X (.While c body [] pos) (sWh gc f) := ps_imp (ps_while hp h1 h2) fun E σ H ⟨w, h, σd, sr, rs, q⟩ => by
  have nb : sWh gc f σd h ≠ .bad := fun e => by rw [e] at q; exact q
  obtain ⟨n, en⟩ := sWh_to nb
  rw [← en] at q
  refine ⟨fun m σ H => ∃ w h σd, SR X.K w H ct h ∧ RS X.K w H σd σ ∧ okR X.K ct (rF X.K) (whF gc f m σd h) w H (endOf E), ⟨n, w, h, σd, sr, rs, q⟩, ?_⟩
  intro m σ H ⟨w, h, σd, sr, rs, q⟩
  cases m with
  | zero => exact q.elim
  | succ m =>
    refine ⟨w, h, σd, sr, rs, (okR.bind (rel := rB) q).imp fun b H1 ⟨w1, h1, a, st1, sr1, r1, q1⟩ => ?_⟩
    cases r1
    cases b with
    | false => exact okR.here (K := X.K) (ct := ct) (rel := rF X.K) (a := Fl.nx σd) (b := FlV.nx σ) (Q := endOf E) q1 sr1 (st1.rsg rs)
    | true =>
      simp only [if_true] at q1 ⊢
      refine ⟨fun σ H => ∃ w h σd, SR X.K w H ct h ∧ RS X.K w H σd σ ∧ okR X.K ct (rF X.K) (whF gc f m σd h) w H (endOf E), fun σ' H' z => ⟨m, Nat.lt_succ_self _, z⟩, ?_⟩
      refine ⟨w1, h1, σd, sr1, st1.rsg rs, (okR.bind (rel := rF X.K) q1).imp fun b H2 ⟨w2, h2, fl, st2, sr2, r2, q2⟩ => ?_⟩
      cases fl with
      | nx σ1 => cases b with
        | nx σ2 => exact ⟨w2, h2, σ1, sr2, r2, q2⟩
        | _ => exact r2.elim
      | ct σ1 => cases b with
        | ct σ2 => exact ⟨w2, h2, σ1, sr2, r2, q2⟩
        | _ => exact r2.elim
      | bk σ1 => cases b with
        | bk σ2 => exact okR.here (K := X.K) (ct := ct) (rel := rF X.K) (a := Fl.nx σ1) (b := FlV.nx σ2) (Q := endOf E) q2 sr2 r2
        | _ => exact r2.elim
      | rt d => cases b with
        | rt v => exact okR.here (K := X.K) (ct := ct) (rel := rF X.K) (a := Fl.rt d) (b := FlV.rt v) (Q := endOf E) q2 sr2 r2
        | _ => exact r2.elim
end
end BR

namespace BR
open PySem PySem.Spec PyProof.Rows L2
section
variable {X : Cx} {tg l e : Expr} {tl : TE} {ta : TA}
/-- a list or tuple, by values -/
def iSeq (K : PySem.W.Frag) (tl : TE) : TI := fun σ H R => tl σ H fun x H1 => ∃ a, x = .ref a ∧ (((∃ xs, SqL K H1 a xs) ∧ R (Itl K a) H1) ∨ ((∃ xs, SqT K H1 a xs) ∧ R (Itt K a) H1))
theorem pi_seq (hl : PE X l tl) : PI X tg l (iSeq X.K tl) := by
  refine ⟨fun pins s σ H R I h => ?_⟩
  refine thn (hl.run pins s σ H _ I h) fun v s1 ⟨x, H1, I1, r1, q1⟩ => ?_
  obtain ⟨a, e, q⟩ := q1
  subst e
  cases r1
  rcases q with ⟨⟨xs, hq⟩, q⟩ | ⟨⟨xs, hq⟩, q⟩
  · obtain ⟨its, rv, p, hz⟩ := I1.list hq
    refine wpAny_pyIter_list p.isList ?_
    refine ⟨s1.heap.objs.size, [s1.heap.objs.size], _, _, H1, rfl, I1.kept (t' := s1.toks) fun b o e => Heap.get?_push_of_some _ e, turn_list a _, ⟨_, Heap.get?_push_size _ rfl, rfl, rfl⟩, fun b hb => ?_, q⟩
    have e : b = s1.heap.objs.size := by simpa using hb
    subst e
    exact I1.fpOk (Nat.le_refl _) (I1.hok.fresh (Nat.le_refl _))
  · obtain ⟨its, rv, p, hz⟩ := I1.tuple hq
    refine wpAny_pyIter_tuple (show s1.heap.IsTuple a its.toArray from p) ?_
    refine ⟨s1.heap.objs.size, [s1.heap.objs.size], _, _, H1, rfl, I1.kept (t' := s1.toks) fun b o e => Heap.get?_push_of_some _ e, turn_tuple a _, ⟨_, Heap.get?_push_size _ rfl, rfl, rfl⟩, fun b hb => ?_, q⟩
    have e : b = s1.heap.objs.size := by simpa using hb
    subst e
    exact I1.fpOk (Nat.le_refl _) (I1.hok.fresh (Nat.le_refl _))

def IteT (K : PySem.W.Frag) (a : Addr) : L2.It :=
  ⟨fun i H => ∃ (xs : List V) (x : V), SqT K H a xs ∧ xs[i]? = some x, fun i H v H' => ∃ T x, v = .ref T ∧ H T = none ∧ H' = upd H T (.tup [.int (i : Nat), x]) ∧ ∀ xs, SqT K H a xs → xs[i]? = some x, fun i H => ∃ xs : List V, SqT K H a xs ∧ xs.length = i⟩
theorem turn_enumT {P : Program} {w : World} {K : PySem.W.Frag} {elts : List Expr} {kk : Nat} {tpos : Pos} (a e it : Addr) :
    Turn P w K (.Tuple elts kk tpos) (IteT K a) [e, it] e (fun i h => (∃ old, IsEnum h e it ((i : Nat) : Int) old) ∧ h.IsTupleIter it a i ∧ e ≠ it ∧ e ≠ a ∧ it ≠ a) where
  mem := by simp
  obj := fun i h st b hb => by
    obtain ⟨⟨old, he⟩, ⟨o, ho, hc, hd⟩, _⟩ := st
    have e' : b = e ∨ b = it := by simpa using hb
    rcases e' with z | z
    · rw [z]; exact ⟨_, he, fun v q => nomatch q⟩
    · rw [z]; exact ⟨o, ho, fun v q => by rw [hd] at q; cases q⟩
  keep := fun i h h' st k => let ⟨⟨old, he⟩, hi, hne⟩ := st; ⟨⟨old, k e (by simp) _ he⟩, hi.at fun o q => k it (by simp) o q, hne⟩
  item := by
    intro X hP hw hK hc i pins s σ H E I hf st hg
    subst hP hw hK
    obtain ⟨⟨old, he⟩, hit, hne, hea, hia⟩ := st
    obtain ⟨xs, x, hq, hx⟩ := hg
    obtain ⟨its, rv, p, hz⟩ := I.tuple hq
    have p : s.heap.IsTuple a its.toArray := p
    obtain ⟨u, hu, ru⟩ := rv.get hx
    have hel : e < s.heap.objs.size := Heap.lt_size he
    have hil : it < s.heap.objs.size := by obtain ⟨_, q, _⟩ := hit; exact Heap.lt_size q
    have hlt : i < its.toArray.size := by
      have := (List.getElem?_eq_some_iff.mp hu).1
      simpa using this
    refine wpAny_pyNext_enum_itemD (Draws.tuple (A := X.A.in1) (by exact I.ok.hd hc) it a (Ne.symm hia) its.toArray) he ⟨hit, p⟩ hlt hne (by simp [hne, hea]) fun y h' tk hy ho hst' hT hsz hk => ?_
    have : y = u := by
      have hy : its.toArray[i]? = some y := hy
      rw [List.getElem?_toArray, hu] at hy
      exact (Option.some.inj hy).symm
    subst this
    refine ⟨_, rfl, wpAny_letOwnedTupleGo_enum (s := { s with heap := h', toks := tk + 1 }) ho fun h'' he' sb => ?_⟩
    have hT2 : h''.get? s.heap.objs.size = some { cls := .type "tuple", data := .seq #[.int i tk, y] } := (sb.2 _ (Nat.ne_of_gt hel)).trans hT
    have new : ObjOk X.prog X.w (upd H s.heap.objs.size (.tup [.int (i : Nat), x])) h'' s.heap.objs.size (.tup [.int (i : Nat), x]) :=
      ⟨by show 2 ≤ sizeLine; decide, [.int i tk, y], .cons ⟨_, rfl⟩ (.cons ru .nil), ⟨_, hT2, rfl, _, rfl⟩⟩
    have I1 : Inv X pins σ (upd H s.heap.objs.size (.tup [.int (i : Nat), x])) { s with heap := h'', toks := tk + 1 } :=
      I.turnedNew (ch := [e, it]) (fun b ob hb q => (sb.2 b (fun z => hb (by simp [z]))).trans (hk b ob (fun z => hb (by simp [z])) (fun z => hb (by simp [z])) q)) hf (Nat.le_refl _) new
    refine ⟨.ref s.heap.objs.size, _, I1, rfl, ⟨_, x, rfl, I.hok.fresh (Nat.le_refl _), rfl, fun ys hy => by rw [I.tuple_inj hy hq]; exact hx⟩, ⟨⟨y, ?_⟩, hst'.1.at fun o q => (sb.2 it (Ne.symm hne)).trans q, hne, hea, hia⟩, fun b hb => ?_⟩
    · have e1 : ((i + 1 : Nat) : Int) = (i : Int) + 1 := by omega
      rw [e1]; exact he'
    · have hb' : b < s.heap.objs.size := by
        have e' : b = e ∨ b = it := by simpa using hb
        rcases e' with z | z
        · rw [z]; exact hel
        · rw [z]; exact hil
      rw [upd_ne (Nat.ne_of_lt hb')]
      exact (hf b hb).1
  done := by
    intro X hP hw hK hc i pins s σ H E I hf st hg
    subst hP hw hK
    obtain ⟨⟨old, he⟩, hit, hne, hea, hia⟩ := st
    obtain ⟨xs, hq, hx⟩ := hg
    obtain ⟨its, rv, p, hz⟩ := I.tuple hq
    have p : s.heap.IsTuple a its.toArray := p
    obtain ⟨f0, f1, f2, f3, f4, f5⟩ := hf it (by simp)
    have hl := rv.length
    have hn : its.toArray.size = i := by simp; omega
    refine wpAny_pyNext_enum_endD (Draws.tuple (A := X.A.in1) (by exact I.ok.hd hc) it a (Ne.symm hia) its.toArray) he (by rw [hn]; exact ⟨hit, p⟩) fun h' eb => ⟨rfl, I.turned (t' := s.toks) (fun b o hb q => eb b o hb q) f0 f1 f3 f4 f5⟩
  self := fun A i s Q E st h => let ⟨⟨_, he⟩, _⟩ := st; wpAny_pyIter_enum he h
/-- enumerate(list or tuple) -/
def iEnumA (K : PySem.W.Frag) (ta : TA) : TI := fun σ H R => ta σ H fun vs H1 => ∃ a, vs = [.ref a] ∧ (((∃ xs, SqL K H1 a xs) ∧ R (Ite K a) H1) ∨ ((∃ xs, SqT K H1 a xs) ∧ R (IteT K a) H1))
set_option maxHeartbeats 1000000 in
theorem meets_enumB {v : Value} {o : Obj} {H : Heap → Prop} (B : Begins v o H) :
    Meets (Builtin.«enumerate.__new__» ⟨[.type "enumerate", v], []⟩) (fun _ R s => H s.heap ∧
      R (.ok (.ret (.ref (s.heap.push o).objs.size))) { s with heap := (s.heap.push o).push { cls := .type "enumerate", data := .fields #[.none, .bool false, .ref s.heap.objs.size, rawInt 0, .none, .none] } }) :=
  .of_wp fun prog w A R s h => by
    obtain ⟨hp, g, d, tk, os⟩ := s; obtain ⟨h1, h⟩ := h
    have hsub := sub_enumerate
    have q1 : ∀ {A' : Around} {E : Value → Shared → Prop} {Q : Value → Shared → Prop}, Q (.ref hp.objs.size) ⟨hp.push o, g, d, tk, os⟩ → wpAny (model prog w) A' (pyIter v) Q E ⟨hp, g, d, tk, os⟩ :=
      fun q => B.iter prog w _ _ ⟨hp, g, d, tk, os⟩ _ h1 q
    wp_walk using q1
    refine wpAny_stack_any fun st => wpAny_pure ?_
    split
    · rename_i c _ _ _ _ _
      cases (c == Value.type "enumerate")
      · wp_walk using q1
        exact ⟨_, rfl, h⟩
      · wp_walk using q1
        exact ⟨_, rfl, h⟩
    · wp_walk using q1
      exact ⟨_, rfl, h⟩
theorem call_enumT {prog : Program} {w : World} {A : Around} {E : Value → Shared → Prop} {s : Shared} {t : Addr} {items : Array Value} {Q : Value → Shared → Prop} (ht : s.heap.IsTuple t items)
    (h : ∀ h', IsEnum h' (s.heap.objs.size + 1) s.heap.objs.size 0 .none → h'.IsTupleIter s.heap.objs.size t 0 → h'.objs.size = s.heap.objs.size + 2 →
      (∀ b o, s.heap.get? b = some o → h'.get? b = some o) → Q (.ref (s.heap.objs.size + 1)) { s with heap := h' }) :
    wpAny (model prog w) A (call (.type "enumerate") [.ref t]) Q E s := by
  have B := begins_tuple t items
  refine callType_new F.called_enumerate (by decide) (F.typeCall_enumerate_1 _) (F.newCall_enumerate_1 _) (fun obj => F.args_object_init_2 obj _) F.entry_enumerate_new
    (meets_enumB B) ⟨ht, ?_⟩
  generalize ho : ({ cls := .type "tuple_iterator", data := .fields #[.ref t, .int 0 0] } : Obj) = o
  have hf : o.isFreed = false := by rw [← ho]; rfl
  have hz : (s.heap.push o).objs.size = s.heap.objs.size + 1 := Heap.size_push ..
  show _ ∧ _
  rw [hz]
  have he : IsEnum ((s.heap.push o).push { cls := .type "enumerate", data := .fields #[.none, .bool false, .ref s.heap.objs.size, rawInt 0, .none, .none] }) (s.heap.objs.size + 1) s.heap.objs.size 0 .none := by
    have := Heap.get?_push_size (s.heap.push o) (o := { cls := .type "enumerate", data := .fields #[.none, .bool false, .ref s.heap.objs.size, rawInt 0, .none, .none] }) rfl
    rw [hz] at this; exact this
  refine ⟨⟨_, he, rfl⟩, h _ he ⟨o, Heap.get?_push_of_some _ (Heap.get?_push_size _ hf), by rw [← ho], by rw [← ho]; rfl⟩ (by rw [Heap.size_push, hz]) fun b o x => Heap.get?_push_of_some _ (Heap.get?_push_of_some _ x)⟩
theorem pi_enumA {X : Cx} {e : Expr} {ta : TA} {p pos tpos : Pos} {elts : List Expr} {kk : Nat} (hg : Gl X "enumerate") (hm : X.mg "enumerate" = none) (ha : PA X [e] ta) (hs : starEach [e] X.env = [(false, eval e X.env)] := by rfl) :
    PI X (.Tuple elts kk tpos) (.Call (.Name "enumerate" p) [e] [] pos) (iEnumA X.K ta) := by
  refine ⟨fun pins s σ H R I h => ?_⟩
  refine Call_ (ld_blt I hg hm boot_enumerate (PyProof.Rows.callWith_type1 (thn (ha.run pos pins s σ H _ I h) fun us s1 ⟨vs, H1, I1, r1, q1⟩ => ?_) hs rfl))
  obtain ⟨a, ex, q⟩ := q1
  subst ex
  cases r1 with
  | cons r rr =>
    cases rr
    cases r
    have fin : ∀ {b : Addr} {H' : Hp}, b ∈ [s1.heap.objs.size + 1, s1.heap.objs.size] → FpOk X pins H1 b := fun {b H'} hb => by
      have e' : b = s1.heap.objs.size + 1 ∨ b = s1.heap.objs.size := by simpa using hb
      have hle : s1.heap.objs.size ≤ b := by
        rcases e' with z | z
        · rw [z]; exact Nat.le_add_right _ _
        · rw [z]; exact Nat.le_refl _
      exact I1.fpOk hle (I1.hok.fresh hle)
    rcases q with ⟨⟨xs, hq⟩, q⟩ | ⟨⟨xs, hq⟩, q⟩
    · obtain ⟨its, rv, p', hz⟩ := I1.list hq
      refine call_enumerate_list p'.isList fun h' he hit hsz hk => wpAny_pyIter_enum he ?_
      have I2 : Inv X pins σ H1 { s1 with heap := h' } := I1.kept (t' := s1.toks) hk
      exact ⟨s1.heap.objs.size + 1, [s1.heap.objs.size + 1, s1.heap.objs.size], _, _, H1, rfl, I2, turn_enum a (s1.heap.objs.size + 1) s1.heap.objs.size, ⟨⟨.none, he⟩, hit, Nat.succ_ne_self _⟩, fun b hb => fin (H' := H1) hb, q⟩
    · obtain ⟨its, rv, p', hz⟩ := I1.tuple hq
      have p' : s1.heap.IsTuple a its.toArray := p'
      have hlt : a < s1.heap.objs.size := by obtain ⟨o, e, _⟩ := p'; exact Heap.lt_size e
      refine call_enumT p' fun h' he hit hsz hk => wpAny_pyIter_enum he ?_
      have I2 : Inv X pins σ H1 { s1 with heap := h' } := I1.kept (t' := s1.toks) hk
      exact ⟨s1.heap.objs.size + 1, [s1.heap.objs.size + 1, s1.heap.objs.size], _, _, H1, rfl, I2, turn_enumT a (s1.heap.objs.size + 1) s1.heap.objs.size, ⟨⟨.none, he⟩, hit, Nat.succ_ne_self _, Nat.ne_of_gt (Nat.lt_succ_of_lt hlt), Nat.ne_of_gt hlt⟩, fun b hb => fin (H' := H1) hb, q⟩
end
end BR

namespace BR
open PySem PySem.Spec PyProof.Rows L2
section
variable {K : PySem.W.Frag} {ct : CT} {w w' w1 w2 : W} {H H' H1 H2 : Hp} {h h' : Hd}
def Mono (K : PySem.W.Frag) (w : W) (H : Hp) (w' : W) (H' : Hp) : Prop := (∃ m, w'.io = w.io ++ m) ∧ ∀ d v, RD K w H d v → RD K w' H' d v
theorem Step.mono (s : Step K w H w' H') : Mono K w H w' H' := ⟨s.pre, s.rd⟩
theorem Mono.refl : Mono K w H w H := ⟨⟨[], by simp⟩, fun _ _ r => r⟩
theorem Mono.trans (a : Mono K w H w1 H1) (b : Mono K w1 H1 w2 H2) : Mono K w H w2 H2 := by
  obtain ⟨⟨m1, e1⟩, f1⟩ := a
  obtain ⟨⟨m2, e2⟩, f2⟩ := b
  exact ⟨⟨m1 ++ m2, by rw [e2, e1, List.append_assoc]⟩, fun d v r => f2 d v (f1 d v r)⟩
/-- J gives the items of I, in turn -/
def Goes (K : PySem.W.Frag) (ct : CT) (I : Walked) (J : L2.It) (w : W) (H : Hp) : Prop := ∃ G : W → Hp → Prop, G w H ∧ (∀ w1 H1 w2 H2, G w1 H1 → Mono K w1 H1 w2 H2 → G w2 H2) ∧
  ∀ w1 H1 h1, G w1 H1 → SR K w1 H1 ct h1 → okChk I.chk h1 → J.stop I.items.length H1 ∧ ∀ i, i < I.items.length → J.go i H1 ∧ ∀ x H2, J.yld i H1 x H2 → Step K w1 H1 w1 H2 ∧ SR K w1 H2 ct h1 ∧ ∃ d, I.items[i]? = some d ∧ RD K w1 H2 d x
def tI (K : PySem.W.Frag) (ct : CT) (f : EI) : TI := fun σ H R => ∃ w h σd, SR K w H ct h ∧ RS K w H σd σ ∧ okR K ct (fun w H I J => Goes K ct I J w H) (f σd h) w H R

def isTup : D → Bool
  | .tup _ => true
  | _ => false
theorem holds_of {d : D} {v : V} {xs : List D} (sr : SR K w H ct h) (rd : RD K w H d v) (e : seqOf h d = some xs) : ∃ a vs, v = .ref a ∧ RDs K w H xs vs ∧ ((isTup d = false ∧ SqL K H a vs) ∨ (isTup d = true ∧ SqT K H a vs)) := by
  cases d with
  | tup ys =>
    cases e
    obtain ⟨a, vs, e1, e2, e3⟩ := rd
    exact ⟨a, vs, e1, e3, .inr ⟨rfl, e2⟩⟩
  | lst ys =>
    cases e
    obtain ⟨a, vs, e1, e2, e3⟩ := rd
    exact ⟨a, vs, e1, e3, .inl ⟨rfl, SqL.of e2.1⟩⟩
  | ref n =>
    obtain ⟨a, e1, e2⟩ := rd
    unfold seqOf at e
    simp only at e
    split at e
    · rename_i ys q
      cases e
      obtain ⟨vs, q1, q2⟩ := sr.ob n _ a q e2
      exact ⟨a, vs, e1, q2, .inl ⟨rfl, SqL.of q1⟩⟩
    · cases e
  | _ => cases e
end
theorem Step.kept {K : PySem.W.Frag} {w : W} {H : Hp} : Step K w H w H := .refl

section
variable {ct : CT} {X : Cx} {tg l e : Expr} {fe : EE} {ha : EA} {pos : Pos}
abbrev SI (ct : CT) (X : Cx) (tg e : Expr) (f : EI) : Prop := PI X tg e (tI X.K ct f)
theorem pi_imp {X : Cx} {tg e : Expr} {t t' : TI} (h : PI X tg e t) (i : ∀ σ H Q, t' σ H Q → t σ H Q) : PI X tg e t' := ⟨fun pins s σ H Q I q => h.run pins s σ H Q I (i σ H Q q)⟩
/-- a list or a tuple is walked -/
def iVal (f : EE) : EI := fun σ h => (f σ h).bind fun d h1 => match seqOf h1 d with
  | some xs => .ok ⟨xs, chkOf h1 d⟩ h1
  | none => .bad
/-- behind okChk the value holds these items still -/
theorem seqOf_chk {h h1 : Hd} {d : D} {xs : List D} (e : seqOf h d = some xs) (c : okChk (chkOf h d) h1) : seqOf h1 d = some xs := by
  cases d with
  | tup ys => exact e
  | lst ys => exact e
  | ref n =>
    unfold seqOf chkOf at *
    simp only at e c ⊢
    split at e
    · rename_i ys q
      cases e
      rw [q] at c
      have := c (n, xs) (by simp)
      simp only at this
      rw [this]
    · cases e
  | _ => cases e
theorem si_val (h1 : SE ct X e fe) : SI ct X tg e (iVal fe) := pi_imp (pi_seq h1) fun σ H R ⟨w, h, σd, sr, rs, q⟩ => by
  refine ⟨w, h, σd, sr, rs, (okR.bind (rel := rV X.K) q).imp fun x H1 ⟨w1, h1, d, st1, sr1, r1, q1⟩ => ?_⟩
  cases e : seqOf h1 d with
  | none => rw [e] at q1; exact q1.elim
  | some xs =>
    rw [e] at q1
    obtain ⟨a, vs, ex, rr, z⟩ := holds_of sr1 r1 e
    subst ex
    refine ⟨a, rfl, ?_⟩
    rcases z with ⟨hk, z⟩ | ⟨hk, z⟩
    · refine .inl ⟨⟨vs, z⟩, okR.here (K := X.K) (ct := ct) (rel := fun w H I J => Goes X.K ct I J w H) (b := Itl X.K a) q1 sr1 ⟨fun w H => RD X.K w H d (.ref a), r1, fun w1 H1 w2 H2 g m => m.2 _ _ g, fun w2 H2 h2 g sr2 ck => ?_⟩⟩
      obtain ⟨a', us, ea, rr2, z2⟩ := holds_of sr2 g (seqOf_chk e ck)
      cases ea
      have hl := rr2.len
      rcases z2 with ⟨_, z2⟩ | ⟨hk2, _⟩
      · refine ⟨⟨us, z2, by show us.length ≤ xs.length; omega⟩, fun i hi => ?_⟩
        replace hi : i < xs.length := hi
        refine ⟨⟨us, us[i]'(by omega), z2, by simp [show i < us.length by omega]⟩, fun x H3 y => ?_⟩
        obtain ⟨e3, y⟩ := y
        subst e3
        refine ⟨.refl, sr2, xs[i], by simp [hi], ?_⟩
        obtain ⟨v, e4, r4⟩ := rr2.get (i := i) (d := xs[i]) (by simp [hi])
        rw [y us z2] at e4
        cases e4
        exact r4
      · rw [hk] at hk2; cases hk2
    · refine .inr ⟨⟨vs, z⟩, okR.here (K := X.K) (ct := ct) (rel := fun w H I J => Goes X.K ct I J w H) (b := Itt X.K a) q1 sr1 ⟨fun w H => RD X.K w H d (.ref a), r1, fun w1 H1 w2 H2 g m => m.2 _ _ g, fun w2 H2 h2 g sr2 ck => ?_⟩⟩
      obtain ⟨a', us, ea, rr2, z2⟩ := holds_of sr2 g (seqOf_chk e ck)
      cases ea
      have hl := rr2.len
      rcases z2 with ⟨hk2, _⟩ | ⟨_, z2⟩
      · rw [hk] at hk2; cases hk2
      · refine ⟨⟨us, z2, by show us.length ≤ xs.length; omega⟩, fun i hi => ?_⟩
        replace hi : i < xs.length := hi
        refine ⟨⟨us, us[i]'(by omega), z2, by simp [show i < us.length by omega]⟩, fun x H3 y => ?_⟩
        obtain ⟨e3, y⟩ := y
        subst e3
        refine ⟨.refl, sr2, xs[i], by simp [hi], ?_⟩
        obtain ⟨v, e4, r4⟩ := rr2.get (i := i) (d := xs[i]) (by simp [hi])
        rw [y us z2] at e4
        cases e4
        exact r4
/-- range(n), range(a, b) -/
def BIG : Int := 1000000000000
def rngItems (lo : Int) (n : Nat) : List D := (List.range n).map fun (i : Nat) => D.int (lo + i)
def iRg1 (a : EA) : EI := fun σ h => (a σ h).bind fun ds h1 => match ds with
  | [.int j] => if -BIG ≤ j ∧ j ≤ BIG then .ok ⟨rngItems 0 j.toNat, []⟩ h1 else .bad
  | _ => .bad
def iRg2 (a : EA) : EI := fun σ h => (a σ h).bind fun ds h1 => match ds with
  | [.int i, .int j] => if (-BIG ≤ i ∧ i ≤ BIG) ∧ -BIG ≤ j ∧ j ≤ BIG then .ok ⟨rngItems i (j - i).toNat, []⟩ h1 else .bad
  | _ => .bad
theorem goes_rng {K : PySem.W.Frag} {w : W} {H : Hp} (lo : Int) (n : Nat) : Goes K ct ⟨rngItems lo n, []⟩ (Itr lo n) w H :=
  ⟨fun _ _ => True, trivial, fun _ _ _ _ _ _ => trivial, fun w1 H1 h1 _ sr _ => ⟨by simp [Itr, rngItems], fun i hi => ⟨by simpa [Itr, rngItems] using hi, fun x H2 ⟨e1, e2⟩ => by
    subst e1; subst e2
    have hi' : i < n := by simpa [rngItems] using hi
    exact ⟨.refl, sr, .int (lo + i), by simp [rngItems, hi'], rfl⟩⟩⟩⟩
theorem si_rg1 {a : Expr} {p pos : Pos} (hg : Gl X "range") (hm : X.mg "range" = none) (h1 : SA ct X [a] ha) (hs : starEach [a] X.env = [(false, eval a X.env)] := by rfl) : SI ct X tg (.Call (.Name "range" p) [a] [] pos) (iRg1 ha) :=
  pi_imp (pi_range1 hg hm h1 hs) fun σ H R ⟨w, h, σd, sr, rs, q⟩ => by
    refine ⟨w, h, σd, sr, rs, (okR.bind (rel := rVs X.K) q).imp fun xs H1 ⟨w1, h1, ds, st1, sr1, r1, q1⟩ => ?_⟩
    split at q1
    · rename_i j
      obtain ⟨v, r, rfl, hv, hr⟩ := r1
      cases (show v = _ from hv)
      cases (show r = [] from hr)
      by_cases hc : -BIG ≤ j ∧ j ≤ BIG
      · rw [if_pos hc] at q1
        unfold BIG at hc
        exact ⟨j, rfl, by omega, by omega, okR.here (K := X.K) (ct := ct) (rel := fun w H I J => Goes X.K ct I J w H) q1 sr1 (goes_rng 0 _)⟩
      · rw [if_neg hc] at q1; exact q1.elim
    · exact q1.elim
theorem si_rg2 {a b : Expr} {p pos : Pos} (hg : Gl X "range") (hm : X.mg "range" = none) (h1 : SA ct X [a, b] ha) (h2 : ∀ ta, PA X [a, b] ta → PI X tg (.Call (.Name "range" p) [a, b] [] pos) (iRng2 ta)) : SI ct X tg (.Call (.Name "range" p) [a, b] [] pos) (iRg2 ha) :=
  pi_imp (h2 _ h1) fun σ H R ⟨w, h, σd, sr, rs, q⟩ => by
    refine ⟨w, h, σd, sr, rs, (okR.bind (rel := rVs X.K) q).imp fun xs H1 ⟨w1, h1, ds, st1, sr1, r1, q1⟩ => ?_⟩
    split at q1
    · rename_i i j
      obtain ⟨v, r, rfl, hv, u, r', rfl, hu, hr⟩ := r1
      cases (show v = _ from hv)
      cases (show u = _ from hu)
      cases (show r' = [] from hr)
      by_cases hc : (-BIG ≤ i ∧ i ≤ BIG) ∧ -BIG ≤ j ∧ j ≤ BIG
      · rw [if_pos hc] at q1
        unfold BIG at hc
        exact ⟨i, j, rfl, ⟨by omega, by omega, by omega, by omega⟩, okR.here (K := X.K) (ct := ct) (rel := fun w H I J => Goes X.K ct I J w H) q1 sr1 (goes_rng i _)⟩
      · rw [if_neg hc] at q1; exact q1.elim
    · exact q1.elim
/-- enumerate(list or tuple) -/
def enumFrom : Nat → List D → List D
  | _, [] => []
  | i, d :: ds => .tup [.int (i : Nat), d] :: enumFrom (i + 1) ds
theorem enumFrom_len : ∀ (i : Nat) (ds : List D), (enumFrom i ds).length = ds.length
  | _, [] => rfl
  | i, d :: ds => by simp [enumFrom, enumFrom_len (i + 1) ds]
theorem enumFrom_get : ∀ (k : Nat) (ds : List D) (i : Nat) (d : D), ds[i]? = some d → (enumFrom k ds)[i]? = some (.tup [.int ((k + i : Nat) : Int), d])
  | _, [], _, _, e => by simp at e
  | k, d :: ds, 0, x, e => by simp at e; subst e; simp [enumFrom]
  | k, d :: ds, i + 1, x, e => by
    have := enumFrom_get (k + 1) ds i x (by simpa using e)
    simp only [enumFrom, List.getElem?_cons_succ]
    rw [this]
    have : k + 1 + i = k + (i + 1) := by omega
    rw [this]
def iEn (a : EA) : EI := fun σ h => (a σ h).bind fun ds h1 => match ds with
  | [d] => match seqOf h1 d with
    | some xs => .ok ⟨enumFrom 0 xs, chkOf h1 d⟩ h1
    | none => .bad
  | _ => .bad
theorem si_enum {p pos tpos : Pos} {elts : List Expr} {kk : Nat} (hg : Gl X "enumerate") (hm : X.mg "enumerate" = none) (h1 : SA ct X [e] ha) (hs : starEach [e] X.env = [(false, eval e X.env)] := by rfl) :
    SI ct X (.Tuple elts kk tpos) (.Call (.Name "enumerate" p) [e] [] pos) (iEn ha) := pi_imp (pi_enumA hg hm h1 hs) fun σ H R ⟨w, h, σd, sr, rs, q⟩ => by
  refine ⟨w, h, σd, sr, rs, (okR.bind (rel := rVs X.K) q).imp fun vs H1 ⟨w1, h1, ds, st1, sr1, r1, q1⟩ => ?_⟩
  split at q1
  · rename_i d
    obtain ⟨v, r, rfl, hv, hr⟩ := r1
    cases (show r = [] from hr)
    cases e : seqOf h1 d with
    | none => rw [e] at q1; exact q1.elim
    | some xs =>
      rw [e] at q1
      obtain ⟨a, vs, ex, rr, z⟩ := holds_of sr1 hv e
      subst ex
      refine ⟨a, rfl, ?_⟩
      -- one turn
      have turn : ∀ {w2 : W} {H2 : Hp} {h2 : Hd} {us : List V} {i : Nat} {x : V} {H3 : Hp}, SR X.K w2 H2 ct h2 → RDs X.K w2 H2 xs us → i < xs.length → (∃ T y, x = .ref T ∧ H2 T = none ∧ H3 = upd H2 T (.tup [.int (i : Nat), y]) ∧ us[i]? = some y) →
          Step X.K w2 H2 w2 H3 ∧ SR X.K w2 H3 ct h2 ∧ ∃ d, (enumFrom 0 xs)[i]? = some d ∧ RD X.K w2 H3 d x := fun {w2 H2 h2 us i x H3} sr2 rr2 hi ⟨T, y, e1, e2, e3, e4⟩ => by
        subst e1; subst e3
        refine ⟨.alloc sr2 e2, sr2.alloc e2, _, enumFrom_get 0 xs i xs[i] (by simp [hi]), T, _, rfl, SqT.of upd_same, ?_⟩
        obtain ⟨v, q1, q2⟩ := rr2.get (i := i) (d := xs[i]) (by simp [hi])
        rw [e4] at q1; cases q1
        have hz : ((0 + i : Nat) : Int) = (i : Int) := by omega
        rw [hz]
        exact .cons rfl (.cons ((Step.alloc sr2 e2).rd _ _ q2) .nil)
      rcases z with ⟨hk, z⟩ | ⟨hk, z⟩
      · refine .inl ⟨⟨vs, z⟩, okR.here (K := X.K) (ct := ct) (rel := fun w H I J => Goes X.K ct I J w H) (b := Ite X.K a) q1 sr1 ⟨fun w H => RD X.K w H d (.ref a), hv, fun w1 H1 w2 H2 g m => m.2 _ _ g, fun w2 H2 h2 g sr2 ck => ?_⟩⟩
        obtain ⟨a', us, ea, rr2, z2⟩ := holds_of sr2 g (seqOf_chk e ck)
        cases ea
        have hl := rr2.len
        rcases z2 with ⟨_, z2⟩ | ⟨hk2, _⟩
        · refine ⟨⟨us, z2, by show us.length ≤ (enumFrom 0 xs).length; rw [enumFrom_len]; omega⟩, fun i hi => ?_⟩
          replace hi : i < xs.length := by rw [← enumFrom_len 0 xs]; exact hi
          refine ⟨⟨us, us[i]'(by omega), z2, by simp [show i < us.length by omega]⟩, fun x H3 y => ?_⟩
          obtain ⟨T, y, e1, e2, e3, e4⟩ := y
          exact turn sr2 rr2 hi ⟨T, y, e1, e2, e3, e4 us z2⟩
        · rw [hk] at hk2; cases hk2
      · refine .inr ⟨⟨vs, z⟩, okR.here (K := X.K) (ct := ct) (rel := fun w H I J => Goes X.K ct I J w H) (b := IteT X.K a) q1 sr1 ⟨fun w H => RD X.K w H d (.ref a), hv, fun w1 H1 w2 H2 g m => m.2 _ _ g, fun w2 H2 h2 g sr2 ck => ?_⟩⟩
        obtain ⟨a', us, ea, rr2, z2⟩ := holds_of sr2 g (seqOf_chk e ck)
        cases ea
        have hl := rr2.len
        rcases z2 with ⟨hk2, _⟩ | ⟨_, z2⟩
        · rw [hk] at hk2; cases hk2
        · refine ⟨⟨us, z2, by show us.length = (enumFrom 0 xs).length; rw [enumFrom_len]; omega⟩, fun i hi => ?_⟩
          replace hi : i < xs.length := by rw [← enumFrom_len 0 xs]; exact hi
          refine ⟨⟨us, us[i]'(by omega), z2, by simp [show i < us.length by omega]⟩, fun x H3 y => ?_⟩
          obtain ⟨T, y, e1, e2, e3, e4⟩ := y
          exact turn sr2 rr2 hi ⟨T, y, e1, e2, e3, e4 us z2⟩
  · exact q1.elim
theorem sx_for {body : List Stmt} {it : EI} {gt : EG} {f : SS} (hp : PassesOwn (model X.prog X.w) X.A X.env X.xe) (hc : X.calm = true) (h1 : SI ct X tg e it) (h2 : SG ct X tg gt) (h3 : SXs ct X body f)
    (hs : ∀ x, foldedSetIterable e X.env x = pure x := by intro _; rfl) : SX ct X (.For tg e body [] pos) (sFor gt it f) := ps_imp (ps_for hp hc h1 h2 h3 hs) fun E σ H ⟨w, h, σd, sr, rs, q⟩ => by
  refine ⟨w, h, σd, sr, rs, (okR.bind (rel := fun w H I J => Goes X.K ct I J w H) q).imp fun J H1 ⟨w1, h1, I, st1, sr1, r1, q1⟩ => ?_⟩
  obtain ⟨G, g0, gm, gt'⟩ := r1
  refine ⟨fun i m σ H => m = I.items.length - i ∧ i ≤ I.items.length ∧ ∃ w h σd, SR X.K w H ct h ∧ RS X.K w H σd σ ∧ G w H ∧ okR X.K ct (rF X.K) (forF gt f I.chk (I.items.drop i) σd h) w H (endOf E),
    ⟨_, rfl, Nat.zero_le _, w1, h1, σd, sr1, st1.rsg rs, g0, q1⟩, ?_⟩
  rintro i m σ H ⟨rfl, hi, w, h, σd, sr, rs, g, q⟩
  by_cases hlt : i < I.items.length
  · rw [List.drop_eq_getElem_cons hlt] at q
    unfold forF at q
    by_cases ck : okChk I.chk h
    · rw [if_pos ck] at q
      obtain ⟨_, go⟩ := gt' w H h g sr ck
      obtain ⟨hgo, hy⟩ := go i hlt
      refine .inr ⟨hgo, fun σ' H' => ∃ w h σd, SR X.K w H' ct h ∧ RS X.K w H' σd σ' ∧ G w H' ∧ okR X.K ct (rF X.K) (forF gt f I.chk (I.items.drop (i + 1)) σd h) w H' (endOf E), fun σ' H' z => ⟨I.items.length - (i + 1), by omega, rfl, hlt, z⟩, fun x H2 y => ?_⟩
      obtain ⟨st2, sr2, d, hd, rd⟩ := hy x H2 y
      have hd' : d = I.items[i] := by simpa [hlt] using hd.symm
      subst hd'
      refine ⟨w, h, σd, _, sr2, st2.rsg rs, rd, (okR.bind (rel := fun w H => RS X.K w H) (q.step st2)).imp fun σ3 H3 ⟨w3, h3, σd3, st3, sr3, r3, q3⟩ => ?_⟩
      refine ⟨w3, h3, σd3, sr3, r3, (okR.bind (rel := rF X.K) q3).imp fun b H4 ⟨w4, h4, fl, st4, sr4, r4, q4⟩ => ?_⟩
      have g4 : G w4 H4 := gm _ _ _ _ g ((st2.trans (st3.trans st4)).mono)
      cases fl with
      | nx σ1 => cases b with
        | nx σ2 => exact ⟨w4, h4, σ1, sr4, r4, g4, q4⟩
        | _ => exact r4.elim
      | ct σ1 => cases b with
        | ct σ2 => exact ⟨w4, h4, σ1, sr4, r4, g4, q4⟩
        | _ => exact r4.elim
      | bk σ1 => cases b with
        | bk σ2 => exact okR.here (K := X.K) (ct := ct) (rel := rF X.K) (a := Fl.nx σ1) (b := FlV.nx σ2) (Q := endOf E) q4 sr4 r4
        | _ => exact r4.elim
      | rt d => cases b with
        | rt v => exact okR.here (K := X.K) (ct := ct) (rel := rF X.K) (a := Fl.rt d) (b := FlV.rt v) (Q := endOf E) q4 sr4 r4
        | _ => exact r4.elim
    · rw [if_neg ck] at q; exact q.elim
  · have e : i = I.items.length := by omega
    subst e
    rw [List.drop_length] at q
    unfold forF at q
    by_cases ck : okChk I.chk h
    · rw [if_pos ck] at q
      exact .inl ⟨(gt' w H h g sr ck).1, okR.here (K := X.K) (ct := ct) (rel := rF X.K) (a := Fl.nx σd) (b := FlV.nx σ) (Q := endOf E) q sr rs⟩
    · rw [if_neg ck] at q; exact q.elim
end
end BR

namespace BR
open PySem PySem.Spec PyProof.Rows L2
theorem wipe_wipe (σ : L2.St) : ∀ vs us : List Nat, (∀ v ∈ vs, v ∈ us) → L2.wipe (L2.wipe σ vs) us = L2.wipe σ us := by
  have get : ∀ (vs : List Nat) (σ : L2.St) (i : Nat), (L2.wipe σ vs)[i]? = if i ∈ vs then (σ[i]?).map (fun _ => none) else σ[i]? := by
    intro vs
    induction vs with
    | nil => intro σ i; simp [L2.wipe]
    | cons v vs ih =>
      intro σ i
      show ((L2.wipe σ vs).set v none)[i]? = _
      by_cases hv : v = i
      · subst hv
        rw [List.getElem?_set, if_pos rfl]
        have e := L2.wipe_length σ vs
        by_cases hl : v < σ.length
        · rw [if_pos (by rw [e]; exact hl)]; simp [hl]
        · rw [if_neg (by rw [e]; exact hl)]; simp [hl]
      · rw [List.getElem?_set_ne hv, ih]
        simp [Ne.symm hv]
  intro vs us h
  refine List.ext_getElem? fun i => ?_
  rw [get us, get us, get vs]
  by_cases hu : i ∈ us
  · simp only [if_pos hu]
    by_cases hv : i ∈ vs
    · simp only [if_pos hv, Option.map_map]; rfl
    · simp [hv]
  · have hv : i ∉ vs := fun z => hu (h i z)
    simp [hu, hv]
theorem wipe_set {σ : L2.St} {i : Nat} {x : Option V} {vs : List Nat} (h : i ∈ vs) : L2.wipe (σ.set i x) vs = L2.wipe σ vs := by
  induction vs with
  | nil => cases h
  | cons v vs ih =>
    show (L2.wipe (σ.set i x) vs).set v none = (L2.wipe σ vs).set v none
    by_cases hm : i ∈ vs
    · rw [ih hm]
    · have hv : i = v := by
        rcases List.mem_cons.mp h with e | e
        · exact e
        · exact absurd e hm
      subst hv
      have out : ∀ (us : List Nat), i ∉ us → L2.wipe (σ.set i x) us = (L2.wipe σ us).set i x := by
        intro us
        induction us with
        | nil => intro _; rfl
        | cons u us ih2 =>
          intro hu
          show (L2.wipe (σ.set i x) us).set u none = ((L2.wipe σ us).set u none).set i x
          rw [ih2 fun z => hu (List.mem_cons_of_mem _ z), List.set_comm _ _ (fun e => hu (by rw [e]; exact List.mem_cons_self))]
      rw [out vs hm, List.set_set]
section
variable {K : PySem.W.Frag} {ct : CT} {w w' w1 w2 : W} {H H' H1 H2 : Hp} {h h' : Hd} {σd : Sg} {σ : L2.St}
theorem RS.wipe (r : RS K w H σd σ) : ∀ vs : List Nat, RS K w H (BR.wipe σd vs) (L2.wipe σ vs) := by
  intro vs
  induction vs with
  | nil => exact r
  | cons v vs ih =>
    refine ⟨?_, fun i d e => ?_⟩
    · show ((BR.wipe σd vs).set v none).length = ((L2.wipe σ vs).set v none).length
      simp [ih.1]
    · replace e : ((BR.wipe σd vs).set v none)[i]? = some (some d) := e
      by_cases hv : v = i
      · subst hv
        rw [List.getElem?_set, if_pos rfl] at e
        split at e <;> cases e
      · rw [List.getElem?_set_ne hv] at e
        obtain ⟨u, h1, h2⟩ := ih.2 i d e
        exact ⟨u, by show ((L2.wipe σ vs).set v none)[i]? = _; rw [List.getElem?_set_ne hv]; exact h1, h2⟩
/-- a target whose names are vs' -/
def tGw (K : PySem.W.Frag) (ct : CT) (vs : List Nat) (g : EG) : TG := fun v σ H Q => ∃ w h σd d, SR K w H ct h ∧ RS K w H σd σ ∧ RD K w H d v ∧ okR K ct (fun w H σd' σ' => RS K w H σd' σ' ∧ L2.wipe σ' vs = L2.wipe σ vs) (g d σd h) w H Q
def tGsw (K : PySem.W.Frag) (ct : CT) (ws : List Nat) (gs : List EG) : TGs := fun vs σ H Q => ∃ w h σd ds, SR K w H ct h ∧ RS K w H σd σ ∧ RDs K w H ds vs ∧ okR K ct (fun w H σd' σ' => RS K w H σd' σ' ∧ L2.wipe σ' ws = L2.wipe σ ws) (gAll gs ds σd h) w H Q
/-- the list that is filled: reserved -/
theorem rsv_rd {D : Addr} {l l' : List V} (hD : D ∈ w.rs) (e : H D = some (.lst l)) : ∀ d v, RD K w H d v → RD K w (upd H D (.lst l')) d v :=
  rd_upd ⟨fun xs z => (by rw [e] at z; cases z), fun o u z => (by rw [e] at z; cases z)⟩ (fun a st z => absurd hD (z ▸ st.2)) (fun _ _ q => q) fun _ _ q => q
theorem rsv_sr {D : Addr} {l l' : List V} (s : SR K w H ct h) (hD : D ∈ w.rs) (e : H D = some (.lst l)) : SR K w (upd H D (.lst l')) ct h :=
  ⟨s.len, s.nd, s.ap, fun a ha => by
    by_cases z : a = D
    · subst z; exact ⟨_, upd_same⟩
    · rw [L2.upd_ne z]; exact s.tr a ha,
   fun n ob a e1 e2 => (s.ob n ob a e1 e2).step (rsv_rd hD e) (L2.upd_ne (show a ≠ D from fun z => s.ap D hD (z ▸ List.mem_of_getElem? e2)))⟩
/-- it begins -/
theorem rsv_new_rd {D : Addr} {o : HO} (s : SR K w H ct h) (hp : H D = none) : ∀ d v, RD K w H d v → RD K ⟨w.io, D :: w.rs⟩ (upd H D o) d v :=
  rd_upd (none_upd hp) (fun a _ z => by rw [z]; exact hp) (fun _ _ q => q) fun a ne st => ⟨st.1, by simp only [List.mem_cons, not_or]; exact ⟨ne, st.2⟩⟩
theorem rsv_new {D : Addr} {l : List V} (s : SR K w H ct h) (hp : H D = none) : SR K ⟨w.io, D :: w.rs⟩ (upd H D (.lst l)) ct h :=
  ⟨s.len, s.nd, fun a ha m => by
    rcases List.mem_cons.mp ha with z | z
    · subst z; exact s.ne_io hp a m rfl
    · exact s.ap a z m,
   fun a ha => by
    by_cases z : a = D
    · subst z; exact ⟨_, upd_same⟩
    · rw [L2.upd_ne z]
      rcases List.mem_cons.mp ha with q | q
      · exact absurd q z
      · exact s.tr a q,
   fun n ob a e1 e2 => (s.ob n ob a e1 e2).step (rsv_new_rd s hp) (L2.upd_ne (s.ne_io hp a (List.mem_of_getElem? e2)))⟩
/-- it ends -/
theorem rsv_end_rd {D : Addr} {rs : List Addr} (e : w.rs = D :: rs) : ∀ d v, RD K w H d v → RD K ⟨w.io, rs⟩ H d v := by
  have hs : ∀ a, Still w a → Still ⟨w.io, rs⟩ a := fun a st => ⟨st.1, fun m => st.2 (by rw [e]; exact List.mem_cons_of_mem _ m)⟩
  exact RD.mono (fun _ _ q => q) (fun _ _ _ q => q) (fun a _ q st => ⟨q, hs a st⟩) (fun a _ q st => ⟨q, hs a st⟩) (fun a _ q st => ⟨q, hs a st⟩) fun _ _ q => q
theorem rsv_end {D : Addr} {rs : List Addr} (s : SR K w H ct h) (e : w.rs = D :: rs) : SR K ⟨w.io, rs⟩ H ct h :=
  ⟨s.len, s.nd, fun a ha => s.ap a (by rw [e]; exact List.mem_cons_of_mem _ ha), fun a ha => s.tr a (by rw [e]; exact List.mem_cons_of_mem _ ha),
   fun n ob a e1 e2 => (s.ob n ob a e1 e2).step (rsv_end_rd e) rfl⟩

/-- a turn of lcF -/
theorem lcF_cons {g : EG} {c : ET} {e : Sg → Hd → Res (List D)} {chk : List (Nat × List D)} {σ : Sg} {x : D} {xs : List D} {h hE : Hd} {zs : List D} (q : lcF g c e chk σ (x :: xs) h = .ok zs hE) :
    okChk chk h ∧ ∃ σ1 h1 b h2, g x σ h = .ok σ1 h1 ∧ c σ1 h1 = .ok b h2 ∧ ((b = false ∧ lcF g c e chk σ xs h2 = .ok zs hE) ∨
      (b = true ∧ ∃ ys h3 us, e σ1 h2 = .ok ys h3 ∧ lcF g c e chk σ xs h3 = .ok us hE ∧ zs = ys ++ us)) := by
  unfold lcF at q
  by_cases ck : okChk chk h
  · rw [if_pos ck] at q
    obtain ⟨σ1, h1, e1, q⟩ := Res.bind_eq_ok q
    obtain ⟨b, h2, e2, q⟩ := Res.bind_eq_ok q
    refine ⟨ck, σ1, h1, b, h2, e1, e2, ?_⟩
    cases b with
    | false => exact .inl ⟨rfl, q⟩
    | true =>
      simp only [if_true] at q
      obtain ⟨ys, h3, e3, q⟩ := Res.bind_eq_ok q
      obtain ⟨us, h4, e4, q⟩ := Res.bind_eq_ok q
      cases q
      exact .inr ⟨rfl, ys, h3, us, e3, e4, rfl⟩
  · rw [if_neg ck] at q; cases q
theorem lcF_nil {g : EG} {c : ET} {e : Sg → Hd → Res (List D)} {chk : List (Nat × List D)} {σ : Sg} {h hE : Hd} {zs : List D} (q : lcF g c e chk σ [] h = .ok zs hE) : okChk chk h ∧ zs = [] ∧ h = hE := by
  unfold lcF at q
  by_cases ck : okChk chk h
  · rw [if_pos ck] at q; cases q; exact ⟨ck, rfl, rfl⟩
  · rw [if_neg ck] at q; cases q
theorem okR_eq {α β : Type} {rel : W → Hp → α → β → Prop} {r : Res α} {a : α} {Q : β → Hp → Prop} (e : r = .ok a h') (f : ∀ w' H' b, Step K w H w' H' → SR K w' H' ct h' → rel w' H' a b → Q b H') : okR K ct rel r w H Q := by
  subst e; exact f
theorem okR_ok {α β : Type} {rel : W → Hp → α → β → Prop} {r : Res α} {Q : β → Hp → Prop} (q : okR K ct rel r w H Q) : ∃ a h', r = .ok a h' := by
  cases r with
  | ok a h' => exact ⟨a, h', rfl⟩
  | exc => exact q.elim
  | bad => exact q.elim
end
section
variable {K : PySem.W.Frag} {ct : CT} {w w' w0 w1 w2 : W} {H H' H0 H1 H2 : Hp} {h h' : Hd} {σd : Sg} {σ : L2.St}
/-- the list at p is being filled: acc so far; (w0, H0) where it began -/
structure Fill (K : PySem.W.Frag) (ct : CT) (w0 : W) (H0 : Hp) (p : Addr) (w : W) (H : Hp) (h : Hd) (acc : List D) (av : List V) : Prop where
  sr : SR K w H ct h
  ers : w.rs = p :: w0.rs
  eio : ∃ m, w.io = w0.io ++ m
  at_ : H p = some (.lst av)
  ra : RDs K w H acc av
  up : ∀ d v, RD K w0 H0 d v → RD K w H d v
  kp : ∀ a ∈ w0.rs, H a = H0 a
variable {p : Addr} {acc : List D} {av : List V}
theorem Fill.mem (F : Fill K ct w0 H0 p w H h acc av) : p ∈ w.rs := by rw [F.ers]; exact List.mem_cons_self
theorem Fill.step (F : Fill K ct w0 H0 p w H h acc av) (st : Step K w H w' H') (sr : SR K w' H' ct h') : Fill K ct w0 H0 p w' H' h' acc av := by
  obtain ⟨m1, f1⟩ := F.eio
  obtain ⟨m2, f2⟩ := st.pre
  exact ⟨sr, st.rs.trans F.ers, ⟨m1 ++ m2, by rw [f2, f1, List.append_assoc]⟩, (st.kp p F.mem).trans F.at_, st.rds F.ra, fun d v r => st.rd _ _ (F.up d v r), fun a ha => (st.kp a (by rw [F.ers]; exact List.mem_cons_of_mem _ ha)).trans (F.kp a ha)⟩
theorem Fill.start (sr : SR K w0 H0 ct h) (hp : H0 p = none) : Fill K ct w0 H0 p ⟨w0.io, p :: w0.rs⟩ (upd H0 p (.lst [])) h [] [] :=
  ⟨rsv_new sr hp, rfl, ⟨[], by simp⟩, upd_same, rfl, rsv_new_rd sr hp, fun a ha => L2.upd_ne (sr.ne_rs hp a ha)⟩
theorem Fill.startM (sr : SR K w0 H0 ct h) (hp : H0 p = none) : Mono K w0 H0 ⟨w0.io, p :: w0.rs⟩ (upd H0 p (.lst [])) := ⟨⟨[], by simp⟩, rsv_new_rd sr hp⟩
theorem Fill.notin (F : Fill K ct w0 H0 p w H h acc av) (nd : p ∉ w0.rs) : ∀ a ∈ w0.rs, a ≠ p := fun a ha e => nd (e ▸ ha)
theorem Fill.add {d : D} {v : V} (F : Fill K ct w0 H0 p w H h acc av) (nd : p ∉ w0.rs) (r : RD K w H d v) : Fill K ct w0 H0 p w (upd H p (.lst (av ++ [v]))) h (acc ++ [d]) (av ++ [v]) :=
  ⟨rsv_sr F.sr F.mem F.at_, F.ers, F.eio, upd_same, RDs.append (RDs.of_rd (rsv_rd F.mem F.at_) F.ra) (.cons (rsv_rd F.mem F.at_ _ _ r) .nil), fun d v r => rsv_rd F.mem F.at_ d v (F.up d v r), fun a ha => by
    rw [L2.upd_ne (F.notin nd a ha)]; exact F.kp a ha⟩
theorem Fill.addM {l : List V} (F : Fill K ct w0 H0 p w H h acc av) : Mono K w H w (upd H p (.lst l)) := ⟨⟨[], by simp⟩, rsv_rd F.mem F.at_⟩
theorem Fill.fin (F : Fill K ct w0 H0 p w H h acc av) (nd : p ∉ w0.rs) : Step K w0 H0 ⟨w.io, w0.rs⟩ H ∧ SR K ⟨w.io, w0.rs⟩ H ct h ∧ RD K ⟨w.io, w0.rs⟩ H (.lst acc) (.ref p) :=
  ⟨⟨F.eio, rfl, F.kp, fun d v r => rsv_end_rd F.ers d v (F.up d v r)⟩, rsv_end F.sr F.ers, p, av, rfl, ⟨F.at_, fun m => F.sr.ap p F.mem m, nd⟩, RDs.of_rd (rsv_end_rd F.ers) F.ra⟩
theorem Fill.len (F : Fill K ct w0 H0 p w H h acc av) : acc.length = av.length := F.ra.len
theorem Fill.rsg (F : Fill K ct w0 H0 p w H h acc av) (r : RS K w0 H0 σd σ) : RS K w H σd σ := ⟨r.1, fun i d e => by
  obtain ⟨v, h1, h2⟩ := r.2 i d e
  exact ⟨v, h1, F.up d v h2⟩⟩
theorem rsg_mono (m : Mono K w H w' H') (r : RS K w H σd σ) : RS K w' H' σd σ := ⟨r.1, fun i d e => by
  obtain ⟨v, h1, h2⟩ := r.2 i d e
  exact ⟨v, h1, m.2 d v h2⟩⟩
theorem Fill.upR (F : Fill K ct w0 H0 p w H h acc av) : ∀ d v, RD K w H d v → RD K ⟨w.io ++ [p], w0.rs⟩ H d v := by
  have st : ∀ a, Still w a → Still ⟨w.io ++ [p], w0.rs⟩ a := fun a s => by
    have s2 := s.2
    rw [F.ers] at s2
    refine ⟨?_, fun m => s2 (List.mem_cons_of_mem _ m)⟩
    show a ∉ w.io ++ [p]
    rw [List.mem_append, List.mem_singleton]
    rintro (m | e)
    · exact s.1 m
    · exact s2 (e ▸ List.mem_cons_self)
  exact RD.mono (fun _ _ q => q) (fun _ _ _ q => q) (fun a _ q s => ⟨q, st a s⟩) (fun a _ q s => ⟨q, st a s⟩) (fun a _ q s => ⟨q, st a s⟩) fun n a e => by
    show (w.io ++ [p])[n]? = some a
    rw [List.getElem?_append_left (List.getElem?_eq_some_iff.mp e).1]; exact e
theorem Fill.finR (F : Fill K ct w0 H0 p w H h acc av) (nd : p ∉ w0.rs) : Step K w0 H0 ⟨w.io ++ [p], w0.rs⟩ H ∧ SR K ⟨w.io ++ [p], w0.rs⟩ H ct (h ++ [.lst acc]) ∧ RD K ⟨w.io ++ [p], w0.rs⟩ H (.ref h.length) (.ref p) := by
  obtain ⟨m, e⟩ := F.eio
  have hl := F.sr.len
  refine ⟨⟨⟨m ++ [p], by show w.io ++ [p] = _; rw [e, List.append_assoc]⟩, rfl, F.kp, fun d v r => F.upR d v (F.up d v r)⟩, ⟨by simp [hl], ?_, fun a ha z => ?_, fun a ha => F.sr.tr a (by rw [F.ers]; exact List.mem_cons_of_mem _ ha), fun n o a e1 e2 => ?_⟩, p, rfl, ?_⟩
  · show (w.io ++ [p]).Nodup
    rw [List.nodup_append]
    exact ⟨F.sr.nd, by simp, fun a ha b hb e => F.sr.ap p F.mem (by
      have : b = p := by simpa using hb
      rw [← this, ← e]; exact ha)⟩
  · have z : a ∈ w.io ++ [p] := z
    rcases List.mem_append.mp z with z | z
    · exact F.sr.ap a (by rw [F.ers]; exact List.mem_cons_of_mem _ ha) z
    · have : a = p := by simpa using z
      exact nd (this ▸ ha)
  · have e2 : (w.io ++ [p])[n]? = some a := e2
    by_cases hn : n < h.length
    · rw [List.getElem?_append_left hn] at e1
      rw [List.getElem?_append_left (by rw [hl]; exact hn)] at e2
      exact (F.sr.ob n o a e1 e2).step F.upR rfl
    · have hn2 : n = h.length := by
        have := (List.getElem?_eq_some_iff.mp e1).1
        simp at this; omega
      subst hn2
      rw [List.getElem?_append_right (by omega)] at e2
      rw [List.getElem?_append_right (by omega)] at e1
      simp only [Nat.sub_self, List.getElem?_cons_zero, Option.some.injEq] at e1
      have : h.length - w.io.length = 0 := by omega
      rw [this] at e2
      simp only [List.getElem?_cons_zero, Option.some.injEq] at e2
      subst e1; subst e2
      exact ⟨av, F.at_, RDs.of_rd F.upR F.ra⟩
  · show (w.io ++ [p])[h.length]? = some p
    rw [← hl, List.getElem?_append_right (Nat.le_refl _), Nat.sub_self]; rfl
/-- the list is full -/
theorem Fill.endE {rf : Bool} {Q : VK} (F : Fill K ct w0 H0 p w H h acc av) (nd : p ∉ w0.rs) (q : okR K ct (rV K) (lcEnd rf acc h) w0 H0 Q) : Q (.ref p) H := by
  unfold lcEnd at q
  by_cases hl : acc.length ≤ LIM
  · rw [if_pos hl] at q
    cases rf with
    | true =>
      obtain ⟨f1, f2, f3⟩ := F.finR nd
      exact q _ H _ f1 f2 f3
    | false =>
      obtain ⟨f1, f2, f3⟩ := F.fin nd
      exact q _ H _ f1 f2 f3
  · rw [if_neg hl] at q; exact q.elim
end
section
variable {ct : CT} {X : Cx} {e : Expr} {es : List Expr} {pos : Pos} {vs : List Nat}
abbrev SGw (ct : CT) (X : Cx) (vs : List Nat) (e : Expr) (g : EG) : Prop := PG X e (tGw X.K ct vs g)
abbrev SGsw (ct : CT) (X : Cx) (vs : List Nat) (es : List Expr) (gs : List EG) : Prop := PGs X es (tGsw X.K ct vs gs)
theorem sw_var {i : Nat} {x : Str} (hi : i ∈ vs) (h : PG X (.Name x pos) (gName i)) : SGw ct X vs (.Name x pos) (gVar i) := pg_imp h fun v σ H Q ⟨w, h, σd, d, sr, rs, rd, q⟩ =>
  okR.here (K := X.K) (ct := ct) (rel := fun w H σd' σ' => RS X.K w H σd' σ' ∧ L2.wipe σ' vs = L2.wipe σ vs) (b := σ.set i (some v)) q sr ⟨rs.set rd i, wipe_set hi⟩
theorem sws_nil : SGsw ct X vs [] [] := pgs_imp pgs_nil fun us σ H Q ⟨w, h, σd, ds, sr, rs, rd, q⟩ => by
  cases ds with
  | nil => cases (show us = [] from rd); exact ⟨rfl, okR.here (K := X.K) (ct := ct) (rel := fun w H σd' σ' => RS X.K w H σd' σ' ∧ L2.wipe σ' vs = L2.wipe σ vs) (b := σ) q sr ⟨rs, rfl⟩⟩
  | cons d ds => exact q.elim
theorem sws_cons {gt : EG} {gts : List EG} (h1 : SGw ct X vs e gt) (h2 : SGsw ct X vs es gts) (hs : (assignEach (e :: es) X.env).map (·.2) = assign e X.env :: (assignEach es X.env).map (·.2) := by rfl) : SGsw ct X vs (e :: es) (gt :: gts) :=
  pgs_imp (pgs_cons h1 h2 hs) fun us σ H Q ⟨w, h, σd, ds, sr, rs, rd, q⟩ => by
    cases ds with
    | nil => exact q.elim
    | cons d ds =>
      obtain ⟨v, r, rfl, rv, rr⟩ := rd
      refine ⟨v, r, rfl, w, h, σd, d, sr, rs, rv, (okR.bind (rel := fun w H σd' σ' => RS X.K w H σd' σ' ∧ L2.wipe σ' vs = L2.wipe σ vs) q).imp fun σ1 H1 ⟨w1, h1, σd1, st1, sr1, ⟨r1, ew⟩, q1⟩ => ?_⟩
      refine ⟨w1, h1, σd1, ds, sr1, r1, st1.rds rr, ?_⟩
      rw [ew]
      exact q1
theorem sw_tup {kk n : Nat} {gts : List EG} (hc : X.calm = true) (h1 : SGsw ct X vs es gts) (hl : gts.length = n := by rfl)
    (hn : (assignEach es X.env).length = n := by rfl) (hst : (assignEach es X.env).findIdx? (·.1) = none := by rfl) : SGw ct X vs (.Tuple es kk pos) (gTup gts) := pg_imp (pg_tup hc h1 hn hst) fun v σ H Q ⟨w, h, σd, d, sr, rs, rd, q⟩ => by
  cases d with
  | tup xs =>
    obtain ⟨a, us, rfl, hq, rr⟩ := rd
    have q' : okR X.K ct (fun w H => RS X.K w H) (gAll gts xs σd h) w H fun _ _ => True := by
      obtain ⟨a, h', e⟩ := okR_ok q
      exact okR_eq (show gAll gts xs σd h = _ from e) fun _ _ _ _ _ _ => trivial
    exact ⟨a, us, rfl, hq, by rw [← rr.len, gAll_len _ _ _ _ q', hl], w, h, σd, xs, sr, rs, rr, q⟩
  | _ => exact q.elim
abbrev STs (ct : CT) (X : Cx) (es : List Expr) (f : ET) : Prop := PTs X es (tT X.K ct f)
theorem pts_imp {X : Cx} {e : List Expr} {t t' : TT} (h : PTs X e t) (i : ∀ σ H Q, t' σ H Q → t σ H Q) : PTs X e t' := ⟨fun pins s σ H Q I q => h.run pins s σ H Q I (i σ H Q q)⟩
theorem sts_nil : STs ct X [] tTT := pts_imp pts_nil fun σ H Q q => tT_ok q
theorem sts_one {c : Expr} {f : ET} (h : ST ct X c f) : STs ct X [c] f := pts_one h

theorem lc1_of {rf : Bool} {it : EI} {gt : EG} {c : ET} {fe : EE} {σ : L2.St} {H : Hp} {Q : VK} (q : tE X.K ct (eLc rf vs it gt c (lcOne fe)) σ H Q) :
    tLc (tI X.K ct it) (tGw X.K ct vs gt) (tT X.K ct c) (tE X.K ct fe) vs σ H Q := by
  obtain ⟨w, h, σd, sr, rs, q⟩ := q
  unfold eLc lcIn at q
  -- the walk, then the whole list
  refine ⟨w, h, σd, sr, rs, ?_⟩
  cases eI : it σd h with
  | exc => rw [eI] at q; exact q.elim
  | bad => rw [eI] at q; exact q.elim
  | ok I h0 =>
  rw [eI] at q
  simp only [Res.bind_ok] at q
  cases eL : lcF gt c (lcOne fe) I.chk (BR.wipe σd vs) I.items h0 with
  | exc => rw [eL] at q; exact q.elim
  | bad => rw [eL] at q; exact q.elim
  | ok total hE =>
  rw [eL] at q
  simp only [Res.bind_ok] at q
  have hlim : total.length ≤ LIM := Classical.byContradiction fun z => by
    unfold lcEnd at q
    rw [if_neg z] at q
    exact q.elim
  intro w1 H1 J st1 sr1 gs dd hD
  obtain ⟨G, g0, gm, gt'⟩ := gs
  have q1 := okR.step st1 q
  have rsw : RS X.K w1 H1 (BR.wipe σd vs) (L2.wipe σ vs) := (st1.rsg rs).wipe vs
  have D0 : dd ∉ w1.rs := fun m => sr1.ne_rs hD dd m rfl
  refine ⟨fun i m H => m = I.items.length - i ∧ i ≤ I.items.length ∧ ∃ (w : W) (h : Hd) (acc : List D) (av : List V) (rest : List D), SR X.K w H ct h ∧ w.rs = dd :: w1.rs ∧ (∃ m, w.io = w1.io ++ m) ∧ H dd = some (.lst av) ∧ RDs X.K w H acc av ∧
      (∀ d v, RD X.K w1 H1 d v → RD X.K w H d v) ∧ (∀ a ∈ w1.rs, H a = H1 a) ∧ G w H ∧ lcF gt c (lcOne fe) I.chk (BR.wipe σd vs) (I.items.drop i) h = .ok rest hE ∧ acc ++ rest = total,
    ⟨_, rfl, Nat.zero_le _, ⟨w1.io, dd :: w1.rs⟩, h0, [], [], total, rsv_new sr1 hD, rfl, ⟨[], by simp⟩, upd_same, rfl, rsv_new_rd sr1 hD, fun a ha => L2.upd_ne (fun z => D0 (z ▸ ha)), gm _ _ _ _ g0 ⟨⟨[], by simp⟩, rsv_new_rd sr1 hD⟩, eL, rfl⟩, ?_⟩
  rintro i m H ⟨rfl, hi, w, h, acc, av, rest, sr, ers, eio, eD, ra, up, kp, g, ef, et⟩
  have mD : dd ∈ w.rs := by rw [ers]; exact List.mem_cons_self
  by_cases hlt : i < I.items.length
  · rw [List.drop_eq_getElem_cons hlt] at ef
    obtain ⟨ck, σ1, h1, b, h2, e1, e2, alt⟩ := lcF_cons ef
    obtain ⟨_, go⟩ := gt' w H h g sr ck
    obtain ⟨hgo, hy⟩ := go i hlt
    refine .inr ⟨hgo, fun H => i + 1 ≤ I.items.length ∧ ∃ (w : W) (h : Hd) (acc : List D) (av : List V) (rest : List D), SR X.K w H ct h ∧ w.rs = dd :: w1.rs ∧ (∃ m, w.io = w1.io ++ m) ∧ H dd = some (.lst av) ∧ RDs X.K w H acc av ∧
      (∀ d v, RD X.K w1 H1 d v → RD X.K w H d v) ∧ (∀ a ∈ w1.rs, H a = H1 a) ∧ G w H ∧ lcF gt c (lcOne fe) I.chk (BR.wipe σd vs) (I.items.drop (i + 1)) h = .ok rest hE ∧ acc ++ rest = total,
      fun H' z => ⟨I.items.length - (i + 1), by omega, rfl, z⟩, fun x H2 y => ?_⟩
    obtain ⟨st2, sr2, d, hd, rd⟩ := hy x H2 y
    have hd' : d = I.items[i] := by simpa [hlt] using hd.symm
    subst hd'
    refine ⟨w, h, _, _, sr2, ((RS.wipe (σd := σd) (σ := σ) ⟨rs.1, fun j d e => ?_⟩ vs)), rd, okR_eq e1 fun w3 H3 σ3 st3 sr3 ⟨r3, ew⟩ => ⟨?_, w3, h1, σ1, sr3, r3, okR_eq e2 fun w4 H4 b' st4 sr4 eb => ?_⟩⟩
    · obtain ⟨v, q1, q2⟩ := rs.2 j d e
      exact ⟨v, q1, st2.rd _ _ (up _ _ (st1.rd _ _ q2))⟩
    · rw [ew, wipe_wipe σ vs vs fun _ z => z]
    · cases eb
      have st24 := st2.trans (st3.trans st4)
      have fin : ∀ {w5 : W} {H5 : Hp}, Step X.K w H w5 H5 → w5.rs = dd :: w1.rs ∧ (∃ m, w5.io = w1.io ++ m) ∧ H5 dd = some (.lst av) ∧ RDs X.K w5 H5 acc av ∧ (∀ d v, RD X.K w1 H1 d v → RD X.K w5 H5 d v) ∧ (∀ a ∈ w1.rs, H5 a = H1 a) ∧ G w5 H5 := fun {w5 H5} st => by
        obtain ⟨m1, f1⟩ := eio
        obtain ⟨m2, f2⟩ := st.pre
        exact ⟨st.rs.trans ers, ⟨m1 ++ m2, by rw [f2, f1, List.append_assoc]⟩, (st.kp dd mD).trans eD, st.rds ra, fun d v r => st.rd _ _ (up d v r), fun a ha => (st.kp a (by rw [ers]; exact List.mem_cons_of_mem _ ha)).trans (kp a ha), gm _ _ _ _ g st.mono⟩
      rcases alt with ⟨rfl, ef2⟩ | ⟨rfl, ys, h3, us, e3, ef2, ez⟩
      · obtain ⟨f1, f2, f3, f4, f5, f6, f7⟩ := fin st24
        exact ⟨hlt, w4, h2, acc, av, rest, sr4, f1, f2, f3, f4, f5, f6, f7, ef2, et⟩
      · simp only [if_true]
        unfold lcOne at e3
        obtain ⟨dy, h3', e4, e5⟩ := Res.bind_eq_ok e3
        cases e5
        refine ⟨w4, h2, σ1, sr4, st4.rsg r3, okR_eq e4 fun w5 H5 yv st5 sr5 r5 => ?_⟩
        obtain ⟨f1, f2, f3, f4, f5, f6, f7⟩ := fin (st24.trans st5)
        have mD5 : dd ∈ w5.rs := by rw [f1]; exact List.mem_cons_self
        subst ez
        have hal : acc.length = av.length := ra.len
        have htl : (acc ++ ([dy] ++ us)).length ≤ LIM := by rw [et]; exact hlim
        refine ⟨av, f3, ?_, hlt, w5, h3, acc ++ [dy], av ++ [yv], us, rsv_sr sr5 mD5 f3, f1, f2, upd_same, ?_, fun d v r => rsv_rd mD5 f3 d v (f5 d v r), fun a ha => ?_, gm _ _ _ _ f7 ⟨⟨[], by simp⟩, rsv_rd mD5 f3⟩, ef2, ?_⟩
        · simp only [List.length_append, List.length_cons, List.length_nil] at htl
          rw [sizeLine_eq]
          unfold LIM at htl
          omega
        · exact RDs.append (RDs.of_rd (rsv_rd mD5 f3) f4) (.cons (rsv_rd mD5 f3 _ _ r5) .nil)
        · rw [L2.upd_ne (show a ≠ dd from fun z => D0 (z ▸ ha))]; exact f6 a ha
        · rw [← et]; simp
  · have e : i = I.items.length := by omega
    subst e
    rw [List.drop_length] at ef
    obtain ⟨ck, er, eh⟩ := lcF_nil ef
    subst er; subst eh
    have et' : acc = total := by simpa using et
    subst et'
    refine .inl ⟨(gt' w H h g sr ck).1, ?_⟩
    have F : Fill X.K ct w1 H1 dd w H h acc av := ⟨sr, ers, eio, eD, ra, up, kp⟩
    exact F.endE D0 q1
/-- a list comprehension of one clause -/
theorem se_lc1 {elt tg iter : Expr} {ifs : List Expr} {scope : Scope} {rf : Bool} {it : EI} {gt : EG} {c : ET} {fe : EE}
    (h : PE X (.ListComp elt [⟨tg, iter, ifs, 0⟩] scope pos) (tLc (tI X.K ct it) (tGw X.K ct vs gt) (tT X.K ct c) (tE X.K ct fe) vs)) : SE ct X (.ListComp elt [⟨tg, iter, ifs, 0⟩] scope pos) (eLc rf vs it gt c (lcOne fe)) := pe_imp h fun _ _ _ q => lc1_of q
end
end BR

namespace BR
open PySem PySem.Spec PyProof.Rows L2
section
variable {ct : CT} {X : Cx} {vs vs1 : List Nat}
theorem lc2_of {rf : Bool} {it it1 : EI} {gt gt1 : EG} {c c1 : ET} {fe : EE} {σ : L2.St} {H : Hp} {Q : VK} (q : tE X.K ct (eLc rf vs it gt c (lcIn vs1 it1 gt1 c1 (lcOne fe))) σ H Q) :
    tLc2 (tI X.K ct it) (tGw X.K ct vs gt) (tT X.K ct c) (tI X.K ct it1) (tGw X.K ct vs1 gt1) (tT X.K ct c1) (tE X.K ct fe) vs vs1 σ H Q := by
  obtain ⟨w, h, σd, sr, rs, q⟩ := q
  generalize hin : lcIn vs1 it1 gt1 c1 (lcOne fe) = inner at q
  unfold eLc lcIn at q
  refine ⟨w, h, σd, sr, rs, ?_⟩
  cases eI : it σd h with
  | exc => rw [eI] at q; exact q.elim
  | bad => rw [eI] at q; exact q.elim
  | ok I h0 =>
  rw [eI] at q
  simp only [Res.bind_ok] at q
  cases eL : lcF gt c inner I.chk (BR.wipe σd vs) I.items h0 with
  | exc => rw [eL] at q; exact q.elim
  | bad => rw [eL] at q; exact q.elim
  | ok total hE =>
  rw [eL] at q
  simp only [Res.bind_ok] at q
  have hlim : total.length ≤ LIM := Classical.byContradiction fun z => by
    unfold lcEnd at q
    rw [if_neg z] at q
    exact q.elim
  intro w1 H1 J st1 sr1 gs p hp
  obtain ⟨G, g0, gm, gt'⟩ := gs
  have q1 := okR.step st1 q
  have rs1 : RS X.K w1 H1 σd σ := st1.rsg rs
  have nd : p ∉ w1.rs := fun m => sr1.ne_rs hp p m rfl
  refine ⟨fun i m H => m = I.items.length - i ∧ i ≤ I.items.length ∧ ∃ (w : W) (h : Hd) (acc : List D) (av : List V) (rest : List D), Fill X.K ct w1 H1 p w H h acc av ∧ G w H ∧ lcF gt c inner I.chk (BR.wipe σd vs) (I.items.drop i) h = .ok rest hE ∧ acc ++ rest = total,
    ⟨_, rfl, Nat.zero_le _, _, h0, [], [], total, Fill.start sr1 hp, gm _ _ _ _ g0 (Fill.startM sr1 hp), eL, rfl⟩, ?_⟩
  rintro i m H ⟨rfl, hi, w, h, acc, av, rest, F, g, ef, et⟩
  by_cases hlt : i < I.items.length
  · rw [List.drop_eq_getElem_cons hlt] at ef
    obtain ⟨ck, σ1, h1, b, h2, e1, e2, alt⟩ := lcF_cons ef
    obtain ⟨_, go⟩ := gt' w H h g F.sr ck
    obtain ⟨hgo, hy⟩ := go i hlt
    refine .inr ⟨hgo, fun H => i + 1 ≤ I.items.length ∧ ∃ (w : W) (h : Hd) (acc : List D) (av : List V) (rest : List D), Fill X.K ct w1 H1 p w H h acc av ∧ G w H ∧ lcF gt c inner I.chk (BR.wipe σd vs) (I.items.drop (i + 1)) h = .ok rest hE ∧ acc ++ rest = total,
      fun H' z => ⟨I.items.length - (i + 1), by omega, rfl, z⟩, fun x H2 y => ?_⟩
    obtain ⟨st2, sr2, d, hd, rd⟩ := hy x H2 y
    have hd' : d = I.items[i] := by simpa [hlt] using hd.symm
    subst hd'
    refine ⟨w, h, _, _, sr2, (st2.rsg (F.rsg rs1)).wipe vs, rd, okR_eq e1 fun w3 H3 σ3 st3 sr3 ⟨r3, ew⟩ => ⟨?_, w3, h1, σ1, sr3, r3, okR_eq e2 fun w4 H4 b' st4 sr4 eb => ?_⟩⟩
    · rw [ew, wipe_wipe σ vs vs fun _ z => z]
    · cases eb
      have st24 := st2.trans (st3.trans st4)
      have g4 : G w4 H4 := gm _ _ _ _ g st24.mono
      have F4 := F.step st24 sr4
      have r4 := st4.rsg r3
      rcases alt with ⟨rfl, ef2⟩ | ⟨rfl, ys, h3, us, e3, ef2, ez⟩
      · exact ⟨hlt, w4, h2, acc, av, rest, F4, g4, ef2, et⟩
      · simp only [if_true]
        subst hin
        unfold lcIn at e3
        obtain ⟨I1, hi1, eI1, eL1⟩ := Res.bind_eq_ok e3
        refine ⟨w4, h2, σ1, sr4, r4, okR_eq eI1 fun w5 H5 J1 st5 sr5 gs1 => ?_⟩
        obtain ⟨G1, g10, g1m, g1t⟩ := gs1
        have F5 := F4.step st5 sr5
        refine ⟨fun j k H => k = I1.items.length - j ∧ j ≤ I1.items.length ∧ ∃ (w : W) (h : Hd) (ac : List D) (av : List V) (rest1 : List D), Fill X.K ct w1 H1 p w H h ac av ∧ G w H ∧ G1 w H ∧ RS X.K w H σ1 σ3 ∧
            lcF gt1 c1 (lcOne fe) I1.chk (BR.wipe σ1 vs1) (I1.items.drop j) h = .ok rest1 h3 ∧ ac ++ rest1 = acc ++ ys,
          ⟨_, rfl, Nat.zero_le _, w5, hi1, acc, av, ys, F5, gm _ _ _ _ g4 st5.mono, g10, st5.rsg r4, eL1, rfl⟩, ?_⟩
        rintro j k H ⟨rfl, hj, w6, h6, ac, av6, rest1, F6, g6, g16, r6, ef6, et6⟩
        by_cases hlt1 : j < I1.items.length
        · rw [List.drop_eq_getElem_cons hlt1] at ef6
          obtain ⟨ck1, σ7, h7, b7, h8, e7, e8, alt1⟩ := lcF_cons ef6
          obtain ⟨_, go1⟩ := g1t w6 H h6 g16 F6.sr ck1
          obtain ⟨hgo1, hy1⟩ := go1 j hlt1
          refine .inr ⟨hgo1, fun H => j + 1 ≤ I1.items.length ∧ ∃ (w : W) (h : Hd) (ac : List D) (av : List V) (rest1 : List D), Fill X.K ct w1 H1 p w H h ac av ∧ G w H ∧ G1 w H ∧ RS X.K w H σ1 σ3 ∧
            lcF gt1 c1 (lcOne fe) I1.chk (BR.wipe σ1 vs1) (I1.items.drop (j + 1)) h = .ok rest1 h3 ∧ ac ++ rest1 = acc ++ ys, fun H' z => ⟨I1.items.length - (j + 1), by omega, rfl, z⟩, fun x H7 y => ?_⟩
          obtain ⟨st7, sr7, d7, hd7, rd7⟩ := hy1 x H7 y
          have hd7' : d7 = I1.items[j] := by simpa [hlt1] using hd7.symm
          subst hd7'
          refine ⟨w6, h6, _, _, sr7, (st7.rsg r6).wipe vs1, rd7, okR_eq e7 fun w8 H8 σ8 st8 sr8 ⟨r8, ew8⟩ => ⟨?_, w8, h7, σ7, sr8, r8, okR_eq e8 fun w9 H9 b9 st9 sr9 eb9 => ?_⟩⟩
          · rw [ew8, wipe_wipe σ3 vs1 vs1 fun _ z => z]
          · cases eb9
            have st79 := st7.trans (st8.trans st9)
            have F9 := F6.step st79 sr9
            rcases alt1 with ⟨rfl, ef9⟩ | ⟨rfl, ys1, h9, us1, e9, ef9, ez9⟩
            · exact ⟨hlt1, w9, h8, ac, av6, rest1, F9, gm _ _ _ _ g6 st79.mono, g1m _ _ _ _ g16 st79.mono, st79.rsg r6, ef9, et6⟩
            · simp only [if_true]
              unfold lcOne at e9
              obtain ⟨dy, h9', e10, e11⟩ := Res.bind_eq_ok e9
              cases e11
              refine ⟨w9, h8, σ7, sr9, st9.rsg r8, okR_eq e10 fun w10 H10 yv st10 sr10 r10 => ?_⟩
              have st710 := st79.trans st10
              have F10 := F6.step st710 sr10
              subst ez9
              have hal := F10.len
              have htl : ac.length + 1 ≤ LIM := by
                have z1 := congrArg List.length et6
                have z2 := congrArg List.length et
                rw [ez] at z2
                simp only [List.length_append, List.length_cons, List.length_nil] at z1 z2
                omega
              refine ⟨av6, F10.at_, ?_, hlt1, w10, h9, ac ++ [dy], av6 ++ [yv], us1, F10.add nd r10, gm _ _ _ _ g6 (st710.mono.trans F10.addM), g1m _ _ _ _ g16 (st710.mono.trans F10.addM), rsg_mono (st710.mono.trans F10.addM) r6, ef9, ?_⟩
              · rw [sizeLine_eq]
                unfold LIM at htl
                omega
              · rw [← et6]; simp
        · have e' : j = I1.items.length := by omega
          subst e'
          rw [List.drop_length] at ef6
          obtain ⟨ck1, er, eh⟩ := lcF_nil ef6
          subst er; subst eh
          have et7 : ac = acc ++ ys := by simpa using et6
          subst et7
          refine .inl ⟨(g1t w6 H h6 g16 F6.sr ck1).1, hlt, w6, h6, acc ++ ys, av6, us, F6, g6, ef2, ?_⟩
          rw [← et, ez]; simp
  · have e : i = I.items.length := by omega
    subst e
    rw [List.drop_length] at ef
    obtain ⟨ck, er, eh⟩ := lcF_nil ef
    subst er; subst eh
    have et' : acc = total := by simpa using et
    subst et'
    exact .inl ⟨(gt' w H h g F.sr ck).1, F.endE nd q1⟩
theorem se_lc2 {elt tg iter tg1 iter1 : Expr} {ifs ifs1 : List Expr} {scope : Scope} {pos : Pos} {rf : Bool} {it it1 : EI} {gt gt1 : EG} {c c1 : ET} {fe : EE}
    (h : PE X (.ListComp elt [⟨tg, iter, ifs, 0⟩, ⟨tg1, iter1, ifs1, 0⟩] scope pos) (tLc2 (tI X.K ct it) (tGw X.K ct vs gt) (tT X.K ct c) (tI X.K ct it1) (tGw X.K ct vs1 gt1) (tT X.K ct c1) (tE X.K ct fe) vs vs1)) :
    SE ct X (.ListComp elt [⟨tg, iter, ifs, 0⟩, ⟨tg1, iter1, ifs1, 0⟩] scope pos) (eLc rf vs it gt c (lcIn vs1 it1 gt1 c1 (lcOne fe))) := pe_imp h fun _ _ _ q => lc2_of q
end
end BR

namespace BR
open PySem PySem.Spec PyProof.Rows L2
/-- room, and no guard -/
structure Rm (k : Nat) (A : Around) : Prop where
  rm : Room k A
  gd : A.guards = some []
theorem Rm.mono {j k : Nat} {A : Around} (r : Rm k A) (h : j ≤ k) : Rm j A := ⟨r.rm.mono h, r.gd⟩
theorem Rm.units {k : Nat} {A : Around} (r : Rm k A) : A.units + 64 < cLine := r.rm.units
theorem Rm.deeper {k : Nat} {A : Around} (r : Rm (k + 1) A) (env : Env) : Rm k (A.deeper env) := ⟨r.rm.deeper env, r.gd⟩
theorem Rm.hu {k : Nat} {A : Around} (r : Rm k A) : A.units + 1 < cLine := hu_of r.rm
/-- what a def promises where no guard stands -/
structure FnG (P : Program) (wd : World) (K : PySem.W.Frag) (mg : Str → Option Value) (base : Heap) (CX : CXT) (k : Nat) (f : Addr) (fd : FuncData) (ps : List Str) (sp : Sp) : Prop where
  lg : ∀ as H Q E, sp as H Q E → as.length = ps.length
  go : ∀ (A : Around) (up : List Env) (s : Shared) (H : Hp) (ar : Args) (us : List Value) (as : List V) (Q : VK) (E : XK),
    Rm k A → Env0 P wd K mg base A up s H → BindsTo s fd ar (ps.zip us) → Vals as us → sp as H Q E → codeAny (model P wd) A (.call (.ref f) ar) (CR CX up P wd H s Q E) s
section
variable {P : Program} {wd : World} {K : PySem.W.Frag} {mg : Str → Option Value} {base : Heap} {CX : CXT} {j k : Nat} {f : Addr} {fd : FuncData} {ps : List Str} {sp sp' : Sp}
theorem FnG.mono (F : FnG P wd K mg base CX j f fd ps sp) (h : j ≤ k) : FnG P wd K mg base CX k f fd ps sp := ⟨F.lg, fun A up s H ar us as Q E r => F.go A up s H ar us as Q E (r.mono h)⟩
theorem FnG.imp (F : FnG P wd K mg base CX k f fd ps sp) (h : ∀ as H Q E, sp' as H Q E → sp as H Q E) : FnG P wd K mg base CX k f fd ps sp' :=
  ⟨fun as H Q E q => F.lg as H Q E (h _ _ _ _ q), fun A up s H ar us as Q E r e0 b v q => F.go A up s H ar us as Q E r e0 b v (h _ _ _ _ q)⟩
/-- by its body -/
theorem fnG_of {x qual : Str} {st : Stmt} {N : List Str} (F : Fun K x qual st f fd) (S : FnScope N ps (defScope st)) (lg : ∀ as H Q E, sp as H Q E → as.length = ps.length)
    (hb : ∀ (cdv : Value) (A : Around) (up : List Env) (s : Shared) (H : Hp) (as : List V) (Q : VK) (E : XK), Rm k (A.deeper (envOfC qual (defScope st) s.heap.objs.size f cdv)) → sp as H Q E →
      ∃ t, PSs (cxOf CX P wd K mg base N qual (defScope st) f cdv A up s H E) (defBody st) t ∧ t { nx := fun _ G => Q .non G, rt := Q } (start N as) H) : FnG P wd K mg base CX (k + 1) f fd ps sp := by
  obtain ⟨oc, od, kV, doc, pm, an, cdv, ct', osl, rfl, lk, cdi⟩ := F.ex
  refine ⟨lg, fun A up s H ar us as Q E rr e0 bi va hsp => ?_⟩
  have KI : K.In s.heap := e0.mod.kin.keeps (fun b o z => (e0.bs b o z).1)
  have nl : s.heap.NoLimit := e0.mod.nolimit.keeps (fun b o z => (e0.bs b o z).1)
  have kinds : ∀ y ∈ ps.zip us, (defScope st).names.lookup y.1 = some .local ∨ ((defScope st).names.lookup y.1 = some .cell ∧ ((cellsFrom (s.heap.objs.size + 1) (defScope st).names []).lookup y.1).isSome = true) := by
    rintro ⟨n, v⟩ hy
    refine (S.par n (List.of_mem_zip hy).1).imp id fun q => ⟨q, ?_⟩
    exact PySem.W.cellsFrom_some _ _ _ (.inl q)
  refine codeAny_call_function rr.rm.depth (KI _ _ lk) rfl S.co S.gen rfl (PySem.W.codeRec_of KI cdi) (bi _ _ _ _ (wpAny_newFunctionEnv_cells S.kind kinds fun env he s1 z => ?_))
  subst he
  refine ⟨nl.keeps z.toInCall.keep, codeAny_func ?_⟩
  obtain ⟨t, T, q⟩ := hb cdv A up s H as Q E (rr.deeper _) hsp
  have J := inv_start (CX := CX) (P := P) (w := wd) (E := E) S rr.rm.hd e0 (lg _ _ _ _ hsp) va z
  refine wpAny_mono (T.run [] s1 (start N as) H _ J q) (fun fl s2 hz => ?_) (fun e s2 hz => hz)
  cases fl with
  | ret u => obtain ⟨v, σ2, H2, J2, rv, q2⟩ := hz; exact ⟨v, H2, J2.os, J2.bare, J2.base, J2.hok, rv, q2⟩
  | next => obtain ⟨σ2, H2, J2, q2⟩ := hz; exact ⟨.non, H2, J2.os, J2.bare, J2.base, J2.hok, rfl, q2⟩
  | brk => exact hz.elim fun _ z => z.elim fun _ z => False.elim z.2
  | cont => exact hz.elim fun _ z => z.elim fun _ z => False.elim z.2
end
section
variable {X : Cx} {CX : CXT} {k : Nat} {f : Addr} {fd : FuncData} {ps : List Str} {sp : Sp} {dvs : List V} {ds : List Value} {x : Str} {p pos : Pos} {e : Expr} {es : List Expr} {t : TA}
theorem run_fnG {pins : List (Addr × Obj)} {σ : L2.St} {H : Hp} {s : Shared} {Q : VK} {E : XK} {us : List Value} {as : List V} (F : FnG X.prog X.w X.K X.mg X.base CX k f fd ps sp) (rr : Rm k X.A) (bi : Binds X.K fd ps ds) (hd : Vals dvs ds)
    (px : ∀ (u : Value) (s2 : Shared), CX X.stack H s E u s2 → X.xe u s2) (I : Inv X pins σ H s) (va : Vals as us) (q : sp (as ++ dvs) H Q E) : wpAny (model X.prog X.w) X.A (call (.ref f) us) (EP X pins σ Q) X.xe s := by
  have vv := va.append hd
  have ll : (us ++ ds).length = ps.length := vv.length ▸ F.lg _ _ _ _ q
  refine wpAny_call (codeAny_mono (F.go X.A X.stack s H ⟨us, []⟩ _ _ Q E rr I.env0 (bi s us I.kIn ll) vv q) ?_)
  rintro (u | fl) s2 z
  · exact px u s2 z
  · cases fl <;> first | exact I.after z | exact False.elim z
theorem pe_callG {E : L2.St → XK} (F : FnG X.prog X.w X.K X.mg X.base CX k f fd ps sp) (rr : Rm k X.A) (hg : Gl X x) (hm : X.mg x = some (.ref f)) (kp : PySem.W.keepIn X.K (.ref f) = true) (bi : Binds X.K fd ps ds) (hd : Vals dvs ds) (px : ∀ σ, PassesAt CX X σ (E σ))
    (ha : PA X (e :: es) t) (hdb : (x == ("__debug__" : Str)) = false := by decide) (he : starEach (e :: es) X.env = (false, eval e X.env) :: starEach es X.env := by rfl) (hpl : (backTo pos (starEach es X.env)).any (·.1) = false := by rfl) :
    PE X (.Call (.Name x p) (e :: es) [] pos) (fun σ H Q => t σ H fun as G => sp (as ++ dvs) G Q (E σ)) := by
  constructor
  intro pins s σ H Q I q
  refine wpAny_Call_Name_kw (ld_glob I hg hm (PySem.W.callWith_K (h₀ := X.base) I.ok.mod.kin kp (thn (ha.run pos pins s σ H _ I q) ?_) he hpl) hdb)
  rintro us s1 ⟨as, H1, I1, va, q1⟩
  exact ⟨I1.kIn, run_fnG F rr bi hd (fun u s2 z => px σ pins H1 s1 u s2 I1 z) I1 va q1⟩
end
theorem law_callG {P : Program} {wd : World} {K : PySem.W.Frag} {mg mb : Str → Option Value} {k : Nat} {fa a : Addr} {fd : FuncData} {x : Str} {sp : Sp} {s1 : Shared} {us : List Value} {ns : List Int}
    (KI : K.In s1.heap) (hn : s1.heap.Ns mainGlobals mg) (hb : s1.heap.Ns builtinsNs mb) (hbb : ∀ y : Str, y ≠ "__name__" → mb y = bootBuiltins y) (nl : s1.heap.NoLimit) (hg : s1.gens = #[])
    (ha : s1.heap.get? a = some { cls := .type "list", data := .seq us.toArray }) (hi : IntsAre us ns) (hl : ns.length ≤ sizeLine) (rr : Rm k callerA)
    (F : ∀ base : Heap, K.In base → base.Ns mainGlobals mg → FnG P wd K mg base CX0 k fa fd [x] sp) (bi : ∀ (s : Shared) (u : Value), BindsTo s fd ⟨[u], []⟩ [(x, u)])
    (q : ∀ H : Hp, Only H → SqL K H a (ns.map V.int) → sp [.ref a] H (fun v _ => v = .bl true) fun _ _ _ => False) :
    codeAny (model P wd) callerA (.call (.ref fa) ⟨[.ref a], []⟩) (fun r s2 => r = .ok (.ret (.bool true)) ∧ OldK s1.heap s2.heap ∧ s2.os = s1.os ∧ AllBare s2.gens) s1 := by
  have vi := vals_ints hi
  have li := hi.length
  suffices go : ∀ H : Hp, Only H → SqL K H a (ns.map V.int) → HOk P wd H s1.heap → (∀ b, H b ≠ none → b = a) → (H a ≠ none → K.lookup a = none) →
      codeAny (model P wd) callerA (.call (.ref fa) ⟨[.ref a], []⟩) (fun r s2 => r = .ok (.ret (.bool true)) ∧ OldK s1.heap s2.heap ∧ s2.os = s1.os ∧ AllBare s2.gens) s1 by
    cases hk : K.lookup a with
    | some o =>
      have e := (ha.symm.trans (KI a o hk))
      cases e
      refine go (fun _ => none) (fun _ => .inl rfl) (.inr ⟨_, us.toArray, _, hk, rfl, rfl, rfl, ?_, by simpa using vi⟩) (fun b u z => nomatch z) (fun b z => absurd rfl z) (fun z => absurd rfl z)
      rw [List.size_toArray, li]; exact hl
    | none =>
      let H0 : Hp := fun b => if b = a then some (.frz { cls := .type "list", data := .seq us.toArray } (.lst (ns.map V.int))) else none
      have same : H0 a = some (.frz { cls := .type "list", data := .seq us.toArray } (.lst (ns.map V.int))) := if_pos rfl
      have other : ∀ b, b ≠ a → H0 b = none := fun b z => if_neg z
      refine go H0 (fun b => ?_) (.inl (.inr ⟨_, same⟩)) (fun b u z => ?_) (fun b z => Classical.byContradiction fun y => z (other b y)) (fun _ => hk)
      · by_cases y : b = a
        · subst y; exact .inr ⟨_, _, same⟩
        · exact .inl (other b y)
      · by_cases y : b = a
        · subst y
          rw [same] at z; cases z
          exact ⟨ha, by rw [List.length_map]; exact hl, us, _, vi, ha⟩
        · rw [other b y] at z; cases z
  intro H hO hS hok hA hK
  have un : ∀ {b : Addr} {o : Obj}, s1.heap.get? b = some o → (b = a → False) → (hidT s1.heap H).get? b = some o := fun {b o} e z => hidT_get e (by
    cases y : H b with
    | none => rfl
    | some u => exact (z (hA b (by rw [y]; simp))).elim)
  have nsk : ∀ {b : Addr} {m : Str → Option Value}, s1.heap.Ns b m → (hidT s1.heap H).Ns b m := by
    rintro b m ⟨o, es, ep, e, d, r⟩
    refine ⟨o, es, ep, un e fun z => ?_, d, r⟩
    subst z
    rw [ha] at e; cases e
    exact nomatch d
  have kin : K.In (hidT s1.heap H) := fun b o e => by
    cases y : H b with
    | none => exact hidT_get (KI b o e) y
    | some u =>
      have z := hA b (by rw [y]; simp)
      subst z
      rw [hK (by rw [y]; simp)] at e; cases e
  have md : Mod K mg (hidT s1.heap H) := ⟨kin, nsk hn, ⟨mb, nsk hb, hbb⟩, nl.imp fun mc z => ⟨nsk z.1, z.2⟩⟩
  have fr : ∀ b ∈ frs ([] : List Env), H b = none := fun b z => absurd z (by simp [frs])
  have e0 : Env0 P wd K mg (hidT s1.heap H) callerA [] s1 H := by
    constructor <;> first | rfl | exact md | exact fun b o e => of_hidT e | exact Nat.le_of_eq (hidT_size _ _) | trivial | exact fr | exact hok | exact .of_eq hg
  refine codeAny_mono ((F _ kin (nsk hn)).go callerA [] s1 H ⟨[.ref a], []⟩ [.ref a] [.ref a] _ _ rr e0 (bi s1 (.ref a)) (.cons rfl .nil) (q H hO hS)) ?_
  rintro (e | fl) s2 z
  · exact z.elim
  · cases fl with
    | ret u =>
      obtain ⟨v, H2, os, br, un2, hok2, rv, rfl⟩ := z
      obtain rfl : u = Value.bool true := rv
      refine ⟨rfl, .of_keep fun b o e => ?_, os, br⟩
      cases y : H b with
      | none => exact un2.keep b o e y (fun z => nomatch z) (by simp)
      | some w =>
        rcases hO b with z | ⟨ob', xs', z⟩
        · rw [y] at z; cases z
        · have h2 := (hok2 b _ (un2.frzs b ob' _ z)).1
          have h1 := (hok b _ z).1
          rw [e] at h1; cases h1
          exact h2
    | _ => exact False.elim z
/-- the walk's end -/
theorem walk_endG {l : PySem.W.OpenLaw} {k : Nat} {x : Str} {q : Program} {loose : List Str} {XP : (Str → Option Value) → Heap → Prop} {YP : World → Heap → Prop} {d : DefRec} {K : Params → PySem.W.Frag} {sp : World → Sp} (hn : l.most = some 63) (hdf : d.params.defaults = []) (hk : k ≤ 100)
    (hY : ∀ (w : World) (h : Heap), YP w h → (K w.params).In h)
    (F : ∀ (w : World) (mg : Str → Option Value) (fa : Addr) (h : Heap), (K w.params).In h → h.Ns mainGlobals mg → mg d.name = some (.ref fa) →
      ∃ fd : FuncData, (∀ (s : Shared) (u : Value), BindsTo s fd ⟨[u], []⟩ [(x, u)]) ∧ ∀ base : Heap, (K w.params).In base → base.Ns mainGlobals mg → FnG l.prog w (K w.params) mg base CX0 k fa fd [x] (sp w))
    (hs : ∀ (w : World) (H : Hp) (a : Addr) (ns : List Int), ns.length ≤ 63 → Only H → SqL (K w.params) H a (ns.map V.int) → sp w [.ref a] H (fun v _ => v = .bl true) fun _ _ _ => False) :
    PySem.W.WalkO q loose XP YP l.row.toRowW d [] (fun f vs => PySem.call f vs) := by
  refine Att.attach_call hn hdf ?_
  intro w s0 s1 mg mb fa o pm cd doc a vs ns G Y ho hd hcd hmg hobj hints hlen hg
  obtain ⟨fd, bi, hF⟩ := F w mg fa _ (hY w _ Y) G.T.g hmg
  have rr : Rm k callerA := ⟨(⟨rfl, by decide, by decide⟩ : Room 100 callerA).mono hk, rfl⟩
  exact law_callG (hY w _ Y) G.T.g G.T.b G.T.builtins G.T.nolimit hg hobj hints (Nat.le_trans hlen (by decide)) rr hF bi (fun H hO hS => hs w H a ns hlen hO hS)
end BR

namespace BR
open PySem PySem.Spec PyProof.Rows L2
section
variable {n : Nat}
theorem key1 {β : Type} : ∀ kvs : List (Key × β), noRef.go n (kvs.map fun p => keyD p.1) = true
  | [] => rfl
  | (.inl i, _) :: r => by
    show (true && noRef.go n (r.map fun p => keyD p.1)) = true
    rw [key1 r]; rfl
  | (.inr i, _) :: r => by
    show (true && noRef.go n (r.map fun p => keyD p.1)) = true
    rw [key1 r]; rfl
theorem key0 : ∀ ks : List Key, noRef.go n (ks.map keyD) = true
  | [] => rfl
  | .inl i :: r => by
    show (true && noRef.go n (r.map keyD)) = true
    rw [key0 r]; rfl
  | .inr i :: r => by
    show (true && noRef.go n (r.map keyD)) = true
    rw [key0 r]; rfl
theorem key2 {β : Type} : ∀ kvs : List (List Key × β), noRef.go n (kvs.map fun p => D.tup (p.1.map keyD)) = true
  | [] => rfl
  | p :: r => by
    show (noRef.go n (p.1.map keyD) && noRef.go n (r.map fun p => D.tup (p.1.map keyD))) = true
    rw [key0, key2 r]; rfl
end
section
variable {K : PySem.W.Frag} {ct : CT} {w w' w0 w1 w2 : W} {H H' H0 H1 H2 : Hp} {h h' : Hd}
mutual
theorem noRef_of : ∀ (d : D) (v : V), RD K w H d v → noRef w.io.length d = true
  | .non, _, _ => rfl
  | .bl _, _, _ => rfl
  | .int _, _, _ => rfl
  | .str _, _, _ => rfl
  | .tup xs, _, ⟨_, vs, _, _, r⟩ => noRefs_of xs vs r
  | .lst xs, _, ⟨_, vs, _, _, r⟩ => noRefs_of xs vs r
  | .scr _, _, _ => rfl
  | .dct ks us, _, ⟨_, _, _, ⟨kvs, _, hk, r⟩⟩ => by
    show (noRef.go _ ks && noRef.go _ us) = true
    rw [noRefs_of us _ r, Bool.and_true, hk]
    exact key1 kvs
  | .dcT ks us, _, ⟨_, _, _, ⟨kvs, _, hk, r⟩⟩ => by
    show (noRef.go _ ks && noRef.go _ us) = true
    rw [noRefs_of us _ r, Bool.and_true, hk]
    exact key2 kvs
  | .ref m, _, ⟨a, _, e⟩ => by
    have := (List.getElem?_eq_some_iff.mp e).1
    show decide (m < w.io.length) = true
    exact decide_eq_true this
theorem noRefs_of : ∀ (ds : List D) (vs : List V), RDs K w H ds vs → noRef.go w.io.length ds = true
  | [], _, _ => rfl
  | d :: ds, _, ⟨v, r, _, a, b⟩ => by
    show (noRef _ d && noRef.go _ ds) = true
    rw [noRef_of d v a, noRefs_of ds r b]; rfl
end
theorem go_all {n : Nat} : ∀ ds : List D, noRef.go n ds = ds.all (noRef n)
  | [] => rfl
  | d :: ds => by show (noRef n d && noRef.go n ds) = _; rw [go_all ds]; rfl
mutual
theorem narrow {m : List Addr} (e : w1.io = w.io ++ m) (er : w1.rs = w.rs) : ∀ (d : D) (v : V), RD K w1 H d v → noRef w.io.length d = true → RD K w H d v
  | .non, _, r, _ => r
  | .bl _, _, r, _ => r
  | .int _, _, r, _ => r
  | .str _, _, r, _ => r
  | .tup xs, _, ⟨a, vs, e1, e2, r⟩, q => ⟨a, vs, e1, e2, narrows e er xs vs r q⟩
  | .lst xs, _, ⟨a, vs, e1, ⟨e2, s⟩, r⟩, q => ⟨a, vs, e1, ⟨e2, still_narrow e er s⟩, narrows e er xs vs r q⟩
  | .scr _, _, r, _ => r
  | .dct ks us, _, ⟨a, e1, s, ⟨kvs, e2, hk, r⟩⟩, q => ⟨a, e1, still_narrow e er s, ⟨kvs, e2, hk, narrows e er us _ r (by
      have q : (noRef.go _ ks && noRef.go _ us) = true := q
      exact (Bool.and_eq_true_iff.mp q).2)⟩⟩
  | .dcT ks us, _, ⟨a, e1, s, ⟨kvs, e2, hk, r⟩⟩, q => ⟨a, e1, still_narrow e er s, ⟨kvs, e2, hk, narrows e er us _ r (by
      have q : (noRef.go _ ks && noRef.go _ us) = true := q
      exact (Bool.and_eq_true_iff.mp q).2)⟩⟩
  | .ref k, _, ⟨a, e1, e2⟩, q => ⟨a, e1, by
      have q : decide (k < w.io.length) = true := q
      have q := of_decide_eq_true q
      rw [e, List.getElem?_append_left q] at e2
      exact e2⟩
theorem narrows {m : List Addr} (e : w1.io = w.io ++ m) (er : w1.rs = w.rs) : ∀ (ds : List D) (vs : List V), RDs K w1 H ds vs → noRef.go w.io.length ds = true → RDs K w H ds vs
  | [], _, r, _ => r
  | d :: ds, _, ⟨v, r, e1, a, b⟩, q => by
    have q : (noRef _ d && noRef.go _ ds) = true := q
    have q := Bool.and_eq_true_iff.mp q
    exact ⟨v, r, e1, narrow e er d v a q.1, narrows e er ds r b q.2⟩
theorem still_narrow {m : List Addr} {a : Addr} (e : w1.io = w.io ++ m) (er : w1.rs = w.rs) (s : Still w1 a) : Still w a :=
  ⟨fun q => s.1 (by rw [e]; exact List.mem_append_left _ q), fun q => s.2 (by rw [er]; exact q)⟩
end
theorem narrow_all {m : List Addr} (e : w1.io = w.io ++ m) (er : w1.rs = w.rs) {ds : List D} {vs : List V} (r : RDs K w1 H ds vs) (q : ds.all (noRef w.io.length) = true) : RDs K w H ds vs := narrows e er ds vs r (by rw [go_all]; exact q)
theorem ob_noRef {ob : Ob} {a : Addr} (r : RO K w H ct ob a) : obNoRef w.io.length ob = true := by
  cases ob with
  | lst xs => obtain ⟨vs, _, r⟩ := r; show xs.all _ = true; rw [← go_all]; exact noRefs_of xs vs r
  | dct ks us =>
    show (ks.all _ && us.all _) = true
    obtain ⟨kvs, _, hk, r⟩ := r
    rw [← go_all, ← go_all, noRefs_of us _ r, hk, key1]; rfl
  | dcT ks us =>
    show (ks.all _ && us.all _) = true
    obtain ⟨kvs, _, hk, r⟩ := r
    rw [← go_all, ← go_all, noRefs_of us _ r, hk, key2]; rfl
  | ins c fs => obtain ⟨dx, gs, _, _, _, r⟩ := r; show fs.all _ = true; rw [← go_all]; exact noRefs_of fs _ r
  | tpl xs => obtain ⟨o, vs, _, _, r⟩ := r; show xs.all _ = true; rw [← go_all]; exact noRefs_of xs vs r
  | exo c => rfl
theorem ro_narrow {m : List Addr} (e : w1.io = w.io ++ m) (er : w1.rs = w.rs) {ob : Ob} {a : Addr} (r : RO K w1 H ct ob a) (q : obNoRef w.io.length ob = true) : RO K w H ct ob a := by
  cases ob with
  | lst xs => obtain ⟨vs, h1, r⟩ := r; exact ⟨vs, h1, narrow_all e er r q⟩
  | dct ks us =>
    have q : (ks.all (noRef w.io.length) && us.all (noRef w.io.length)) = true := q
    have q := (Bool.and_eq_true_iff.mp q).2
    obtain ⟨kvs, h1, hk, r⟩ := r
    exact ⟨kvs, h1, hk, narrow_all e er r q⟩
  | dcT ks us =>
    have q : (ks.all (noRef w.io.length) && us.all (noRef w.io.length)) = true := q
    have q := (Bool.and_eq_true_iff.mp q).2
    obtain ⟨kvs, h1, hk, r⟩ := r
    exact ⟨kvs, h1, hk, narrow_all e er r q⟩
  | ins c fs => obtain ⟨dx, gs, h1, h2, h3, r⟩ := r; exact ⟨dx, gs, h1, h2, h3, narrow_all e er r q⟩
  | tpl xs => obtain ⟨o, vs, h1, h2, r⟩ := r; exact ⟨o, vs, h1, h2, narrow_all e er r q⟩
  | exo c => exact r
/-- a def is left: its own things are frozen or gone -/
theorem fin_ok {d d' : D} {v : V} (sr : SR K w H ct h) (st : Step K w H w1 H1) (sr1 : SR K w1 H1 ct h') (rd : RD K w1 H1 d v) (ho : okOld h h') (hf : frz h' h.length d = some d') :
    Step K w H w H1 ∧ SR K w H1 ct (h'.take h.length) ∧ RD K w H1 d' v := by
  obtain ⟨m, e⟩ := st.pre
  have hl := sr.len
  have back : ∀ d v, RD K w H d v → RD K w H1 d v := fun d v r => narrow e st.rs d v (st.rd d v r) (noRef_of d v r)
  have hlen1 : w1.io.length = h'.length := sr1.len
  have hle : h.length ≤ h'.length := by rw [← hl, ← hlen1, e]; simp
  refine ⟨⟨⟨[], by simp⟩, rfl, st.kp, back⟩, ⟨by rw [List.length_take, hl]; omega, sr.nd, sr.ap, fun a ha => ?_, fun k o a e1 e2 => ?_⟩, ?_⟩
  · obtain ⟨xs, q⟩ := sr.tr a ha
    exact ⟨xs, (st.kp a ha).trans q⟩
  · have hk : k < h.length := by
      have := (List.getElem?_eq_some_iff.mp e1).1
      rw [List.length_take] at this
      omega
    rw [List.getElem?_take, if_pos hk] at e1
    have e2' : w1.io[k]? = some a := by rw [e, List.getElem?_append_left (by rw [hl]; exact hk)]; exact e2
    have ro := sr1.ob k o a e1 e2'
    obtain ⟨o', q1, q2⟩ := ho k hk
    rw [e1] at q1; cases q1
    refine ro_narrow e st.rs ro ?_
    rcases q2 with q2 | q2
    · exact ob_noRef (sr.ob k o a q2 e2)
    · rw [hl]; exact q2
  · unfold frz at hf
    split at hf
    · rename_i hn
      cases hf
      exact narrow e st.rs d v rd (by rw [hl]; exact hn)
    · rename_i hn
      split at hf
      · rename_i a
        obtain ⟨p, e1, e2⟩ := rd
        have ha : ¬ a < h.length := fun z => hn (decide_eq_true z)
        have hst : Still w p := by
          refine ⟨fun q => ?_, fun q => sr1.ap p (by rw [st.rs]; exact q) (List.mem_of_getElem? e2)⟩
          obtain ⟨j, hj, ej⟩ := List.getElem_of_mem q
          have : w1.io[j]? = some p := by rw [e, List.getElem?_append_left hj]; simp [hj, ej]
          have := nd_at sr1.nd this e2
          omega
        split at hf
        · rename_i xs q
          split at hf
          · rename_i hx
            cases hf
            obtain ⟨vs, r1, r2⟩ := sr1.ob a _ p q e2
            exact ⟨p, vs, e1, ⟨r1, hst⟩, narrow_all e st.rs r2 (by rw [hl]; exact hx)⟩
          · cases hf
        · rename_i ks us q
          split at hf
          · rename_i hx
            cases hf
            have hx := (Bool.and_eq_true_iff.mp hx).2
            obtain ⟨kvs, r1, hk, r2⟩ := sr1.ob a _ p q e2
            exact ⟨p, e1, hst, ⟨kvs, .inl r1, hk, narrow_all e st.rs r2 (by rw [hl]; exact hx)⟩⟩
          · cases hf
        · rename_i ks us q
          split at hf
          · rename_i hx
            cases hf
            have hx := (Bool.and_eq_true_iff.mp hx).2
            obtain ⟨kvs, r1, hk, r2⟩ := sr1.ob a _ p q e2
            exact ⟨p, e1, hst, ⟨kvs, .inl r1, hk, narrow_all e st.rs r2 (by rw [hl]; exact hx)⟩⟩
          · cases hf
        · rename_i xs q
          split at hf
          · rename_i hx
            cases hf
            obtain ⟨o, vs, r1, _, r2⟩ := sr1.ob a _ p q e2
            exact ⟨p, vs, e1, .inl (.inr ⟨o, r1⟩), narrow_all e st.rs r2 (by rw [hl]; exact hx)⟩
          · cases hf
        · cases hf
      · cases hf
theorem RS.start {N : Nat} {ds : List D} {vs : List V} (r : RDs K w H ds vs) : RS K w H (ds.map some ++ List.replicate N none) (vs.map some ++ List.replicate N none) := by
  have hl := r.len
  refine ⟨by simp [hl], fun i d e => ?_⟩
  by_cases hi : i < ds.length
  · rw [List.getElem?_append_left (by simpa using hi)] at e
    rw [List.getElem?_append_left (by simp; omega)]
    rw [List.getElem?_map] at e ⊢
    cases q : ds[i]? with
    | none => rw [q] at e; cases e
    | some x =>
      rw [q] at e; cases e
      obtain ⟨v, h1, h2⟩ := r.get q
      exact ⟨v, by rw [h1]; rfl, h2⟩
  · rw [List.getElem?_append_right (by simp; omega)] at e
    rw [List.getElem?_replicate] at e
    split at e <;> cases e
end

/-- what a def promises: as g reckons -/
def spF (K : PySem.W.Frag) (ct : CT) (n : Nat) (g : EF) : Sp := fun vs H Q _ => vs.length = n ∧ rG K ct g vs H Q
section
variable {P : Program} {wd : World} {K : PySem.W.Frag} {mg : Str → Option Value} {base : Heap} {ct : CT}
theorem ok_fn {x qual : Str} {st : Stmt} {f : Addr} {fd : FuncData} {N ps : List Str} {k n m : Nat} {body : SS} (F : Fun K x qual st f fd) (S : FnScope N ps (defScope st)) (hn : ps.length = n) (hm : N.length = m)
    (hb : ∀ (cdv : Value) (A : Around) (outer : List Env) (s : Shared) (H : Hp) (E : XK), Rm k (A.deeper (envOfC qual (defScope st) s.heap.objs.size f cdv)) →
      SXs ct (cxOf CX0 P wd K mg base N qual (defScope st) f cdv A outer s H E).nox (defBody st) body) : FnG P wd K mg base CX0 (k + 1) f fd ps (spF K ct n (fn n m body)) := by
  refine fnG_of F S (fun vs H Q E h => by rw [h.1, hn]) fun cdv A outer s H vs Q E hr h => ?_
  obtain ⟨hl, w, hd, ds, sr, rd, q⟩ := h
  refine ⟨_, (hb cdv A outer s H E hr).nox, w, hd, ds.map some ++ List.replicate (m - n) none, sr, ?_, ?_⟩
  · have e : L2.start N vs = vs.map some ++ List.replicate (m - n) none := by unfold L2.start; rw [hl, hm]
    rw [e]; exact RS.start rd
  · have hdl : ds.length = n := by rw [rd.len, hl]
    unfold fn at q
    rw [if_pos hdl] at q
    refine (okR.bind0 (rel := rF K) q).imp fun b H1 ⟨w1, h1, fl, st1, sr1, r1, q1⟩ => ?_
    have go : ∀ (d : D) (v : V), RD K w1 H1 d v → okR K ct (rV K) (fin hd d h1) w H Q → Q v H1 := fun d v rd q => by
      unfold fin at q
      by_cases ho : okOld hd h1
      · rw [if_pos ho] at q
        cases hf : frz h1 hd.length d with
        | none => rw [hf] at q; exact q.elim
        | some d' =>
          rw [hf] at q
          obtain ⟨f1, f2, f3⟩ := fin_ok sr st1 sr1 rd ho hf
          exact q w H1 v f1 f2 f3
      · rw [if_neg ho] at q; exact q.elim
    cases fl with
    | nx σ1 => cases b with
      | nx σ2 => exact go .non .non rfl q1
      | _ => exact r1.elim
    | rt d => cases b with
      | rt v => exact go d v r1 q1
      | _ => exact r1.elim
    | bk σ1 => exact q1.elim
    | ct σ1 => exact q1.elim
theorem ok_fnK {x qual : Str} {st : Stmt} {f : Addr} {fd : FuncData} {N ps : List Str} {k n m : Nat} {body : SS} (F : Fun K x qual st f fd) (S : FnScope N ps (defScope st)) (hn : ps.length = n) (hm : N.length = m)
    (hb : ∀ (cdv : Value) (A : Around) (outer : List Env) (s : Shared) (H : Hp) (E : XK), Rm k (A.deeper (envOfC qual (defScope st) s.heap.objs.size f cdv)) →
      SXs ct (cxOf CX0 P wd K mg base N qual (defScope st) f cdv A outer s H E).nox (defBody st) body) : FnG P wd K mg base CX0 (k + 1) f fd ps (spF K ct n (fnK n m body)) := by
  refine fnG_of F S (fun vs H Q E h => by rw [h.1, hn]) fun cdv A outer s H vs Q E hr h => ?_
  obtain ⟨hl, w, hd, ds, sr, rd, q⟩ := h
  refine ⟨_, (hb cdv A outer s H E hr).nox, w, hd, ds.map some ++ List.replicate (m - n) none, sr, ?_, ?_⟩
  · have e : L2.start N vs = vs.map some ++ List.replicate (m - n) none := by unfold L2.start; rw [hl, hm]
    rw [e]; exact RS.start rd
  · have hdl : ds.length = n := by rw [rd.len, hl]
    unfold fnK at q
    rw [if_pos hdl] at q
    refine (okR.bind (rel := rF K) q).imp fun b H1 ⟨w1, h1, fl, st1, sr1, r1, q1⟩ => ?_
    cases fl with
    | nx σ1 => cases b with
      | nx σ2 => exact okR.here (K := K) (ct := ct) (rel := rV K) (a := D.non) (b := V.non) q1 sr1 rfl
      | _ => exact r1.elim
    | rt d => cases b with
      | rt v => exact okR.here (K := K) (ct := ct) (rel := rV K) (a := d) (b := v) q1 sr1 r1
      | _ => exact r1.elim
    | bk σ1 => exact q1.elim
    | ct σ1 => exact q1.elim
/-- a def that may be called by its name, as g reckons -/
structure Kn (P : Program) (wd : World) (K : PySem.W.Frag) (mg : Str → Option Value) (base : Heap) (ct : CT) (k : Nat) (x : Str) (n : Nat) (g : EF) : Prop where
  ex : ∃ (f : Addr) (fd : FuncData) (ps : List Str), FnG P wd K mg base CX0 k f fd ps (spF K ct n g) ∧ mg x = some (.ref f) ∧ PySem.W.keepIn K (.ref f) = true ∧ Binds K fd ps []
end
section
variable {ct : CT} {X : Cx} {e : Expr} {es : List Expr} {pos p : Pos} {x : Str} {k j n : Nat} {g : EF} {ha : EA}
theorem se_call (c : Kn X.prog X.w X.K X.mg X.base ct k x n g) (hg' : ∀ ds h, ds.length ≠ n → g ds h = .bad) (hr : Rm j X.A) (hk : k ≤ j) (hg : Gl X x) (h1 : SA ct X (e :: es) ha)
    (hdb : (x == ("__debug__" : Str)) = false := by decide) (he : starEach (e :: es) X.env = (false, eval e X.env) :: starEach es X.env := by rfl) (hpl : (backTo pos (starEach es X.env)).any (·.1) = false := by rfl) :
    SE ct X (.Call (.Name x p) (e :: es) [] pos) (eAp g ha) := by
  obtain ⟨f, fd, ps, F, hm, kp, b⟩ := c.ex
  refine pe_imp (pe_callG (E := fun _ _ _ _ => False) F (hr.mono hk) hg hm kp b .nil (fun _ _ _ _ _ _ _ z => z.elim) h1 hdb he hpl) fun σ H Q ⟨w, h, σd, sr, rs, q⟩ => ?_
  refine ⟨w, h, σd, sr, rs, (okR.bind (rel := rVs X.K) q).imp fun vs H1 ⟨w1, h1, ds, st1, sr1, r1, q1⟩ => ?_⟩
  rw [List.append_nil]
  by_cases hl : ds.length = n
  · exact ⟨by rw [← r1.len, hl], w1, h1, ds, sr1, r1, q1⟩
  · rw [hg' ds h1 hl] at q1; exact q1.elim
theorem fn_bad {n m : Nat} {body : SS} (ds : List D) (h : Hd) (e : ds.length ≠ n) : fn n m body ds h = .bad := by unfold fn; rw [if_neg e]
theorem fnK_bad {n m : Nat} {body : SS} (ds : List D) (h : Hd) (e : ds.length ≠ n) : fnK n m body ds h = .bad := by unfold fnK; rw [if_neg e]
/-- a raise that is never reached -/
def sRaise (c : Nat) : SS := fun _ h => .exc c [] h
theorem sx_raise {s : Stmt} {c : Nat} : SX ct X s (sRaise c) := ps_imp ps_never fun E σ H ⟨w, h, σd, sr, rs, q⟩ => q
end
end BR

namespace BR
open PySem PySem.Spec PyProof.Rows L2

def gAdd : EF := fun ds h => match ds with
  | [.int i, .int j] => .ok (.int (i + j)) h
  | [.tup xs, .tup ys] => if xs.length + ys.length ≤ LIM then .ok (.tup (xs ++ ys)) h else .bad
  | [.lst xs, .lst ys] => if xs.length + ys.length ≤ LIM then .ok (.lst (xs ++ ys)) h else .bad
  | [.ref a, .lst ys] => match h[a]? with
    | some (.lst xs) => if xs.length + ys.length ≤ LIM then .ok (.lst (xs ++ ys)) h else .bad
    | _ => .bad
  | [.lst xs, .ref b] => match h[b]? with
    | some (.lst ys) => if xs.length + ys.length ≤ LIM then .ok (.lst (xs ++ ys)) h else .bad
    | _ => .bad
  | _ => .bad
def gSubt : EF := fun ds h => match ds with
  | [.int i, .int j] => .ok (.int (i - j)) h
  | _ => .bad
/-- the bits that numbers may have -/
def mulOk (i j : Int) : Prop := (-(2 ^ 64) < i ∧ i < 2 ^ 64) ∨ (-(2 ^ 64) < j ∧ j < 2 ^ 64) ∨ i.natAbs.log2 + j.natAbs.log2 < 1000000
open Classical in
noncomputable def gMul : EF := fun ds h => match ds with
  | [.int i, .int j] => if mulOk i j then .ok (.int (i * j)) h else .bad
  | [.lst xs, .int k] => if k ≤ BIG ∧ -BIG ≤ k ∧ xs.length * k.toNat ≤ LIM then .ok (.lst (List.replicate k.toNat xs).flatten) h else .bad
  | [.tup xs, .int k] => if k ≤ 1000 ∧ -BIG ≤ k ∧ xs.length ≤ 1000 then .ok (.tup (List.replicate k.toNat xs).flatten) h else .bad
  | _ => .bad
def gFdv : EF := fun ds h => match ds with
  | [.int i, .int j] => if j ≠ 0 ∧ j.natAbs.log2 < 9000 then .ok (.int (i.fdiv j)) h else .bad
  | _ => .bad
def gMod : EF := fun ds h => match ds with
  | [.int i, .int j] => if j ≠ 0 then .ok (.int (i.fmod j)) h else .bad
  | _ => .bad
def gPow : EF := fun ds h => match ds with
  | [.int i, .int j] => if 0 ≤ j ∧ j ≤ 1000000 ∧ i.natAbs < 2 ^ 64 then .ok (.int (i ^ j.toNat)) h else .bad
  | _ => .bad
def gNeg : EF := fun ds h => match ds with
  | [.int i] => .ok (.int (-i)) h
  | _ => .bad
def gLt : EF := fun ds h => match ds with
  | [.int i, .int j] => .ok (.bl (decide (i < j))) h
  | _ => .bad
def gLe : EF := fun ds h => match ds with
  | [.int i, .int j] => .ok (.bl (decide (i ≤ j))) h
  | _ => .bad
def gGt : EF := fun ds h => match ds with
  | [.int i, .int j] => .ok (.bl (decide (j < i))) h
  | _ => .bad
def gGe : EF := fun ds h => match ds with
  | [.int i, .int j] => .ok (.bl (decide (j ≤ i))) h
  | _ => .bad
def gIs : EF := fun ds h => match ds with
  | [.bl i, .bl j] => .ok (.bl (decide (i = j))) h
  | _ => .bad
def gIsn : EF := fun ds h => match ds with
  | [.bl i, .bl j] => .ok (.bl (!decide (i = j))) h
  | _ => .bad

mutual
def toPy (h : Hd) : D → Option PyData
  | .non => some .none
  | .bl b => some (.bool b)
  | .int i => some (.int i)
  | .str x => some (.str x)
  | .tup xs => (toPys h xs).map .tuple
  | .lst xs => (toPys h xs).map .list
  | _ => none
def toPys (h : Hd) : List D → Option (List PyData)
  | [] => some []
  | d :: ds => match toPy h d, toPys h ds with
    | some a, some b => some (a :: b)
    | _, _ => none
end
def toPyR (h : Hd) : D → Option PyData
  | .ref a => match h[a]? with
    | some (.lst xs) => (toPys h xs).map .list
    | _ => none
  | d => toPy h d
/-- Python's == -/
def strOf : D → Option Str
  | .str x => some x
  | _ => none
def eqD (h : Hd) (d e : D) : Option Bool := match strOf d, strOf e with
  | some a, some b => some (decide (a = b))
  | _, _ => match toPyR h d, toPyR h e with
    | some a, some b => if SeqAt.shaped a = true ∧ SeqAt.shaped b = true then some (PyData.eqv a b) else none
    | _, _ => none
def gEq : EF := fun ds h => match ds with
  | [d, e] => match eqD h d e with
    | some b => .ok (.bl b) h
    | none => .bad
  | _ => .bad
def gNe : EF := fun ds h => match ds with
  | [d, e] => match eqD h d e with
    | some b => .ok (.bl (!b)) h
    | none => .bad
  | _ => .bad

section
variable {K : PySem.W.Frag} {ct : CT} {w : W} {H : Hp} {h : Hd} {Q : VK}
theorem LIM_line {n : Nat} (e : n ≤ LIM) : n ≤ sizeLine := Nat.le_trans e (by rw [sizeLine_eq]; decide)
theorem put_tup {xs : List D} {vs : List V} (q : okR K ct (rV K) (.ok (.tup xs) h) w H Q) (sr : SR K w H ct h) (r : RDs K w H xs vs) {p : Addr} (hp : H p = none) : Q (.ref p) (upd H p (.tup vs)) :=
  q w _ _ (.alloc sr hp) (sr.alloc hp) ⟨p, vs, rfl, SqT.of upd_same, (Step.alloc sr hp).rds r⟩
theorem put_lst {xs : List D} {vs : List V} (q : okR K ct (rV K) (.ok (.lst xs) h) w H Q) (sr : SR K w H ct h) (r : RDs K w H xs vs) {p : Addr} (hp : H p = none) : Q (.ref p) (upd H p (.lst vs)) :=
  q w _ _ (.alloc sr hp) (sr.alloc hp) ⟨p, vs, rfl, ⟨upd_same, sr.fresh hp⟩, (Step.alloc sr hp).rds r⟩
theorem put_ref {xs : List D} {vs : List V} (q : okR K ct (rV K) (.ok (.ref h.length) (h ++ [.lst xs])) w H Q) (sr : SR K w H ct h) (r : RDs K w H xs vs) {p : Addr} (hp : H p = none) : Q (.ref p) (upd H p (.lst vs)) := by
  refine q _ _ _ (.new sr hp) (sr.new hp ⟨vs, upd_same, (Step.new sr hp).rds r⟩) ⟨p, rfl, ?_⟩
  show (w.io ++ [p])[h.length]? = some p
  rw [← sr.len, List.getElem?_append_right (Nat.le_refl _), Nat.sub_self]; rfl
theorem put_mut {a : Nat} {p : Addr} {xs : List D} {vs : List V} {d : D} {v : V} (q : okR K ct (rV K) (.ok d (h.set a (.lst xs))) w H Q) (sr : SR K w H ct h) (hp : w.io[a]? = some p) (so : Soft h a) (r : RDs K w H xs vs)
    (rd : RD K w H d v) : Q v (upd H p (.lst vs)) :=
  q w _ _ (.mut sr hp so) (sr.mut hp so ⟨vs, upd_same, (Step.mut sr hp so).rds r⟩) ((Step.mut sr hp so).rd _ _ rd)
/-- a list's items, where it stands -/
theorem lst_at {d : D} {v : V} {xs : List D} (sr : SR K w H ct h) (rd : RD K w H d v) (e : lstOf h d = some xs) : ∃ a vs, v = .ref a ∧ H a = some (.lst vs) ∧ RDs K w H xs vs := by
  cases d with
  | lst ys => cases e; obtain ⟨a, vs, e1, e2, r⟩ := rd; exact ⟨a, vs, e1, e2.1, r⟩
  | ref n =>
    obtain ⟨a, e1, e2⟩ := rd
    unfold lstOf at e
    simp only at e
    split at e
    · rename_i q
      cases e
      obtain ⟨vs, q1, q2⟩ := sr.ob n _ a q e2
      exact ⟨a, vs, e1, q1, q2⟩
    · cases e
  | _ => cases e
theorem rep_rds {xs : List D} {vs : List V} (r : RDs K w H xs vs) : ∀ n : Nat, RDs K w H (List.replicate n xs).flatten (List.replicate n vs).flatten
  | 0 => rfl
  | n + 1 => by
    simp only [List.replicate_succ, List.flatten_cons]
    exact RDs.append r (rep_rds r n)
end
section
variable {ct : CT} {X : Cx}
theorem op_cat2 {d e : D} {x y : V} {xs ys : List D} {w : W} {H : Hp} {h : Hd} {Q : VK} (sr : SR X.K w H ct h) (rx : RD X.K w H d x) (ry : RD X.K w H e y) (e1 : lstOf h d = some xs) (e2 : lstOf h e = some ys)
    (q : okR X.K ct (rV X.K) (if xs.length + ys.length ≤ LIM then .ok (.lst (xs ++ ys)) h else .bad) w H Q) : rCat x y H Q := by
  split at q
  · rename_i hl
    obtain ⟨a, vs, rfl, ha, r1⟩ := lst_at sr rx e1
    obtain ⟨b, us, rfl, hb, r2⟩ := lst_at sr ry e2
    refine ⟨a, b, vs, us, rfl, rfl, ha, hb, LIM_line (by rw [← r1.len, ← r2.len]; exact hl), fun p hp => put_lst q sr (r1.append r2) hp⟩
  · exact q.elim
theorem or_add : OpR X (binaryOp .Add) (r2G X.K ct gAdd) := by
  intro pins s σ H x y v u Q I rx ry ⟨w, h, ds, sr, rd, q⟩
  obtain ⟨d, e, rfl, r1, r2⟩ := rd.two
  unfold gAdd at q
  split at q
  · rename_i i j e
    cases e
    exact op_add pins s σ H x y v u Q I rx ry ⟨i, j, r1, r2, q.here sr rfl⟩
  · rename_i xs ys e
    cases e
    split at q
    · rename_i hl
      obtain ⟨a, vs, rfl, ha, ra⟩ := r1
      obtain ⟨b, us, rfl, hb, rb⟩ := r2
      refine op_catA pins s σ H _ _ v u Q I rx ry ⟨a, b, vs, us, rfl, rfl, ha, hb, LIM_line (by rw [← ra.len, ← rb.len]; exact hl), fun e => ?_, fun e1 e2 => ?_, fun _ _ p hp => put_tup q sr (ra.append rb) hp⟩
      · subst e
        cases ra.zero
        exact q.here sr ⟨b, us, rfl, hb, rb⟩
      · subst e2
        cases rb.zero
        rw [List.append_nil] at q
        exact q.here sr ⟨a, vs, rfl, ha, ra⟩
    · exact q.elim
  · rename_i xs ys e
    cases e
    exact op_cat pins s σ H x y v u Q I rx ry (op_cat2 sr r1 r2 rfl rfl q)
  · rename_i a ys e
    cases e
    split at q
    · rename_i xs hx
      exact op_cat pins s σ H x y v u Q I rx ry (op_cat2 sr r1 r2 (by simp [lstOf, hx]) rfl q)
    · exact q.elim
  · rename_i xs b e
    cases e
    split at q
    · rename_i ys hx
      exact op_cat pins s σ H x y v u Q I rx ry (op_cat2 sr r1 r2 rfl (by simp [lstOf, hx]) q)
    · exact q.elim
  · exact q.elim
/-- two ints -/
theorem int2 {g : EF} {f : Value → Value → Sem Value} {C : Int → Int → Prop} {k : Int → Int → V} {kd : Int → Int → D} (ho : OpR X f (rI C k)) (hg : ∀ (ds : List D) (h : Hd) (d : D) (h' : Hd), g ds h = .ok d h' → ∃ i j, ds = [.int i, .int j] ∧ C i j ∧ d = kd i j ∧ h' = h)
    (hk : ∀ K w H i j, RD K w H (kd i j) (k i j)) : OpR X f (r2G X.K ct g) := by
  intro pins s σ H x y v u Q I rx ry ⟨w, h, ds, sr, rd, q⟩
  obtain ⟨d, h', e⟩ := okR_ok q
  obtain ⟨i, j, rfl, c, e1, e2⟩ := hg _ _ _ _ e
  subst e1; subst e2
  obtain ⟨_, _, e3, r1, r2⟩ := rd.two
  cases e3
  rw [e] at q
  exact ho pins s σ H x y v u Q I rx ry ⟨i, j, r1, r2, c, q.here sr (hk _ _ _ i j)⟩
theorem rI0_rI {f : Value → Value → Sem Value} {k : Int → Int → V} (ho : OpR X f (rI0 k)) : OpR X f (rI (fun _ _ => True) k) := fun pins s σ H x y v u Q I rx ry ⟨i, j, e1, e2, _, q⟩ => ho pins s σ H x y v u Q I rx ry ⟨i, j, e1, e2, q⟩
theorem or_sub : OpR X (binaryOp .Sub) (r2G X.K ct gSubt) := int2 (kd := fun i j => .int (i - j)) (rI0_rI op_sub) (fun ds h d h' e => by
  unfold gSubt at e; split at e <;> cases e; exact ⟨_, _, rfl, trivial, rfl, rfl⟩) fun _ _ _ _ _ => rfl
theorem or_lt : OpR X (compareOp .Lt) (r2G X.K ct gLt) := int2 (kd := fun i j => .bl (decide (i < j))) (rI0_rI op_lt) (fun ds h d h' e => by
  unfold gLt at e; split at e <;> cases e; exact ⟨_, _, rfl, trivial, rfl, rfl⟩) fun _ _ _ _ _ => rfl
theorem or_le : OpR X (compareOp .LtE) (r2G X.K ct gLe) := int2 (kd := fun i j => .bl (decide (i ≤ j))) (rI0_rI op_le) (fun ds h d h' e => by
  unfold gLe at e; split at e <;> cases e; exact ⟨_, _, rfl, trivial, rfl, rfl⟩) fun _ _ _ _ _ => rfl
theorem or_gt : OpR X (compareOp .Gt) (r2G X.K ct gGt) := int2 (kd := fun i j => .bl (decide (j < i))) (rI0_rI op_gt) (fun ds h d h' e => by
  unfold gGt at e; split at e <;> cases e; exact ⟨_, _, rfl, trivial, rfl, rfl⟩) fun _ _ _ _ _ => rfl
theorem or_ge : OpR X (compareOp .GtE) (r2G X.K ct gGe) := int2 (kd := fun i j => .bl (decide (j ≤ i))) (rI0_rI op_ge) (fun ds h d h' e => by
  unfold gGe at e; split at e <;> cases e; exact ⟨_, _, rfl, trivial, rfl, rfl⟩) fun _ _ _ _ _ => rfl
theorem or_pow : OpR X (binaryOp .Pow) (r2G X.K ct gPow) := int2 (kd := fun i j => .int (i ^ j.toNat)) op_pow (fun ds h d h' e => by
  unfold gPow at e; split at e
  · split at e
    · rename_i c; cases e; exact ⟨_, _, rfl, c, rfl, rfl⟩
    · cases e
  · cases e) fun _ _ _ _ _ => rfl
theorem or_mod : OpR X (binaryOp .Mod) (r2G X.K ct gMod) := int2 (kd := fun i j => .int (i.fmod j)) op_modN (fun ds h d h' e => by
  unfold gMod at e; split at e
  · split at e
    · rename_i c; cases e; exact ⟨_, _, rfl, c, rfl, rfl⟩
    · cases e
  · cases e) fun _ _ _ _ _ => rfl
theorem ur_neg : UnR X (unaryOp .USub) (fun x H Q => rG X.K ct gNeg [x] H Q) := by
  intro pins s σ H x v Q I rx ⟨w, h, ds, sr, rd, q⟩
  unfold gNeg at q
  split at q
  · rename_i i
    obtain ⟨_, e3, r1⟩ := rd.one
    cases e3
    exact un_neg pins s σ H x v Q I rx ⟨i, r1, q.here sr rfl⟩
  · exact q.elim
/-- //, by a divisor of any sign -/
theorem op_fdivA : OpR X (binaryOp .FloorDiv) (rI (fun _ j => j ≠ 0 ∧ j.natAbs.log2 < 9000) fun i j => .int (i.fdiv j)) :=
  opI fun _ _ _ _ _ _ _ hc q => floordiv_int hc.1 q (.inl (PyProof.noPylong_of_log2 hc.2))
theorem or_fdv : OpR X (binaryOp .FloorDiv) (r2G X.K ct gFdv) := int2 (kd := fun i j => .int (i.fdiv j)) op_fdivA (fun ds h d h' e => by
  unfold gFdv at e; split at e
  · split at e
    · rename_i c; cases e; exact ⟨_, _, rfl, c, rfl, rfl⟩
    · cases e
  · cases e) fun _ _ _ _ _ => rfl
end
end BR

namespace BR
open PySem PySem.Spec PyProof.Rows L2
theorem tuple_mul1 (l : Addr) (items : Array Value) (n : Nat) (dd : Option Addr) (sl : Array (Option Value)) (x : Int) (u : Tok) (c0 : (decide (x < -(2 ^ 63)) || decide (x ≥ 2 ^ 63)) = false) (c1 : (items.isEmpty || x == 1) = true) :
    Meets (Builtin.«tuple.__mul__» ⟨[.ref l, .int x u], []⟩) (fun _ R s => s.heap.get? l = some { cls := .type "tuple", dict := dd, data := .seq items n, slots := sl } ∧ R (.ok (.ret (Value.ref l))) s) :=
  .of_wp fun prog w A R s h => by
    obtain ⟨hp, g, d, tk, os⟩ := s
    obtain ⟨hl, h⟩ := h
    have f1 := AutoSeq1.idx_int
    wp_walk using wpAny_loadPart' hl
    repeat (first
      | (refine wpAny_ite_false (decide_eq_false (by rw [c0]; exact Bool.false_ne_true)) ?_; wp_walk using wpAny_loadPart' hl)
      | (refine wpAny_ite_true (decide_eq_true c1) ?_; wp_walk using wpAny_loadPart' hl))
    exact ⟨_, rfl, h⟩
theorem tuple_mul0 (l : Addr) (items : Array Value) (n : Nat) (dd : Option Addr) (sl : Array (Option Value)) (x : Int) (u : Tok) (c0 : (decide (x < -(2 ^ 63)) || decide (x ≥ 2 ^ 63)) = false) (c1 : (items.isEmpty || x == 1) = false) (c2 : (decide (x ≤ 0) || items.isEmpty) = true) :
    Meets (Builtin.«tuple.__mul__» ⟨[.ref l, .int x u], []⟩) (fun _ R s => s.heap.get? l = some { cls := .type "tuple", dict := dd, data := .seq items n, slots := sl } ∧
      R (.ok (.ret (Value.ref s.heap.objs.size))) { s with heap := s.heap.push { cls := Value.type "tuple", data := Data.seq #[] }, toks := s.toks }) :=
  .of_wp fun prog w A R s h => by
    obtain ⟨hp, g, d, tk, os⟩ := s
    obtain ⟨hl, h⟩ := h
    have f1 := AutoSeq1.idx_int
    wp_walk using wpAny_loadPart' hl
    repeat (first
      | (refine wpAny_ite_false (decide_eq_false (by rw [c0]; exact Bool.false_ne_true)) ?_; wp_walk using wpAny_loadPart' hl)
      | (refine wpAny_ite_false (decide_eq_false (by rw [c1]; exact Bool.false_ne_true)) ?_; wp_walk using wpAny_loadPart' hl)
      | (refine wpAny_ite_true (decide_eq_true c2) ?_; wp_walk using wpAny_loadPart' hl))
    exact ⟨_, rfl, h⟩
def rRepA (K : PySem.W.Frag) : R2 := fun x y H Q => ∃ l k xs, x = .ref l ∧ y = .int k ∧ SqT K H l xs ∧ -BIG ≤ k ∧ k ≤ 1000 ∧ xs.length ≤ 1000 ∧
  ((xs = [] ∨ k = 1) → Q (.ref l) H) ∧ (xs ≠ [] → k ≠ 1 → ∀ p, H p = none → Q (.ref p) (upd H p (.tup (List.replicate k.toNat xs).flatten)))
theorem op_repA {X : Cx} : OpR X (binaryOp .Mult) (rRepA X.K) := by
  intro pins s σ H x y v u Q I rx ry h
  obtain ⟨l, k, xs, rfl, rfl, hT, hb, h2, hz, q1, q2⟩ := h
  by_cases hbig : xs ≠ [] ∧ 2 ≤ k
  · exact op_repT pins s σ H _ _ v u Q I rx ry ⟨l, k, xs, rfl, rfl, hT, hbig.1, hbig.2, h2, hz, q2 hbig.1 (by omega)⟩
  unfold BIG at hb
  cases rx
  obtain ⟨t, rfl⟩ := ry
  obtain ⟨its, r, ⟨⟨cls, dd, data, sl⟩, ho, hc, n, hd⟩, hs⟩ := I.tuple hT
  simp only at hc hd
  subst hc hd
  have hle : its.length = xs.length := r.length.symm
  have c0 : (decide (k < -(2 ^ 63)) || decide (k ≥ 2 ^ 63)) = false := by
    rw [decide_eq_false (by omega), decide_eq_false (by omega)] <;> rfl
  by_cases h1 : xs = [] ∨ k = 1
  · have c1 : (its.toArray.isEmpty || k == 1) = true := by
      rcases h1 with h1 | h1
      · subst h1
        have : its = [] := List.eq_nil_of_length_eq_zero hle
        subst this; rfl
      · subst h1; simp
    refine wpAny_binaryOp_repeat_ref (T := "tuple") (U := "int") (by decide) ⟨_, ho, rfl⟩ (fun s' => typeIs_int s' k t) noFill_tuple_mul F.fills_int_mul F.slot_int_rmul repeat_tuple F.slot_int_index.lookup
      (call_meets F.slot_int_rmul (typeIs_int s k t) F.entry_int_rmul (F.args_int_rmul_2 _ _) (int_rmul_tuple k t l its.toArray n dd sl)
        ⟨ho, rfl, ⟨_, ho, rfl⟩, call_meets F.slot_tuple_mul ⟨_, ho, rfl⟩ F.entry_tuple_mul (F.args_tuple_mul_2 _ _) (tuple_mul1 l its.toArray n dd sl k t c0 c1) ⟨ho, ?_⟩⟩)
    exact ⟨.ref l, H, I, rfl, q1 h1⟩
  · have hx : xs ≠ [] := fun e => h1 (.inl e)
    have hk1 : k ≠ 1 := fun e => h1 (.inr e)
    have hk0 : k ≤ 0 := by
      by_cases hk : 2 ≤ k
      · exact absurd ⟨hx, hk⟩ hbig
      · omega
    have hi : its.toArray.isEmpty = false := by
      cases its with
      | nil => exact absurd (List.eq_nil_of_length_eq_zero hle.symm) hx
      | cons a b => rfl
    have c1 : (its.toArray.isEmpty || k == 1) = false := by
      rw [hi, Bool.false_or]
      exact beq_eq_false_iff_ne.mpr hk1
    have c2 : (decide (k ≤ 0) || its.toArray.isEmpty) = true := by rw [decide_eq_true hk0]; rfl
    refine wpAny_binaryOp_repeat_ref (T := "tuple") (U := "int") (by decide) ⟨_, ho, rfl⟩ (fun s' => typeIs_int s' k t) noFill_tuple_mul F.fills_int_mul F.slot_int_rmul repeat_tuple F.slot_int_index.lookup
      (call_meets F.slot_int_rmul (typeIs_int s k t) F.entry_int_rmul (F.args_int_rmul_2 _ _) (int_rmul_tuple k t l its.toArray n dd sl)
        ⟨ho, rfl, ⟨_, ho, rfl⟩, call_meets F.slot_tuple_mul ⟨_, ho, rfl⟩ F.entry_tuple_mul (F.args_tuple_mul_2 _ _) (tuple_mul0 l its.toArray n dd sl k t c0 c1 c2) ⟨ho, ?_⟩⟩)
    have e0 : (List.replicate k.toNat xs).flatten = [] := by
      have : k.toNat = 0 := by omega
      rw [this]; rfl
    have q2 := q2 hx hk1
    rw [e0] at q2
    refine ⟨.ref s.heap.objs.size, _, I.laid (t' := s.toks) (o := .tup []) (fun b ob q => Heap.get?_push_of_some _ q) (Nat.le_refl _) ?_, rfl, q2 _ (I.hok.fresh (Nat.le_refl _))⟩
    exact ⟨Nat.zero_le _, [], .nil, IsTup.new _ _⟩
section
variable {ct : CT} {X : Cx}
theorem or_mul : OpR X (binaryOp .Mult) (r2G X.K ct gMul) := by
  intro pins s σ H x y v u Q I rx ry ⟨w, h, ds, sr, rd, q⟩
  obtain ⟨d, e, rfl, r1, r2⟩ := rd.two
  unfold gMul at q
  split at q
  · rename_i i j e
    cases e
    split at q
    · rename_i hm
      rcases hm with hm | hm | hm
      · exact op_mul pins s σ H x y v u Q I rx ry ⟨i, j, r1, r2, .inl hm, q.here sr rfl⟩
      · exact op_mul pins s σ H x y v u Q I rx ry ⟨i, j, r1, r2, .inr hm, q.here sr rfl⟩
      · exact op_mulW pins s σ H x y v u Q I rx ry ⟨i, j, r1, r2, hm, q.here sr rfl⟩
    · exact q.elim
  · rename_i xs k e
    cases e
    split at q
    · rename_i hm
      obtain ⟨a, vs, rfl, ha, ra⟩ := r1
      have hl := ra.len
      unfold BIG at hm
      refine op_rep pins s σ H _ y v u Q I rx ry ⟨a, k, vs, rfl, r2, ha.1, by omega, by omega, LIM_line (by rw [← hl]; exact hm.2.2), fun p hp => put_lst q sr (rep_rds ra _) hp⟩
    · exact q.elim
  · rename_i xs k e
    cases e
    split at q
    · rename_i hm
      obtain ⟨a, vs, rfl, ha, ra⟩ := r1
      have hl := ra.len
      refine op_repA pins s σ H _ y v u Q I rx ry ⟨a, k, vs, rfl, r2, ha, hm.2.1, hm.1, by omega, fun h1 => ?_, fun _ _ p hp => put_tup q sr (rep_rds ra _) hp⟩
      rcases h1 with h1 | h1
      · subst h1
        have e0 : xs = [] := ra.zero
        subst e0
        have e1 : (List.replicate k.toNat ([] : List D)).flatten = [] := by simp
        rw [e1] at q
        exact q.here sr ⟨a, [], rfl, ha, ra⟩
      · subst h1
        have e1 : (List.replicate (1 : Int).toNat xs).flatten = xs := by simp
        rw [e1] at q
        exact q.here sr ⟨a, vs, rfl, ha, ra⟩
    · exact q.elim
  · exact q.elim
end
section
variable {prog : Program} {w : World} {A : Around} {E : Value → Shared → Prop} {s : Shared} {l : Addr} {xs : Array (Int × Tok)}
theorem iter_intTup {Q : Value → Shared → Prop} (hl : s.heap.IsTuple l (intItems xs))
    (h : ∀ s₂ : Shared, s₂ = { s with heap := s.heap.push { cls := .type "tuple_iterator", data := .fields #[.ref l, .int 0 0] } } →
      (s₂.heap.IsTupleIter s.heap.objs.size l 0 ∧ s₂.heap.IsTuple l (intItems xs)) → (∀ b ∈ [s.heap.objs.size, l], b < s₂.heap.objs.size) → l ≠ s.heap.objs.size → Q (.ref s.heap.objs.size) s₂) :
    wpAny (model prog w) A (pyIter (.ref l)) Q E s := by
  have hlt : l < s.heap.objs.size := by obtain ⟨_, e, _⟩ := hl; exact Heap.lt_size e
  refine wpAny_pyIter_tuple hl (h _ rfl ⟨⟨_, Heap.get?_push_size _ rfl, rfl, rfl⟩, Heap.IsTuple.push hl _⟩ (fun b hb => ?_) (Nat.ne_of_lt hlt))
  show b < (s.heap.push _).objs.size
  rw [Heap.size_push]
  rcases List.mem_cons.mp hb with rfl | hb
  · exact Nat.lt_succ_self _
  · rcases List.mem_cons.mp hb with rfl | hb
    · exact Nat.lt_succ_of_lt hlt
    · cases hb
theorem old_keptT {h' : Heap} (hk : ∀ b o, b ∉ [s.heap.objs.size] → (s.heap.push { cls := .type "tuple_iterator", data := .fields #[.ref l, .int 0 0] }).get? b = some o → h'.get? b = some o) :
    ∀ b o, s.heap.get? b = some o → h'.get? b = some o := fun b o e => by
  refine hk b o (fun hm => ?_) (Heap.get?_push_of_some _ e)
  rcases List.mem_cons.mp hm with e1 | hm
  · exact absurd (e1 ▸ Heap.lt_size e) (Nat.lt_irrefl _)
  · cases hm
theorem min_intTup {Q : Value → Shared → Prop} (hh : A.handled = none) (hl : s.heap.IsTuple l (intItems xs)) (hne : 0 < xs.size)
    (h : ∀ v h' tk, (intItems xs)[argBest (fun i j => decide (numAt xs i < numAt xs j)) (xs.size - 1)]? = some v → (∀ b o, s.heap.get? b = some o → h'.get? b = some o) → Q v { s with heap := h', toks := tk }) :
    wpAny (model prog w) A (call (.builtin "min") [.ref l]) Q E s := by
  refine call_min_walk (iter_intTup hl fun s₂ e st hfp hlI => ?_)
  subst e
  refine ⟨_, _, _, _, _, _, _, rfl, Walks.tuple (A := A.in1) hh _ l hlI (intItems xs), st, hfp, by simpa [intItems] using hne, CmpOf.ints_lt (numAt xs) (fun _ _ => intItems_at), fun v h' tk hP hk => ?_⟩
  exact h v h' tk (by simpa [intItems] using hP) (old_keptT hk)
theorem sum_intTup {Q : Value → Shared → Prop} (hh : A.handled = none) (hl : s.heap.IsTuple l (intItems xs))
    (h : ∀ h' tk t', (∀ b o, s.heap.get? b = some o → h'.get? b = some o) → Q (.int (preSum (numAt xs) xs.size) t') { s with heap := h', toks := tk }) :
    wpAny (model prog w) A (call (.builtin "sum") [.ref l]) Q E s := by
  refine call_sum_walkG (iter_intTup hl fun s₂ e st hfp hlI => ?_)
  subst e
  refine ⟨_, _, _, _, _, _, numAt xs, rfl, Walks.tuple (A := A.in1) hh _ l hlI (intItems xs), st, hfp, (fun _ _ => intItems_at), fun h' tk t' hk => ?_⟩
  have := h h' tk t' (old_keptT hk)
  simpa [intItems] using this
variable {its : List Value} {ns : List Int}
theorem sum_rawT (hh : A.handled = none) (hl : s.heap.IsTuple l its.toArray) (hi : IntsAre its ns) {Q : Value → Shared → Prop}
    (h : ∀ h' tk t', (∀ b o, s.heap.get? b = some o → h'.get? b = some o) → Q (.int ns.sum t') { s with heap := h', toks := tk }) : wpAny (model prog w) A (call (.builtin "sum") [.ref l]) Q E s := by
  obtain ⟨xs, e⟩ := hi.allInts.items
  have hn : numsOf (intItems xs).toList = ns := by rw [← e]; exact hi.numsOf
  rw [nums_intItems] at hn
  rw [e] at hl
  refine sum_intTup hh hl fun h' tk t' hk => ?_
  have := h h' tk t' hk
  rw [preSum_eq, List.take_of_length_le (by simp), hn]; exact this
theorem min_rawT (hh : A.handled = none) (hl : s.heap.IsTuple l its.toArray) (hi : IntsAre its ns) (hne : 0 < ns.length) {Q : Value → Shared → Prop}
    (h : ∀ h' tk M t', (∀ b o, s.heap.get? b = some o → h'.get? b = some o) → M ∈ ns → (∀ a, a ∈ ns → M ≤ a) → Q (.int M t') { s with heap := h', toks := tk }) : wpAny (model prog w) A (call (.builtin "min") [.ref l]) Q E s := by
  obtain ⟨xs, e⟩ := hi.allInts.items
  have hn : numsOf (intItems xs).toList = ns := by rw [← e]; exact hi.numsOf
  rw [nums_intItems] at hn
  subst hn
  rw [e] at hl
  have hsz : 0 < xs.size := by simpa using hne
  refine min_intTup hh hl hsz fun v h' tk hv hk => ?_
  obtain ⟨t, rfl⟩ := intItems_at hv
  obtain ⟨h1, h2⟩ := argBest_lt (numAt xs) (xs.size - 1)
  refine h h' tk _ t hk ?_ fun a ha => ?_
  · rw [numAt_eq]; exact PySem.getD_mem (by rw [List.length_map, Array.length_toList]; omega)
  · obtain ⟨j, hj, rfl⟩ := mem_getD ha
    rw [List.length_map, Array.length_toList] at hj
    rw [← numAt_eq]; exact h2 j (by omega)
end
/-- the ints of a list -/
def intsOf : List D → Option (List Int)
  | [] => some []
  | .int i :: ds => (intsOf ds).map (i :: ·)
  | _ => none
theorem intsOf_eq : ∀ {ds : List D} {ns : List Int}, intsOf ds = some ns → ds = ns.map D.int
  | [], ns, e => by cases e; rfl
  | .int i :: ds, ns, e => by
    unfold intsOf at e
    cases q : intsOf ds with
    | none => rw [q] at e; cases e
    | some ms => rw [q] at e; cases e; rw [intsOf_eq q]; rfl
  | .non :: _, _, e => by cases e
  | .bl _ :: _, _, e => by cases e
  | .str _ :: _, _, e => by cases e
  | .tup _ :: _, _, e => by cases e
  | .lst _ :: _, _, e => by cases e
  | .dct _ _ :: _, _, e => by cases e
  | .dcT _ _ :: _, _, e => by cases e
  | .ref _ :: _, _, e => by cases e
  | .scr _ :: _, _, e => by cases e
theorem intsOf_map : ∀ ns : List Int, intsOf (ns.map D.int) = some ns
  | [] => rfl
  | n :: ns => by show (intsOf (ns.map D.int)).map (n :: ·) = _; rw [intsOf_map ns]; rfl
def gInts (k : List Int → Hd → Res D) : EF := fun ds h => match ds with
  | [d] => match seqOf h d with
    | some xs => match intsOf xs with
      | some ns => k ns h
      | none => .bad
    | none => .bad
  | _ => .bad
def gSum : EF := gInts fun ns h => .ok (.int ns.sum) h
def gMin : EF := gInts fun ns h => match ns.min? with
  | some m => .ok (.int m) h
  | none => .bad
def gLen : EF := fun ds h => match ds with
  | [d] => match d with
    | .str x => if x.length ≤ LIM then .ok (.int x.length) h else .bad
    | .dct ks _ => .ok (.int ks.length) h
    | .dcT ks _ => .ok (.int ks.length) h
    | .ref a => match h[a]? with
      | some (.lst xs) => .ok (.int xs.length) h
      | some (.dct ks _) => .ok (.int ks.length) h
      | some (.dcT ks _) => .ok (.int ks.length) h
      | _ => .bad
    | .tup xs => .ok (.int xs.length) h
    | .lst xs => .ok (.int xs.length) h
    | _ => .bad
  | _ => .bad
def gInt : EF := fun ds h => match ds with
  | [.int i] => .ok (.int i) h
  | [.bl b] => .ok (.int (if b then 1 else 0)) h
  | _ => .bad
def blsOf : List D → Option (List Bool)
  | [] => some []
  | .bl i :: ds => (blsOf ds).map (i :: ·)
  | _ => none
def gEvery : EF := fun ds h => match ds with
  | [.lst xs] => match blsOf xs with
    | some bs => .ok (.bl (bs.all id)) h
    | none => .bad
  | _ => .bad
def gTuple : EF := fun ds h => match ds with
  | [d] => match seqOf h d with
    | some xs => .ok (.tup xs) h
    | none => .bad
  | _ => .bad
def gList : EF := fun ds h => match ds with
  | [d] => match seqOf h d with
    | some xs => .ok (.lst xs) h
    | none => .bad
  | _ => .bad
def gListR : EF := fun ds h => match ds with
  | [d] => match seqOf h d with
    | some xs => .ok (.ref h.length) (h ++ [.lst xs])
    | none => .bad
  | _ => .bad
section
variable {ct : CT} {X : Cx}
theorem rds_ints {K : PySem.W.Frag} {w : W} {H : Hp} {ds : List D} {ns : List Int} {vs : List V} (r : RDs K w H ds vs) (e : intsOf ds = some ns) : vs = ns.map V.int := by
  rw [intsOf_eq e] at r
  exact r.ints
/-- the argument of a built-in that takes ints: a list or a tuple -/
theorem ints_arg {k : List Int → Hd → Res D} {vs : List V} {us : List Value} {pins : List (Addr × Obj)} {σ : L2.St} {H : Hp} {s : Shared} {Q : VK} (I : Inv X pins σ H s) (r : Vals vs us) (q : rG X.K ct (gInts k) vs H Q) :
    ∃ w h ns a its, SR X.K w H ct h ∧ us = [Value.ref a] ∧ IntsAre its ns ∧ okR X.K ct (rV X.K) (k ns h) w H Q ∧ ((s.heap.IsList a its.toArray) ∨ s.heap.IsTuple a its.toArray) := by
  obtain ⟨w, h, ds, sr, rd, q⟩ := q
  unfold gInts at q
  split at q
  · rename_i d
    split at q
    · rename_i xs e
      split at q
      · rename_i ns e2
        obtain ⟨v, rr, rfl, hv, hr⟩ := rd
        cases (show rr = [] from hr)
        obtain ⟨a, ws, rfl, rw', z⟩ := holds_of sr hv e
        cases rds_ints rw' e2
        rw [Vals.ref1 r]
        rcases z with ⟨_, z⟩ | ⟨_, z⟩
        · obtain ⟨its, rv, pl, _⟩ := I.list z
          exact ⟨w, h, ns, a, its, sr, rfl, rv.ints, q, .inl pl.isList⟩
        · obtain ⟨its, rv, pl, _⟩ := I.tuple z
          exact ⟨w, h, ns, a, its, sr, rfl, rv.ints, q, .inr pl⟩
      · exact q.elim
    · exact q.elim
  · exact q.elim
theorem cr_sum' (hc : X.calm = true) : CallR X (.builtin "sum") (rG X.K ct gSum) := by
  intro pins s σ H vs us Q I r h
  obtain ⟨w, h, ns, a, its, sr, rfl, hi, q, z | z⟩ := ints_arg I r h
  · exact sum_raw (I.ok.hd hc) z hi fun h' tk t' hk => ⟨.int _, H, I.kept hk, ⟨_, rfl⟩, q.here sr rfl⟩
  · exact sum_rawT (I.ok.hd hc) z hi fun h' tk t' hk => ⟨.int _, H, I.kept hk, ⟨_, rfl⟩, q.here sr rfl⟩
theorem cr_min' (hc : X.calm = true) : CallR X (.builtin "min") (rG X.K ct gMin) := by
  intro pins s σ H vs us Q I r h
  obtain ⟨w, h, ns, a, its, sr, rfl, hi, q, z⟩ := ints_arg I r h
  cases e : ns.min? with
  | none => rw [e] at q; exact q.elim
  | some m =>
    rw [e] at q
    have hne : 0 < ns.length := by
      cases ns with
      | nil => simp at e
      | cons => simp
    have fin : ∀ (h' : Heap) (tk : Nat) (M : Int) (t' : Tok), (∀ b o, s.heap.get? b = some o → h'.get? b = some o) → M ∈ ns → (∀ a, a ∈ ns → M ≤ a) → EP X pins σ Q (.int M t') { s with heap := h', toks := tk } := fun h' tk M t' hk h1 h2 => by
      have : m = M := by
        have := (List.min?_eq_some_iff (a := m) (xs := ns)).mp e
        exact Int.le_antisymm (this.2 M h1) (h2 m this.1)
      subst this
      exact ⟨.int _, H, I.kept hk, ⟨_, rfl⟩, q.here sr rfl⟩
    rcases z with z | z
    · exact min_raw (I.ok.hd hc) z hi hne fin
    · exact min_rawT (I.ok.hd hc) z hi hne fin
theorem cr_int : CallR X (.type "int") (rG X.K ct gInt) := by
  intro pins s σ H vs us Q I r ⟨w, h, ds, sr, rd, q⟩
  unfold gInt at q
  split at q
  · rename_i i
    obtain ⟨v, rr, rfl, hv, hr⟩ := rd
    cases (show rr = [] from hr)
    cases (show v = _ from hv)
    exact call_int1 pins s σ H _ us Q I r (.inl ⟨i, rfl, q.here sr rfl⟩)
  · rename_i b
    obtain ⟨v, rr, rfl, hv, hr⟩ := rd
    cases (show rr = [] from hr)
    cases (show v = _ from hv)
    exact call_int1 pins s σ H _ us Q I r (.inr ⟨b, rfl, q.here sr rfl⟩)
  · exact q.elim
theorem bls_rd {K : PySem.W.Frag} {w : W} {H : Hp} : ∀ {xs : List D} {bs : List Bool} {vs : List V}, blsOf xs = some bs → RDs K w H xs vs → vs = bs.map V.bl
  | [], bs, vs, e, r => by cases e; exact r
  | .bl b :: xs, bs, vs, e, ⟨v, r, e1, e2, r2⟩ => by
    unfold blsOf at e
    cases q : blsOf xs with
    | none => rw [q] at e; cases e
    | some cs =>
      rw [q] at e; cases e
      subst e1
      cases (show v = _ from e2)
      rw [bls_rd q r2]; rfl
  | .non :: _, _, _, e, _ => by cases e
  | .int _ :: _, _, _, e, _ => by cases e
  | .str _ :: _, _, _, e, _ => by cases e
  | .tup _ :: _, _, _, e, _ => by cases e
  | .lst _ :: _, _, _, e, _ => by cases e
  | .dct _ _ :: _, _, _, e, _ => by cases e
  | .dcT _ _ :: _, _, _, e, _ => by cases e
  | .ref _ :: _, _, _, e, _ => by cases e
  | .scr _ :: _, _, _, e, _ => by cases e
theorem cr_all' (hc : X.calm = true) : CallR X (.builtin "all") (rG X.K ct gEvery) := by
  intro pins s σ H vs us Q I r ⟨w, h, ds, sr, rd, q⟩
  unfold gEvery at q
  split at q
  · rename_i xs
    obtain ⟨v, rr, rfl, hv, hr⟩ := rd
    cases (show rr = [] from hr)
    obtain ⟨a, ws, rfl, ha, ra⟩ := hv
    split at q
    · rename_i bs e
      cases bls_rd e ra
      exact cr_all hc pins s σ H _ us Q I r ⟨a, bs, rfl, SqL.of ha.1, q.here sr rfl⟩
    · exact q.elim
  · exact q.elim
theorem seq_arg {w : W} {h : Hd} {H : Hp} {d : D} {v : V} {xs : List D} (sr : SR X.K w H ct h) (rd : RD X.K w H d v) (e : seqOf h d = some xs) : ∃ a vs, v = .ref a ∧ RDs X.K w H xs vs ∧ (SqL X.K H a vs ∨ SqT X.K H a vs) := by
  obtain ⟨a, vs, e1, e2, z | z⟩ := holds_of sr rd e
  · exact ⟨a, vs, e1, e2, .inl z.2⟩
  · exact ⟨a, vs, e1, e2, .inr z.2⟩
theorem cr_list : CallR X (.type "list") (rG X.K ct gList) := by
  intro pins s σ H vs us Q I r ⟨w, h, ds, sr, rd, q⟩
  unfold gList at q
  split at q
  · rename_i d
    obtain ⟨v, rr, rfl, hv, hr⟩ := rd
    cases (show rr = [] from hr)
    split at q
    · rename_i xs e
      obtain ⟨a, ws, rfl, ra, z⟩ := seq_arg sr hv e
      exact call_list_of pins s σ H _ us Q I r ⟨a, ws, rfl, z, fun p hp => put_lst q sr ra hp⟩
    · exact q.elim
  · exact q.elim
theorem cr_listR : CallR X (.type "list") (rG X.K ct gListR) := by
  intro pins s σ H vs us Q I r ⟨w, h, ds, sr, rd, q⟩
  unfold gListR at q
  split at q
  · rename_i d
    obtain ⟨v, rr, rfl, hv, hr⟩ := rd
    cases (show rr = [] from hr)
    split at q
    · rename_i xs e
      obtain ⟨a, ws, rfl, ra, z⟩ := seq_arg sr hv e
      exact call_list_of pins s σ H _ us Q I r ⟨a, ws, rfl, z, fun p hp => put_ref q sr ra hp⟩
    · exact q.elim
  · exact q.elim
end
end BR

namespace BR
open PySem PySem.Spec PyProof.Rows L2
def flatD : D → Bool
  | .non => true
  | .bl _ => true
  | .int _ => true
  | .str _ => true
  | _ => false
def eqF : D → D → Bool
  | .non, .non => true
  | .bl a, .bl b => a == b
  | .bl a, .int b => (if a then 1 else 0) == b
  | .int a, .bl b => a == (if b then 1 else 0)
  | .int a, .int b => a == b
  | .str a, .str b => a == b
  | _, _ => false
/-- x in a list or tuple of plain things -/
def inF (neg : Bool) : EF := fun ds h => match ds with
  | [x, d] => match seqOf h d with
    | some xs => if (flatD x && xs.all flatD) = true then .ok (.bl (if neg then !(xs.any fun y => eqF y x) else xs.any fun y => eqF y x)) h else .bad
    | none => .bad
  | _ => .bad
/-- a dict with number keys: look-ups -/
def dctOf (h : Hd) : D → Option (List D × List D)
  | .dct ks vs => some (ks, vs)
  | .ref a => match h[a]? with
    | some (.dct ks vs) => some (ks, vs)
    | _ => none
  | _ => none
def inDc (neg : Bool) : EF := fun ds h => match ds with
  | [.int i, d] => match dctOf h d with
    | some (ks, _) => match intsOf ks with
      | some ns => .ok (.bl (if neg then !decide (i ∈ ns) else decide (i ∈ ns))) h
      | none => .bad
    | none => .bad
  | _ => .bad
def gIx : EF := fun ds h => match ds with
  | [d, .int i] => match seqOf h d with
    | some xs => match atI xs i with
      | some x => .ok x h
      | none => .bad
    | none => .bad
  | _ => .bad
/-- o[i] = x -/
def gSet : EF := fun ds h => match ds with
  | [.ref a, .int i, x] => match h[a]? with
    | some (.lst xs) => match ixN xs.length i with
      | some j => .ok .non (h.set a (.lst (xs.set j x)))
      | none => .bad
    | some (.dct ks vs) => match intsOf ks with
      | some ns => if ns.length < LIM then
          (if i ∈ ns then (if ns.Nodup then .ok .non (h.set a (.dct ks (vs.set (ns.idxOf i) x))) else .bad) else .ok .non (h.set a (.dct (ks ++ [.int i]) (vs ++ [x])))) else .bad
      | none => .bad
    | _ => .bad
  | _ => .bad
def cutD (xs : List D) (lo hi : Option Int) : List D := (xs.drop (HT.sIx xs.length 0 lo)).take (HT.sIx xs.length xs.length hi - HT.sIx xs.length 0 lo)
def gCut : D → Option Int → Option Int → Hd → Res D := fun d lo hi h => match d with
  | .tup xs => .ok (.tup (cutD xs lo hi)) h
  | .lst xs => .ok (.lst (cutD xs lo hi)) h
  | .ref a => match h[a]? with
    | some (.lst xs) => .ok (.lst (cutD xs lo hi)) h
    | _ => .bad
  | .scr ns => .ok (.lst (cutD (ns.map D.int) lo hi)) h
  | _ => .bad
def mAppend : EF := fun ds h => match ds with
  | [.ref a, x] => match h[a]? with
    | some (.lst xs) => if xs.length < LIM then .ok .non (h.set a (.lst (xs ++ [x]))) else .bad
    | _ => .bad
  | _ => .bad
def mPop : EF := fun ds h => match ds with
  | [.ref a] => match h[a]? with
    | some (.lst xs) => match xs[xs.length - 1]? with
      | some y => .ok y (h.set a (.lst xs.dropLast))
      | none => .bad
    | _ => .bad
  | _ => .bad
def mInsert : EF := fun ds h => match ds with
  | [.ref a, .int i, x] => match h[a]? with
    | some (.lst xs) => if xs.length < LIM ∧ 0 ≤ i ∧ i ≤ BIG then .ok .non (h.set a (.lst (xs.take i.toNat ++ [x] ++ xs.drop i.toNat))) else .bad
    | _ => .bad
  | _ => .bad
def tyOf (h : Hd) : D → Option String
  | .non => some "NoneType"
  | .bl _ => some "bool"
  | .int _ => some "int"
  | .str _ => some "str"
  | .tup _ => some "tuple"
  | .lst _ => some "list"
  | .ref a => match h[a]? with
    | some (.lst _) => some "list"
    | _ => none
  | _ => none
def subTy (a b : String) : Bool := a == b || (a == "bool" && b == "int")
def eIs (tys : List String) (f : EE) : EE := fun σ h => (f σ h).bind fun d h1 => match tyOf h1 d with
  | some t => .ok (.bl (tys.any fun b => subTy t b)) h1
  | none => .bad
theorem kit_tab : ∀ a ∈ ["NoneType", "bool", "int", "str", "tuple", "list"], ∀ b ∈ ["int", "bool", "str", "tuple", "list"], kitB a b = some (subTy a b) := by decide +kernel
section
variable {ct : CT} {X : Cx}
theorem cr_tuple' : CallR X (.type "tuple") (rG X.K ct gTuple) := by
  intro pins s σ H vs us Q I r ⟨w, h, ds, sr, rd, q⟩
  unfold gTuple at q
  split at q
  · rename_i d
    obtain ⟨v, rr, rfl, hv, hr⟩ := rd
    cases (show rr = [] from hr)
    split at q
    · rename_i xs e
      obtain ⟨a, ws, rfl, ra, z⟩ := seq_arg sr hv e
      refine call_tuple_of pins s σ H _ us Q I r ⟨a, ws, rfl, ?_⟩
      rcases z with z | z
      · exact .inl ⟨z, fun p hp => put_tup q sr ra hp⟩
      · exact .inr ⟨z, q.here sr ⟨a, ws, rfl, z, ra⟩⟩
    · exact q.elim
  · exact q.elim
theorem cr_len : CallR X (.builtin "len") (rG X.K ct gLen) := by
  intro pins s σ H vs us Q I r ⟨w, h, ds, sr, rd, q⟩
  unfold gLen at q
  split at q
  · rename_i d
    obtain ⟨v, rr, rfl, hv, hr⟩ := rd
    cases (show rr = [] from hr)
    have hs : ∀ xs, seqOf h d = some xs → okR X.K ct (rV X.K) (.ok (.int xs.length) h) w H Q → wpAny (model X.prog X.w) X.A (call (.builtin "len") us) (EP X pins σ Q) X.xe s := fun xs e q => by
      obtain ⟨a, ws, rfl, ra, z⟩ := seq_arg sr hv e
      exact call_len_seq pins s σ H _ us Q I r ⟨a, ws, rfl, z, q.here sr (by rw [ra.len]; rfl)⟩
    have hd : ∀ (ks : List D) (a : Addr), v = .ref a → ((∃ kvs : List (Key × V), Rd H a (.dK kvs) ∧ ks = kvs.map (fun p => keyD p.1)) ∨ (∃ kvs : List (List Key × V), Rd H a (.dT kvs) ∧ ks = kvs.map (fun p => D.tup (p.1.map keyD)))) → okR X.K ct (rV X.K) (.ok (.int ks.length) h) w H Q →
        wpAny (model X.prog X.w) X.A (call (.builtin "len") us) (EP X pins σ Q) X.xe s := fun ks a e z q => by
      subst e
      obtain ⟨u, rfl, ru⟩ := vals1 r
      cases ru
      rcases z with ⟨kvs, hk, e⟩ | ⟨kvs, hk, e⟩
      · exact d_len I hk fun t s' I' => ⟨.int kvs.length, H, I', ⟨t, rfl⟩, q.here sr (by rw [e, List.length_map]; rfl)⟩
      · obtain ⟨z, hd, ys, rel, dd⟩ := dt_rd I.hok hk
        have hl : kvs.length = ys.length := Paired.length rel
        refine call_len_dictH hd dd (by rw [← hl]; rw [sizeLine_eq] at z; omega) ?_
        rw [← hl]
        exact ⟨.int ((kvs.length : Nat) : Int), H, I.tok _, ⟨_, rfl⟩, q.here sr (by rw [e, List.length_map]; rfl)⟩
    split at q
    · rename_i x
      split at q
      · rename_i hx
        exact call_len_str pins s σ H _ us Q I r ⟨x, by rw [show v = _ from hv], LIM_line hx, q.here sr rfl⟩
      · exact q.elim
    · rename_i ks us'
      obtain ⟨a, e1, _, kvs, e2, hk, _⟩ := hv
      exact hd ks a e1 (.inl ⟨kvs, e2, hk⟩) q
    · rename_i ks us'
      obtain ⟨a, e1, _, kvs, e2, hk, _⟩ := hv
      exact hd ks a e1 (.inr ⟨kvs, e2, hk⟩) q
    · rename_i a
      obtain ⟨p, e1, e2⟩ := hv
      split at q
      · rename_i xs e
        exact hs xs (by simp [seqOf, e]) q
      · rename_i ks us' e
        obtain ⟨kvs, e3, hk, _⟩ := sr.ob a _ p e e2
        exact hd ks p e1 (.inl ⟨kvs, .inl e3, hk⟩) q
      · rename_i ks us' e
        obtain ⟨kvs, e3, hk, _⟩ := sr.ob a _ p e e2
        exact hd ks p e1 (.inr ⟨kvs, .inl e3, hk⟩) q
      · exact q.elim
    · exact hs _ rfl q
    · exact hs _ rfl q
    · exact q.elim
  · exact q.elim
theorem ty_of {K : PySem.W.Frag} {w : W} {H : Hp} {h : Hd} {d : D} {v : V} {t : String} (sr : SR K w H ct h) (rd : RD K w H d v) (e : tyOf h d = some t) : TyX K H v (.type t) ∧ t ∈ ["NoneType", "bool", "int", "str", "tuple", "list"] := by
  cases d with
  | non => cases e; cases (show v = _ from rd); exact ⟨.base .non, by simp⟩
  | bl b => cases e; cases (show v = _ from rd); exact ⟨.base (.bl b), by simp⟩
  | int i => cases e; cases (show v = _ from rd); exact ⟨.base (.int i), by simp⟩
  | str x => cases e; cases (show v = _ from rd); exact ⟨.base (.str x), by simp⟩
  | tup xs =>
    cases e
    obtain ⟨a, vs, rfl, z, _⟩ := rd
    refine ⟨?_, by simp⟩
    rcases z with (z | ⟨o, z⟩) | ⟨o, its, n, h1, h2, _⟩
    · exact .base (.tup z)
    · exact .fTuple z
    · exact .kTuple h1 h2
  | lst xs => cases e; obtain ⟨a, vs, rfl, z, _⟩ := rd; exact ⟨.base (.lst z.1), by simp⟩
  | ref n =>
    obtain ⟨a, rfl, z⟩ := rd
    unfold tyOf at e
    simp only at e
    split at e
    · rename_i q
      cases e
      obtain ⟨vs, q1, _⟩ := sr.ob n _ a q z
      exact ⟨.base (.lst q1), by simp⟩
    · cases e
  | _ => cases e
theorem se_is1 {fe : EE} {e c : Expr} {T : String} {x : Str} {p pos : Pos} (hT : T ∈ ["int", "bool", "str", "tuple", "list"])
    (h2 : PE X (.Call (.Name x p) [e, c] [] pos) (tCB (rIsi X.K) (tCons (tE X.K ct fe) (tCons (tC (.ty T)) tNil)))) : SE ct X (.Call (.Name x p) [e, c] [] pos) (eIs [T] fe) := pe_imp h2 fun σ H Q ⟨w, h, σd, sr, rs, q⟩ => by
  refine ⟨w, h, σd, sr, rs, (okR.bind (rel := rV X.K) q).imp fun v H1 ⟨w1, h1, d, st1, sr1, r1, q1⟩ => ?_⟩
  split at q1
  · rename_i t e
    obtain ⟨z, hm⟩ := ty_of sr1 r1 e
    have hk := kit_tab t hm T hT
    exact ⟨v, .ty T, .type t, .type T, subTy t T, rfl, .ty T, z, kit_ty hk, okR.here q1 sr1 (by simp [RD])⟩
  · exact q1.elim
theorem se_is2 {fe : EE} {e c1 c2 : Expr} {T U : String} {x : Str} {kk : Nat} {p pos tp : Pos} (hT : T ∈ ["int", "bool", "str", "tuple", "list"]) (hU : U ∈ ["int", "bool", "str", "tuple", "list"])
    (h2 : PE X (.Call (.Name x p) [e, .Tuple [c1, c2] kk tp] [] pos) (tCB (rIsiT X.K) (tCons (tE X.K ct fe) (tCons (tTup (tCons (tC (.ty T)) (tCons (tC (.ty U)) tNil))) tNil)))) : SE ct X (.Call (.Name x p) [e, .Tuple [c1, c2] kk tp] [] pos) (eIs [T, U] fe) := pe_imp h2 fun σ H Q ⟨w, h, σd, sr, rs, q⟩ => by
  refine ⟨w, h, σd, sr, rs, (okR.bind (rel := rV X.K) q).imp fun v H1 ⟨w1, h1, d, st1, sr1, r1, q1⟩ => ?_⟩
  split at q1
  · rename_i t e
    obtain ⟨_, hm⟩ := ty_of sr1 r1 e
    have hk1 := kit_tab t hm T hT
    have hk2 := kit_tab t hm U hU
    refine ⟨by show 2 ≤ sizeLine; decide, fun pp hp => ?_⟩
    have sr2 := sr1.alloc (o := .tup [.ty T, .ty U]) hp
    have st2 := Step.alloc (o := .tup [.ty T, .ty U]) sr1 hp
    obtain ⟨z, _⟩ := ty_of sr2 (st2.rd _ _ r1) e
    refine ⟨v, pp, [.ty T, .ty U], .type t, [.type T, .type U], (subTy t T || (subTy t U || false)), rfl, upd_same, .cons (.ty T) (.cons (.ty U) .nil), z, ?_, ?_⟩
    · refine kitAny_cons (kit_ty hk1) (fun e1 => ?_) fun e1 => by rw [e1]; rfl
      rw [e1]
      exact kitAny_cons (kit_ty hk2) (fun e2 => by rw [e2]; rfl) fun e2 => by rw [e2]; rfl
    · exact okR.here (okR.step st2 q1) sr2 (by simp [RD])
  · exact q1.elim
end
end BR

namespace BR
open PySem PySem.Spec PyProof.Rows L2
section
variable {K : PySem.W.Frag} {ct : CT} {w : W} {H : Hp} {h : Hd}
mutual
theorem dp_of : ∀ (d : D) (v : V) (p : PyData), RD K w H d v → toPy h d = some p → Dp K H v p
  | .non, _, _, r, e => by cases e; cases (show _ = _ from r); exact .non
  | .bl b, _, _, r, e => by cases e; cases (show _ = _ from r); exact .bl b
  | .int i, _, _, r, e => by cases e; cases (show _ = _ from r); exact .int i
  | .str x, _, _, r, e => by cases e; cases (show _ = _ from r); exact .str x
  | .tup xs, _, p, ⟨a, vs, e1, e2, r⟩, e => by
    have e : (toPys h xs).map PyData.tuple = some p := e
    cases q : toPys h xs with
    | none => rw [q] at e; cases e
    | some ps => rw [q] at e; cases e; subst e1; exact .tup e2 (dps_of xs vs ps r q)
  | .lst xs, _, p, ⟨a, vs, e1, e2, r⟩, e => by
    have e : (toPys h xs).map PyData.list = some p := e
    cases q : toPys h xs with
    | none => rw [q] at e; cases e
    | some ps => rw [q] at e; cases e; subst e1; exact .lst (SqL.of e2.1) (dps_of xs vs ps r q)
  | .dct _ _, _, _, _, e => by cases e
  | .dcT _ _, _, _, _, e => by cases e
  | .ref _, _, _, _, e => by cases e
  | .scr _, _, _, _, e => by cases e
theorem dps_of : ∀ (ds : List D) (vs : List V) (ps : List PyData), RDs K w H ds vs → toPys h ds = some ps → DpAll K H vs ps
  | [], _, _, r, e => by cases e; cases (show _ = _ from r); exact .nil
  | d :: ds, _, ps, ⟨v, rr, e1, r1, r2⟩, e => by
    unfold toPys at e
    cases q1 : toPy h d with
    | none => rw [q1] at e; cases e
    | some a =>
      cases q2 : toPys h ds with
      | none => rw [q1, q2] at e; cases e
      | some b =>
        rw [q1, q2] at e; cases e; subst e1
        exact .cons (dp_of d v a r1 q1) (dps_of ds rr b r2 q2)
end
theorem dpR_of {d : D} {v : V} {p : PyData} (sr : SR K w H ct h) (r : RD K w H d v) (e : toPyR h d = some p) : Dp K H v p := by
  cases d with
  | ref a =>
    unfold toPyR at e
    simp only at e
    split at e
    · rename_i xs q
      obtain ⟨b, e1, e2⟩ := r
      obtain ⟨vs, e3, e4⟩ := sr.ob a _ b q e2
      cases q2 : toPys h xs with
      | none => rw [q2] at e; cases e
      | some ps => rw [q2] at e; cases e; subst e1; exact .lst (SqL.of e3) (dps_of xs vs ps e4 q2)
    · cases e
  | non => exact dp_of (h := h) _ _ _ r e
  | bl b => exact dp_of (h := h) _ _ _ r e
  | int b => exact dp_of (h := h) _ _ _ r e
  | str b => exact dp_of (h := h) _ _ _ r e
  | tup b => exact dp_of (h := h) _ _ _ r e
  | lst b => exact dp_of (h := h) _ _ _ r e
  | dct a b => cases e
  | dcT a b => cases e
  | scr a => cases e
theorem eqF_V {d e : D} {v u : V} (r1 : RD K w H d v) (r2 : RD K w H e u) (f1 : flatD d = true) (f2 : flatD e = true) : flatV v = true ∧ flatV u = true ∧ eqV v u = eqF d e := by
  cases d with
  | non =>
    cases (show v = _ from r1)
    cases e with
    | non => cases (show u = _ from r2); exact ⟨rfl, rfl, rfl⟩
    | bl _ => cases (show u = _ from r2); exact ⟨rfl, rfl, rfl⟩
    | int _ => cases (show u = _ from r2); exact ⟨rfl, rfl, rfl⟩
    | str _ => cases (show u = _ from r2); exact ⟨rfl, rfl, rfl⟩
    | _ => cases f2
  | bl _ =>
    cases (show v = _ from r1)
    cases e with
    | non => cases (show u = _ from r2); exact ⟨rfl, rfl, rfl⟩
    | bl _ => cases (show u = _ from r2); exact ⟨rfl, rfl, rfl⟩
    | int _ => cases (show u = _ from r2); exact ⟨rfl, rfl, rfl⟩
    | str _ => cases (show u = _ from r2); exact ⟨rfl, rfl, rfl⟩
    | _ => cases f2
  | int _ =>
    cases (show v = _ from r1)
    cases e with
    | non => cases (show u = _ from r2); exact ⟨rfl, rfl, rfl⟩
    | bl _ => cases (show u = _ from r2); exact ⟨rfl, rfl, rfl⟩
    | int _ => cases (show u = _ from r2); exact ⟨rfl, rfl, rfl⟩
    | str _ => cases (show u = _ from r2); exact ⟨rfl, rfl, rfl⟩
    | _ => cases f2
  | str _ =>
    cases (show v = _ from r1)
    cases e with
    | non => cases (show u = _ from r2); exact ⟨rfl, rfl, rfl⟩
    | bl _ => cases (show u = _ from r2); exact ⟨rfl, rfl, rfl⟩
    | int _ => cases (show u = _ from r2); exact ⟨rfl, rfl, rfl⟩
    | str _ => cases (show u = _ from r2); exact ⟨rfl, rfl, rfl⟩
    | _ => cases f2
  | _ => cases f1
theorem anyF_V {x : D} {v : V} (rx : RD K w H x v) (fx : flatD x = true) : ∀ {xs : List D} {vs : List V}, RDs K w H xs vs → xs.all flatD = true → vs.all flatV = true ∧ inV v vs = (xs.any fun y => eqF y x)
  | [], _, r, _ => by cases (show _ = [] from r); exact ⟨rfl, rfl⟩
  | d :: ds, _, ⟨u, us, e, r1, r2⟩, f => by
    subst e
    rw [List.all_cons, Bool.and_eq_true] at f
    obtain ⟨f1, f2, f3⟩ := eqF_V r1 rx f.1 fx
    obtain ⟨g1, g2⟩ := anyF_V rx fx r2 f.2
    refine ⟨by rw [List.all_cons, f1, g1]; rfl, ?_⟩
    show (eqV u v || (us.any fun y => eqV y v)) = (eqF d x || ds.any fun y => eqF y x)
    rw [f3, ← g2]; rfl
theorem cut_rds {xs : List D} {vs : List V} (r : RDs K w H xs vs) (lo hi : Option Int) : RDs K w H (cutD xs lo hi) (cutV vs lo hi) := by
  unfold cutD cutV
  rw [r.len]
  exact (r.drop _).take _
theorem at_rd {xs : List D} {vs : List V} {i : Int} {x : D} (r : RDs K w H xs vs) (e : atI xs i = some x) : ∃ v, atI vs i = some v ∧ RD K w H x v := by
  unfold atI at *
  rw [← r.len]
  cases q : ixN xs.length i with
  | none => rw [q] at e; cases e
  | some j => rw [q] at e; exact r.get e
end
section
variable {ct : CT} {X : Cx}
theorem or_eq1 (hu : X.A.units + 64 < cLine) (pins : List (Addr × Obj)) (s : Shared) (σ : L2.St) (H : Hp) (x y : V) (v u : Value) (Q : VK) (I : Inv X pins σ H s) (rx : RelV x v) (ry : RelV y u) (w : W) (h : Hd) (d e : D) (sr : SR X.K w H ct h) (r1 : RD X.K w H d x) (r2 : RD X.K w H e y)
    (q : okR X.K ct (rV X.K) (match (match toPyR h d, toPyR h e with
      | some a, some b => if SeqAt.shaped a = true ∧ SeqAt.shaped b = true then some (PyData.eqv a b) else none
      | _, _ => none) with
      | some b => .ok (.bl b) h
      | none => .bad) w H Q) : wpAny (model X.prog X.w) X.A (compareOp .Eq v u) (EP X pins σ Q) X.xe s := by
  cases q1 : toPyR h d with
  | none => rw [q1] at q; exact q.elim
  | some a =>
    cases q2 : toPyR h e with
    | none => rw [q1, q2] at q; exact q.elim
    | some b =>
      rw [q1, q2] at q
      simp only at q
      by_cases hs : SeqAt.shaped a = true ∧ SeqAt.shaped b = true
      · rw [if_pos hs] at q
        exact op_eqD hu pins s σ H x y v u Q I rx ry ⟨a, b, dpR_of sr r1 q1, dpR_of sr r2 q2, hs.1, hs.2, q.here sr rfl⟩
      · rw [if_neg hs] at q; exact q.elim
theorem or_eq (hu : X.A.units + 64 < cLine) : OpR X (compareOp .Eq) (r2G X.K ct gEq) := by
  intro pins s σ H x y v u Q I rx ry ⟨w, h, ds, sr, rd, q⟩
  obtain ⟨d, e, rfl, r1, r2⟩ := rd.two
  cases z1 : strOf d with
  | some a' =>
    cases z2 : strOf e with
    | some b' =>
      cases d <;> first | cases z1 | skip
      cases e <;> first | cases z2 | skip
      cases (show x = _ from r1)
      cases (show y = _ from r2)
      unfold gEq eqD at q
      simp only [strOf] at q
      refine op_eq pins s σ H _ _ v u Q I rx ry ⟨rfl, ?_⟩
      have e1 : ∀ a b : Str, decide (V.str a = V.str b) = decide (a = b) := fun a b => by simp
      rw [e1]
      exact q.here sr rfl
    | none => exact or_eq1 hu pins s σ H x y v u Q I rx ry w h d e sr r1 r2 (by unfold gEq eqD at q; simp only [z1, z2] at q; exact q)
  | none => exact or_eq1 hu pins s σ H x y v u Q I rx ry w h d e sr r1 r2 (by unfold gEq eqD at q; simp only [z1] at q; exact q)
theorem or_ne1 (hu : X.A.units + 64 < cLine) (pins : List (Addr × Obj)) (s : Shared) (σ : L2.St) (H : Hp) (x y : V) (v u : Value) (Q : VK) (I : Inv X pins σ H s) (rx : RelV x v) (ry : RelV y u) (w : W) (h : Hd) (d e : D) (sr : SR X.K w H ct h) (r1 : RD X.K w H d x) (r2 : RD X.K w H e y)
    (q : okR X.K ct (rV X.K) (match (match toPyR h d, toPyR h e with
      | some a, some b => if SeqAt.shaped a = true ∧ SeqAt.shaped b = true then some (PyData.eqv a b) else none
      | _, _ => none) with
      | some b => .ok (.bl (!b)) h
      | none => .bad) w H Q) : wpAny (model X.prog X.w) X.A (compareOp .NotEq v u) (EP X pins σ Q) X.xe s := by
  cases q1 : toPyR h d with
  | none => rw [q1] at q; exact q.elim
  | some a =>
    cases q2 : toPyR h e with
    | none => rw [q1, q2] at q; exact q.elim
    | some b =>
      rw [q1, q2] at q
      simp only at q
      by_cases hs : SeqAt.shaped a = true ∧ SeqAt.shaped b = true
      · rw [if_pos hs] at q
        exact op_neD hu pins s σ H x y v u Q I rx ry ⟨a, b, dpR_of sr r1 q1, dpR_of sr r2 q2, hs.1, hs.2, q.here sr rfl⟩
      · rw [if_neg hs] at q; exact q.elim
theorem or_ne (hu : X.A.units + 64 < cLine) : OpR X (compareOp .NotEq) (r2G X.K ct gNe) := by
  intro pins s σ H x y v u Q I rx ry ⟨w, h, ds, sr, rd, q⟩
  obtain ⟨d, e, rfl, r1, r2⟩ := rd.two
  cases z1 : strOf d with
  | some a' =>
    cases z2 : strOf e with
    | some b' =>
      cases d <;> first | cases z1 | skip
      cases e <;> first | cases z2 | skip
      cases (show x = _ from r1)
      cases (show y = _ from r2)
      unfold gNe eqD at q
      simp only [strOf] at q
      refine op_ne pins s σ H _ _ v u Q I rx ry ⟨rfl, ?_⟩
      have e1 : ∀ a b : Str, decide (V.str a = V.str b) = decide (a = b) := fun a b => by simp
      rw [e1]
      exact q.here sr rfl
    | none => exact or_ne1 hu pins s σ H x y v u Q I rx ry w h d e sr r1 r2 (by unfold gNe eqD at q; simp only [z1, z2] at q; exact q)
  | none => exact or_ne1 hu pins s σ H x y v u Q I rx ry w h d e sr r1 r2 (by unfold gNe eqD at q; simp only [z1] at q; exact q)
theorem in_seq {neg : Bool} {x y : V} {H : Hp} {Q : VK} (z : r2G X.K ct (inF neg) x y H Q) : rIn X.K neg x y H Q := by
  obtain ⟨w, h, ds, sr, rd, q⟩ := z
  obtain ⟨d, e, rfl, r1, r2⟩ := rd.two
  unfold inF at q
  simp only at q
  split at q
  · rename_i xs e1
    split at q
    · rename_i hf
      have hf := Bool.and_eq_true_iff.mp hf
      obtain ⟨a, vs, rfl, ra, z⟩ := seq_arg sr r2 e1
      obtain ⟨g1, g2⟩ := anyF_V r1 hf.1 ra hf.2
      refine ⟨a, vs, rfl, z, (eqF_V r1 r1 hf.1 hf.1).1, g1, ?_⟩
      rw [g2]
      exact q.here sr rfl
    · exact q.elim
  · exact q.elim
theorem or_in : OpR X (compareOp .In) (r2G X.K ct (inF false)) := fun pins s σ H x y v u Q I rx ry z => op_in_seq pins s σ H x y v u Q I rx ry (in_seq z)
theorem or_nin : OpR X (compareOp .NotIn) (r2G X.K ct (inF true)) := fun pins s σ H x y v u Q I rx ry z => op_notIn_seq pins s σ H x y v u Q I rx ry (in_seq z)
/-- a dict's keys, ints -/
theorem keys_ints : ∀ {kvs : List (Key × V)} {ns : List Int}, intsOf (kvs.map fun p => keyD p.1) = some ns → kvs.map (·.1) = ns.map Sum.inl
  | [], _, e => by cases e; rfl
  | (.inl i, _) :: r, ns, e => by
    have e : (intsOf (r.map fun p => keyD p.1)).map (i :: ·) = some ns := e
    cases q : intsOf (r.map fun p => keyD p.1) with
    | none => rw [q] at e; cases e
    | some ms => rw [q] at e; cases e; simp [keys_ints q]
  | (.inr i, _) :: r, ns, e => by cases e
theorem valV_some {kvs : List (Key × V)} {ns : List Int} (e : kvs.map (·.1) = ns.map Sum.inl) (i : Int) : (valV kvs (Sum.inl i : Key)).isSome = decide (i ∈ ns) := by
  rw [← valV_any]
  have : (kvs.any fun kv => decide (kv.1 = (Sum.inl i : Key))) = (kvs.map (·.1)).any fun k => decide (k = (Sum.inl i : Key)) := by rw [List.any_map]; rfl
  rw [this, e, List.any_map]
  by_cases hm : i ∈ ns
  · rw [decide_eq_true hm, List.any_eq_true]
    exact ⟨i, hm, by simp⟩
  · rw [decide_eq_false hm, List.any_eq_false]
    intro x hx
    simp
    rintro rfl
    exact hm hx
theorem dct_at {w : W} {h : Hd} {H : Hp} {d : D} {v : V} {ks vs : List D} {ns : List Int} (sr : SR X.K w H ct h) (rd : RD X.K w H d v) (e : dctOf h d = some (ks, vs)) (e2 : intsOf ks = some ns) :
    ∃ a kvs, v = .ref a ∧ Rd H a (.dK kvs) ∧ kvs.map (·.1) = ns.map (Sum.inl : Int → Key) ∧ RDs X.K w H vs (kvs.map (·.2)) := by
  cases d with
  | dct k v' =>
    cases e
    obtain ⟨a, e1, _, kvs, e3, hk, r⟩ := rd
    exact ⟨a, kvs, e1, e3, keys_ints (by rw [← hk]; exact e2), r⟩
  | ref n =>
    unfold dctOf at e
    simp only at e
    split at e
    · rename_i q
      cases e
      obtain ⟨a, e1, e3⟩ := rd
      obtain ⟨kvs, e4, hk, r⟩ := sr.ob n _ a q e3
      exact ⟨a, kvs, e1, .inl e4, keys_ints (by rw [← hk]; exact e2), r⟩
    · cases e
  | _ => cases e
theorem in_dct {neg : Bool} {x y : V} {H : Hp} {Q : VK} (z : r2G X.K ct (inDc neg) x y H Q) : ∃ a ov, y = .ref a ∧ DGet H a x ov ∧ Q (.bl (if neg then !ov.isSome else ov.isSome)) H := by
  obtain ⟨w, h, ds, sr, rd, q⟩ := z
  obtain ⟨d, e, rfl, r1, r2⟩ := rd.two
  unfold inDc at q
  split at q
  · rename_i i d' e0
    cases e0
    split at q
    · rename_i ks vs e1
      split at q
      · rename_i ns e2
        obtain ⟨a, kvs, rfl, hk, hn, _⟩ := dct_at sr r2 e1 e2
        cases (show x = _ from r1)
        refine ⟨a, valV kvs (Sum.inl i : Key), rfl, .inl ⟨kvs, Sum.inl i, hk, rfl, rfl⟩, ?_⟩
        rw [valV_some hn]
        exact q.here sr rfl
      · exact q.elim
    · exact q.elim
  · exact q.elim
theorem or_nind (hu : X.A.units + 1 < cLine) : OpR X (compareOp .NotIn) (r2G X.K ct (inDc true)) := fun pins s σ H x y v u Q I rx ry z => by
  obtain ⟨a, ov, rfl, g, q⟩ := in_dct z
  obtain rfl : u = Value.ref a := ry
  exact d_notIn hu I g rx fun s3 I3 => ⟨.bl (!ov.isSome), H, I3, rfl, q⟩
theorem ix_ok : IxR X (r2G X.K ct gIx) := by
  intro value slice pins s σ H x y v u Q I rx ry ⟨w, h, ds, sr, rd, q⟩ hs
  obtain ⟨d, e, rfl, r1, r2⟩ := rd.two
  unfold gIx at q
  split at q
  · rename_i d' i e0
    cases e0
    cases (show y = _ from r2)
    split at q
    · rename_i xs e1
      split at q
      · rename_i x' e2
        obtain ⟨a, vs, rfl, ra, z⟩ := seq_arg sr r1 e1
        obtain ⟨v', e3, r3⟩ := at_rd ra e2
        rcases z with z | z
        · exact ix_list value slice pins s σ H _ _ v u Q I rx ry ⟨a, vs, i, v', rfl, rfl, z, e3, q.here sr r3⟩ hs
        · exact ix_tup value slice pins s σ H _ _ v u Q I rx ry ⟨a, vs, i, v', rfl, rfl, z, e3, q.here sr r3⟩ hs
      · exact q.elim
    · exact q.elim
  · exact q.elim
theorem sl_ok : SlR X (rSG X.K ct gCut) := by
  intro pins s σ H x v vl vu lo hi sl Q I rx hs pl pu ⟨w, h, d, sr, rd, q⟩
  unfold gCut at q
  split at q
  · rename_i xs
    obtain ⟨a, vs, rfl, ha, ra⟩ := rd
    refine sl_tupA pins s σ H _ v vl vu lo hi sl Q I rx hs pl pu ⟨a, vs, rfl, ha, fun hw => ?_, fun _ p hp => put_tup q sr (cut_rds ra lo hi) hp⟩
    have e : cutD xs lo hi = xs := by
      unfold cutD
      rw [ra.len, hw.1, hw.2, List.drop_zero, Nat.sub_zero]
      exact List.take_of_length_le (Nat.le_of_eq ra.len)
    rw [e] at q
    exact q.here sr ⟨a, vs, rfl, ha, ra⟩
  · rename_i xs
    obtain ⟨a, vs, rfl, ha, ra⟩ := rd
    exact sl_list pins s σ H _ v vl vu lo hi sl Q I rx hs pl pu ⟨a, vs, rfl, SqL.of ha.1, fun p hp => put_lst q sr (cut_rds ra lo hi) hp⟩
  · rename_i n
    split at q
    · rename_i xs e
      obtain ⟨a, rfl, e2⟩ := rd
      obtain ⟨vs, e3, ra⟩ := sr.ob n _ a e e2
      exact sl_list pins s σ H _ v vl vu lo hi sl Q I rx hs pl pu ⟨a, vs, rfl, SqL.of e3, fun p hp => put_lst q sr (cut_rds ra lo hi) hp⟩
    · exact q.elim
  · rename_i ns
    obtain ⟨a, rfl, z⟩ := rd
    exact sl_list pins s σ H _ v vl vu lo hi sl Q I rx hs pl pu ⟨a, _, rfl, z.seq, fun p hp => put_lst q sr (cut_rds RDs.of_ints lo hi) hp⟩
  · exact q.elim
theorem putK_map : ∀ {kvs : List (Key × V)} {ns : List Int} (i : Int) (y : V), kvs.map (·.1) = ns.map (Sum.inl : Int → Key) → ns.Nodup →
    (kvs.map fun kv => if kv.1 = (Sum.inl i : Key) then (kv.1, y) else kv).map (·.1) = ns.map (Sum.inl : Int → Key) ∧ (kvs.map fun kv => if kv.1 = (Sum.inl i : Key) then (kv.1, y) else kv).map (·.2) = (kvs.map (·.2)).set (ns.idxOf i) y
  | [], [], i, y, _, _ => ⟨rfl, rfl⟩
  | [], n :: ns, i, y, e, _ => by simp at e
  | kv :: kvs, [], i, y, e, _ => by simp at e
  | (k, x) :: kvs, n :: ns, i, y, e, nd => by
    simp only [List.map_cons, List.cons.injEq] at e
    obtain ⟨e1, e2⟩ := e
    obtain ⟨nd1, nd2⟩ := List.nodup_cons.mp nd
    obtain ⟨h1, h2⟩ := putK_map i y e2 nd2
    simp only [List.map_cons]
    by_cases hi : n = i
    · subst hi
      rw [if_pos e1]
      refine ⟨by rw [h1, e1], ?_⟩
      rw [List.idxOf_cons_self, List.set_cons_zero, h2]
      have : ns.idxOf n = (kvs.map (·.2)).length := by
        rw [List.idxOf_eq_length nd1]
        have := congrArg List.length e2
        simp at this
        simp [this]
      rw [this, List.set_eq_of_length_le (Nat.le_refl _)]
    · have ne : ¬ k = (Sum.inl i : Key) := fun z => hi (by rw [e1] at z; exact Sum.inl.inj z)
      rw [if_neg ne]
      refine ⟨by rw [h1, e1], ?_⟩
      rw [show (n :: ns).idxOf i = ns.idxOf i + 1 by rw [List.idxOf_cons, beq_eq_false_iff_ne.mpr hi]; rfl, List.set_cons_succ, h2]
theorem putK_at {kvs : List (Key × V)} {ns : List Int} (i : Int) (y : V) (e : kvs.map (·.1) = ns.map (Sum.inl : Int → Key)) (nd : ns.Nodup) (hi : i ∈ ns) :
    (putK kvs (Sum.inl i : Key) y).map (·.1) = ns.map (Sum.inl : Int → Key) ∧ (putK kvs (Sum.inl i : Key) y).map (·.2) = (kvs.map (·.2)).set (ns.idxOf i) y := by
  unfold putK
  rw [valV_any, valV_some e, decide_eq_true hi, if_pos rfl]
  exact putK_map i y e nd
end
end BR

namespace BR
open PySem PySem.Spec PyProof.Rows L2
/-- dicts likewise -/
def dEnd (rf : Bool) (ks vs : List D) (h : Hd) : Res D := if rf = true then .ok (.ref h.length) (h ++ [.dct ks vs]) else .ok (.dct ks vs) h
/-- a method of a list -/
def eMtL (g : EF) (o : EE) (a : EA) : EE := fun σ h => (o σ h).bind fun x h1 => if (lstOf h1 x).isSome = true then (a σ h1).bind fun ds h2 => g (x :: ds) h2 else .bad
def gRepR : EF := fun ds h => match ds with
  | [.lst xs, .int k] => if k ≤ BIG ∧ -BIG ≤ k ∧ xs.length * k.toNat ≤ LIM then lcEnd true (List.replicate k.toNat xs).flatten h else .bad
  | _ => .bad
def eDsp1 (rf : Bool) (k v : EE) : EE := fun σ h => (k σ h).bind fun x h1 => (v σ h1).bind fun y h2 => match x with
  | .int i => dEnd rf [.int i] [y] h2
  | _ => .bad
def gIadd : EF := fun ds h => match ds with
  | [.int i, .int j] => .ok (.int (i + j)) h
  | _ => .bad
def gIsub : EF := fun ds h => match ds with
  | [.int i, .int j] => .ok (.int (i - j)) h
  | _ => .bad
section
variable {K : PySem.W.Frag} {ct : CT} {w : W} {H : Hp} {h : Hd} {Q : VK}
theorem put_end {rf : Bool} {xs : List D} {vs : List V} (q : okR K ct (rV K) (lcEnd rf xs h) w H Q) (sr : SR K w H ct h) (r : RDs K w H xs vs) : xs.length ≤ LIM ∧ ∀ {p : Addr}, H p = none → Q (.ref p) (upd H p (.lst vs)) := by
  unfold lcEnd at q
  by_cases hl : xs.length ≤ LIM
  · rw [if_pos hl] at q
    refine ⟨hl, fun {p} hp => ?_⟩
    cases rf with
    | true => exact put_ref q sr r hp
    | false => exact put_lst q sr r hp
  · rw [if_neg hl] at q; exact q.elim
theorem put_d {rf : Bool} {ks vs : List D} {kvs : List (Key × V)} (q : okR K ct (rV K) (dEnd rf ks vs h) w H Q) (sr : SR K w H ct h) (ek : ks = kvs.map fun p => keyD p.1) (r : RDs K w H vs (kvs.map (·.2))) {p : Addr} (hp : H p = none) : Q (.ref p) (upd H p (.dK kvs)) := by
  unfold dEnd at q
  cases rf with
  | true =>
    refine q _ _ _ (.new sr hp) (sr.new hp ⟨kvs, upd_same, ek, (Step.new sr hp).rds r⟩) ⟨p, rfl, ?_⟩
    show (w.io ++ [p])[h.length]? = some p
    rw [← sr.len, List.getElem?_append_right (Nat.le_refl _), Nat.sub_self]; rfl
  | false => exact q w _ _ (.alloc sr hp) (sr.alloc hp) ⟨p, rfl, sr.fresh hp, kvs, .inl upd_same, ek, (Step.alloc sr hp).rds r⟩
theorem put_md {a : Nat} {p : Addr} {ks vs : List D} {kvs : List (Key × V)} {d : D} {v : V} (q : okR K ct (rV K) (.ok d (h.set a (.dct ks vs))) w H Q) (sr : SR K w H ct h) (hp : w.io[a]? = some p) (so : Soft h a) (ek : ks = kvs.map fun p => keyD p.1)
    (r : RDs K w H vs (kvs.map (·.2))) (rd : RD K w H d v) : Q v (upd H p (.dK kvs)) :=
  q w _ _ (.mut sr hp so) (sr.mut hp so ⟨kvs, upd_same, ek, (Step.mut sr hp so).rds r⟩) ((Step.mut sr hp so).rd _ _ rd)
end
theorem key_ints : ∀ (kvs : List (Key × V)) (ns : List Int), kvs.map (·.1) = ns.map (Sum.inl : Int → Key) → (kvs.map fun p => keyD p.1) = ns.map D.int := fun kvs ns e => by
  have : (kvs.map fun p => keyD p.1) = (kvs.map (·.1)).map keyD := by rw [List.map_map]; rfl
  rw [this, e, List.map_map]
  rfl
section
variable {ct : CT} {X : Cx}
theorem set_ok (hu : X.A.units + 1 < cLine) : PSet X (rSet X.K ct gSet) := by
  intro pins s σ H o i v ov iv u Q I ro ri rv ⟨w, h, ds, sr, rd, q⟩
  unfold gSet at q
  split at q
  · rename_i a k x
    obtain ⟨_, _, e, ⟨p, e1, hp⟩, _, _, e2, rk, _, _, e3, rx, e4⟩ := rd
    cases e; cases e2; cases e3
    subst e1
    cases (show i = _ from rk)
    split at q
    · rename_i xs e
      split at q
      · rename_i j ej
        obtain ⟨vs, h1, ra⟩ := sr.ob a _ p e hp
        exact set_list pins s σ H _ _ v ov iv u Q I ro ri rv ⟨p, vs, k, j, rfl, rfl, h1, by rw [← ra.len]; exact ej, put_mut (v := V.non) (Q := fun _ H' => Q H') q sr hp ⟨_, e, fun _ z => nomatch z⟩ (ra.set rx j) rfl⟩
      · exact q.elim
    · rename_i ks vs e
      split at q
      · rename_i ns en
        split at q
        · rename_i hl
          obtain ⟨kvs, h1, hk, ra⟩ := sr.ob a _ p e hp
          have hn : kvs.map (·.1) = ns.map (Sum.inl : Int → Key) := keys_ints (by rw [← hk]; exact en)
          have hlen : kvs.length = ns.length := by have := congrArg List.length hn; simpa using this
          refine set_dict hu pins s σ H _ _ v ov iv u Q I ro ri rv ⟨p, _, rfl, DPut.k (k := Sum.inl k) h1 (Nat.lt_of_lt_of_le (by rw [hlen]; exact hl) (LIM_line (Nat.le_refl _))), ?_⟩
          split at q
          · rename_i hm
            split at q
            · rename_i nd
              obtain ⟨f1, f2⟩ := putK_at (i := k) v hn nd hm
              refine put_md (v := V.non) (d := .non) (Q := fun _ H' => Q H') q sr hp ⟨_, e, fun _ z => nomatch z⟩ ?_ ?_ rfl
              · rw [key_ints _ _ f1, hk, key_ints _ _ hn]
              · rw [f2]; exact ra.set rx _
            · exact q.elim
          · rename_i hm
            have hv : valV kvs (Sum.inl k : Key) = none := by
              have := valV_some hn k
              rw [decide_eq_false hm] at this
              cases z : valV kvs (Sum.inl k : Key) with
              | none => rfl
              | some _ => rw [z] at this; cases this
            refine put_md (v := V.non) (d := .non) (Q := fun _ H' => Q H') q sr hp ⟨_, e, fun _ z => nomatch z⟩ ?_ ?_ rfl
            · rw [putK_new _ hv, List.map_append, hk]; rfl
            · rw [putK_new _ hv, List.map_append]; exact ra.append (.cons rx .nil)
        · exact q.elim
      · exact q.elim
    · exact q.elim
  · exact q.elim
theorem get_ok : PGet X (r2G X.K ct gIx) := by
  intro pins s σ H x y v u Q I rx ry ⟨w, h, ds, sr, rd, q⟩
  obtain ⟨d, e, rfl, r1, r2⟩ := rd.two
  unfold gIx at q
  split at q
  · rename_i d' i e0
    cases e0
    cases (show y = _ from r2)
    split at q
    · rename_i xs e1
      split at q
      · rename_i x' e2
        obtain ⟨a, vs, rfl, ra, z⟩ := seq_arg sr r1 e1
        obtain ⟨v', e3, r3⟩ := at_rd ra e2
        cases rx
        obtain ⟨t, rfl⟩ := ry
        obtain ⟨j, h1, h2, h3, h4, h5⟩ := atI_get e3
        have hn := line63
        rcases z with z | z
        · obtain ⟨its, r, pl, hz⟩ := I.list z
          obtain ⟨u', ew, ru⟩ := r.get h2
          have hl := r.length
          have fin : EP X pins σ Q u' s := ⟨v', H, I, ru, q.here sr r3⟩
          by_cases h0 : 0 ≤ i
          · have hj : i.toNat = j := by
              rw [seqIndex_of h0 h5] at h1
              exact Option.some.inj h1
            exact wpAny_getItem_list pl.isList h0 (by omega) (by rw [hj]; simpa using ew) fin
          · have hj : (i + (its.toArray.size : Int)).toNat = j := by
              rw [seqIndex_neg (by omega) h4] at h1
              rw [List.size_toArray, ← hl]
              exact Option.some.inj h1
            exact wpAny_getItem_list_neg pl.isList (by omega) (by rw [List.size_toArray] <;> omega) (by omega) (by rw [hj]; simpa using ew) fin
        · obtain ⟨its, r, pl, hz⟩ := I.tuple z
          obtain ⟨u', ew, ru⟩ := r.get h2
          have hl := r.length
          have fin : EP X pins σ Q u' s := ⟨v', H, I, ru, q.here sr r3⟩
          exact getItem_tuple (j := j) pl (by omega) (by omega) (by rw [List.size_toArray, ← hl]; exact h1) (by simpa using ew) fin
      · exact q.elim
    · exact q.elim
  · exact q.elim
theorem ip_addI : PIp X .Add (r2G X.K ct gIadd) := by
  intro pins s σ H x y v u Q I rx ry ⟨w, h, ds, sr, rd, q⟩
  obtain ⟨d, e, rfl, r1, r2⟩ := rd.two
  unfold gIadd at q
  split at q
  · rename_i i j e
    cases e
    exact iop_add pins s σ H x y v u Q I rx ry ⟨i, j, r1, r2, q.here sr rfl⟩
  · exact q.elim
theorem or_repR : OpR X (binaryOp .Mult) (r2G X.K ct gRepR) := by
  intro pins s σ H x y v u Q I rx ry ⟨w, h, ds, sr, rd, q⟩
  obtain ⟨d, e, rfl, r1, r2⟩ := rd.two
  unfold gRepR at q
  split at q
  · rename_i xs k e
    cases e
    split at q
    · rename_i hc
      obtain ⟨a, vs, rfl, ha, ra⟩ := r1
      cases (show y = _ from r2)
      obtain ⟨c1, c2, c3⟩ := hc
      obtain ⟨_, go⟩ := put_end q sr (rep_rds ra k.toNat)
      exact op_rep pins s σ H _ _ v u Q I rx ry ⟨a, k, vs, rfl, rfl, ha.1, by unfold BIG at c1 c2; omega, by unfold BIG at c1 c2; omega, LIM_line (by rw [← ra.len]; exact c3), fun p hp => go hp⟩
    · exact q.elim
  · exact q.elim
end
end BR

namespace BR
open PySem PySem.Spec PyProof.Rows L2
section
variable {ct : CT} {X : Cx} {e a b o : Expr} {es : List Expr} {fe fa fb fo : EE} {ha : EA} {pos : Pos}
/-- a leaf: a name, a constant -/
structure Leaf (ct : CT) (X : Cx) (e : Expr) (f : EE) : Prop where
  ex : ∃ t : TE, PE X e t ∧ ∀ (w : W) (H : Hp) (h h' : Hd) (σd : Sg) (σ : L2.St) (d : D), SR X.K w H ct h → RS X.K w H σd σ → f σd h = .ok d h' → h' = h ∧ ∀ (Q : VK) (H' : Hp), (∀ v, RD X.K w H d v → Q v H') → t σ H' Q
theorem lf_c {d : D} {v : V} (h : PE X e (tC v)) (r : ∀ w H, RD X.K w H d v) : Leaf ct X e (eC d) := ⟨tC v, h, fun w H h h' σd σ d' sr rs e => by
  cases e
  exact ⟨rfl, fun Q H' k => k v (r w H)⟩⟩
theorem lf_int {i j} : Leaf ct X (.Constant (.int i) j pos) (eC (.int i)) := lf_c pe_int fun _ _ => rfl
theorem lf_bl {i j} : Leaf ct X (.Constant (.bool i) j pos) (eC (.bl i)) := lf_c pe_bl fun _ _ => rfl
theorem se_dsp1 {rf : Bool} {fk fv : EE} {k v : Expr} (h1 : Leaf ct X k fk) (h2 : Leaf ct X v fv) : SE ct X (.Dict [some k] [v] pos) (eDsp1 rf fk fv) := by
  obtain ⟨tk, pk, hk⟩ := h1
  obtain ⟨tv, pv, hv⟩ := h2
  refine pe_imp (pe_disp (pps_cons pk pv pps_nil) rfl rfl (by simp) (by show 1 ≤ 15; decide)) fun σ H Q ⟨w, h, σd, sr, rs, q⟩ => ?_
  unfold eDsp1 at q
  intro p hp
  cases e1 : fk σd h with
  | exc => rw [e1] at q; exact q.elim
  | bad => rw [e1] at q; exact q.elim
  | ok d1 h1 =>
    rw [e1] at q
    simp only [Res.bind_ok] at q
    cases e2 : fv σd h1 with
    | exc => rw [e2] at q; exact q.elim
    | bad => rw [e2] at q; exact q.elim
    | ok d2 h2 =>
      rw [e2] at q
      simp only [Res.bind_ok] at q
      split at q
      · rename_i i
        obtain ⟨z1, k1⟩ := hk w H h h1 σd σ _ sr rs e1
        subst z1
        obtain ⟨z2, k2⟩ := hv w H h1 h2 σd σ _ sr rs e2
        subst z2
        refine k1 _ _ fun x rx => k2 _ _ fun y ry => ?_
        cases (show x = _ from rx)
        refine ⟨upd_same, [(Sum.inl i, y)], rfl, by show 1 ≤ 15; decide, ?_⟩
        have e : upd (upd H p (.dK [])) p (.dK (mergeK [] [(Sum.inl i, y)])) = upd H p (.dK [(Sum.inl i, y)]) := by
          funext a
          by_cases ha : a = p
          · subst ha; rw [upd_same, upd_same]; rfl
          · rw [L2.upd_ne ha, L2.upd_ne ha, L2.upd_ne ha]
        rw [e]
        exact put_d (kvs := [(Sum.inl i, y)]) q sr rfl (.cons ry .nil) hp
      · exact q.elim
theorem lst_isSome {K : PySem.W.Frag} {w : W} {H : Hp} {h : Hd} {d : D} {v : V} (sr : SR K w H ct h) (rd : RD K w H d v) (e : (lstOf h d).isSome = true) : tyV K "list" v H := by
  obtain ⟨xs, e⟩ := Option.isSome_iff_exists.mp e
  obtain ⟨a, vs, rfl, h1, _⟩ := lst_at sr rd e
  exact .inl ⟨rfl, vs, SqL.of h1⟩
abbrev rM (K : PySem.W.Frag) (ct : CT) (g : EF) : V → List V → Hp → VK → Prop := fun x xs H Q => rG K ct g (x :: xs) H Q
theorem se_mt {g : EF} {name : Str} {apos cpos : Pos} {id : String} (slot : Slot "list" name id) (hty : typeOf (.builtin id) = pure (.type "method_descriptor")) (hm : MtR X id (rM X.K ct g)) (h1 : SE ct X o fo) (h2 : SA ct X (e :: es) ha)
    (hbase : attributeBase o name X.env (eval o X.env) = eval o X.env := by rfl)
    (hfew : ((backTo cpos (starEach (e :: es) X.env)).all (fun x => !x.1) && (backToKw cpos (keywordEach [] X.env)).all (fun x => x.1.isSome)
      && decide ((e :: es).length + ([] : List Keyword).length + (if ([] : List Keyword).isEmpty then 0 else 1) < 30)) = true := by rfl)
    (hline : (apos.endLine == cpos.line) = true := by rfl) (hs : starEach (e :: es) X.env = (false, eval e X.env) :: starEach es X.env := by rfl) (hplain : (backTo cpos (starEach es X.env)).any (·.1) = false := by rfl) :
    SE ct X (.Call (.Attribute o name apos) (e :: es) [] cpos) (eMtL g fo ha) := pe_imp (pe_bm F.plainAttrs_list slot hty hm h1 h2 hbase hfew hline hs hplain) fun σ H Q ⟨w, h, σd, sr, rs, q⟩ => by
  refine ⟨w, h, σd, sr, rs, (okR.bind (rel := rV X.K) q).imp fun x H1 ⟨w1, h1, d, st1, sr1, r1, q1⟩ => ?_⟩
  by_cases hs : (lstOf h1 d).isSome = true
  · rw [if_pos hs] at q1
    refine ⟨lst_isSome sr1 r1 hs, w1, h1, σd, sr1, st1.rsg rs, (okR.bind (rel := rVs X.K) q1).imp fun xs H2 ⟨w2, h2, ds, st2, sr2, r2, q2⟩ => ?_⟩
    exact ⟨w2, h2, d :: ds, sr2, .cons (st2.rd _ _ r1) r2, q2⟩
  · rw [if_neg hs] at q1; exact q1.elim
theorem se_mt0 {g : EF} {name : Str} {apos cpos : Pos} {id : String} (slot : Slot "list" name id) (hty : typeOf (.builtin id) = pure (.type "method_descriptor")) (hm : MtR X id (rM X.K ct g)) (h1 : SE ct X o fo)
    (hbase : attributeBase o name X.env (eval o X.env) = eval o X.env := by rfl) (hline : (apos.endLine == cpos.line) = true := by rfl) :
    SE ct X (.Call (.Attribute o name apos) [] [] cpos) (eMtL g fo aNil) := pe_imp (pe_bm0 F.plainAttrs_list slot hty hm h1 hbase hline) fun σ H Q ⟨w, h, σd, sr, rs, q⟩ => by
  refine ⟨w, h, σd, sr, rs, (okR.bind (rel := rV X.K) q).imp fun x H1 ⟨w1, h1, d, st1, sr1, r1, q1⟩ => ?_⟩
  by_cases hs : (lstOf h1 d).isSome = true
  · rw [if_pos hs] at q1
    exact ⟨lst_isSome sr1 r1 hs, w1, h1, [d], sr1, .cons r1 .nil, q1⟩
  · rw [if_neg hs] at q1; exact q1.elim
theorem one_lst {K : PySem.W.Frag} {w : W} {H : Hp} {h : Hd} {a : Nat} {xs : List D} {v : V} (sr : SR K w H ct h) (rd : RD K w H (.ref a) v) (e : h[a]? = some (.lst xs)) : ∃ p vs, v = .ref p ∧ w.io[a]? = some p ∧ H p = some (.lst vs) ∧ RDs K w H xs vs := by
  obtain ⟨p, e1, e2⟩ := rd
  obtain ⟨vs, h1, r⟩ := sr.ob a _ p e e2
  exact ⟨p, vs, e1, e2, h1, r⟩
theorem mm_append : MtR X "list.append" (rM X.K ct mAppend) := by
  intro pins s σ H x vs v us Q I rx rv ⟨w, h, ds, sr, rd, q⟩
  unfold mAppend at q
  split at q
  · rename_i a y
    obtain ⟨_, _, e, r1, _, _, e2, r2, e3⟩ := rd
    cases e; cases e2; cases e3
    split at q
    · rename_i xs ex
      split at q
      · rename_i hl
        obtain ⟨p, ws, rfl, hp, h1, ra⟩ := one_lst sr r1 ex
        refine mt_append pins s σ H _ _ v us Q I rx rv ⟨p, ws, _, rfl, rfl, h1, Nat.lt_of_lt_of_le (by rw [← ra.len]; exact hl) (LIM_line (Nat.le_refl _)), put_mut q sr hp ⟨_, ex, fun _ z => nomatch z⟩ (ra.append (.cons r2 .nil)) rfl⟩
      · exact q.elim
    · exact q.elim
  · exact q.elim
theorem mm_pop : MtR X "list.pop" (rM X.K ct mPop) := by
  intro pins s σ H x vs v us Q I rx rv ⟨w, h, ds, sr, rd, q⟩
  unfold mPop at q
  split at q
  · rename_i a
    obtain ⟨_, _, e, r1, e2⟩ := rd
    cases e; cases e2
    split at q
    · rename_i xs ex
      split at q
      · rename_i y ey
        obtain ⟨p, ws, rfl, hp, h1, ra⟩ := one_lst sr r1 ex
        obtain ⟨y', e3, ry⟩ := ra.get ey
        have rdl : RDs X.K w H xs.dropLast ws.dropLast := by
          rw [List.dropLast_eq_take, List.dropLast_eq_take, ra.len]; exact ra.take _
        exact mt_pop pins s σ H _ _ v us Q I rx rv ⟨p, ws, y', rfl, rfl, h1, by rw [← ra.len]; exact e3, put_mut q sr hp ⟨_, ex, fun _ z => nomatch z⟩ rdl ry⟩
      · exact q.elim
    · exact q.elim
  · exact q.elim
theorem mm_insert : MtR X "list.insert" (rM X.K ct mInsert) := by
  intro pins s σ H x vs v us Q I rx rv ⟨w, h, ds, sr, rd, q⟩
  unfold mInsert at q
  split at q
  · rename_i a i y
    obtain ⟨_, _, e, r1, _, _, e2, r2, _, _, e3, r3, e4⟩ := rd
    cases e; cases e2; cases e3; cases e4
    cases (show _ = _ from r2)
    split at q
    · rename_i xs ex
      split at q
      · rename_i hl
        obtain ⟨c1, c2, c3⟩ := hl
        unfold BIG at c3
        obtain ⟨p, ws, rfl, hp, h1, ra⟩ := one_lst sr r1 ex
        exact mt_insert pins s σ H _ _ v us Q I rx rv ⟨p, ws, i, _, rfl, rfl, h1, Nat.lt_of_lt_of_le (by rw [← ra.len]; exact c1) (LIM_line (Nat.le_refl _)), c2, by omega,
          put_mut q sr hp ⟨_, ex, fun _ z => nomatch z⟩ (((ra.take _).append (.cons r3 .nil)).append (ra.drop _)) rfl⟩
      · exact q.elim
    · exact q.elim
  · exact q.elim
end
end BR

namespace RZ2
open PySem
open PySem.Sem (wp)
def IsSq (t : Bool) (h : Heap) (l : Addr) (items : Array Value) : Prop := match t with
  | true => h.IsTuple l items
  | false => h.IsList l items
def IsSqIt (t : Bool) (h : Heap) (it l : Addr) (i : Nat) : Prop := match t with
  | true => h.IsTupleIter it l i
  | false => h.IsListIter it l i
theorem IsSqIt.at {t : Bool} {h h' : Heap} {it l : Addr} {i : Nat} (x : IsSqIt t h it l i) (k : ∀ o, h.get? it = some o → h'.get? it = some o) : IsSqIt t h' it l i := by
  cases t with
  | true => exact Heap.IsTupleIter.at x k
  | false => exact Heap.IsListIter.at x k
theorem IsSqIt.ob {t : Bool} {h : Heap} {it l : Addr} {i : Nat} (x : IsSqIt t h it l i) : ∃ o, h.get? it = some o ∧ ∀ v, o.data ≠ .cell v := by
  cases t with
  | true => obtain ⟨o, e, _, d⟩ := x; exact ⟨o, e, fun v q => by rw [d] at q; cases q⟩
  | false => obtain ⟨o, e, _, d⟩ := x; exact ⟨o, e, fun v q => by rw [d] at q; cases q⟩
section
variable {prog : Program} {w : World} {A : Around} {E : Value → Shared → Prop} {s : Shared}
variable {t1 t2 : Bool} {z TI TO i1 i2 l1 l2 : Addr} {k1 k2 : Nat} {xs ys : Array Value} {x y a b : Value}
end
theorem IsSq.push {t : Bool} {h : Heap} {l : Addr} {items : Array Value} (x : IsSq t h l items) (o : Obj) : IsSq t (h.push o) l items := by
  cases t with
  | true => exact Heap.IsTuple.push x o
  | false => exact Heap.IsList.push x o
section
variable {prog : Program} {w : World} {A : Around} {E : Value → Shared → Prop} {s : Shared}
end
end RZ2
namespace BR
open PySem PySem.Spec PyProof.Rows L2 RZ2
def SqK (t : Bool) (K : PySem.W.Frag) (H : Hp) (a : Addr) (xs : List V) : Prop := match t with
  | true => SqT K H a xs
  | false => SqL K H a xs
theorem SqK.at {X : Cx} {pins : List (Addr × Obj)} {σ : L2.St} {H : Hp} {s : Shared} {t : Bool} {a : Addr} {xs : List V} (I : Inv X pins σ H s) (h : SqK t X.K H a xs) : ∃ its : List Value, Vals xs its ∧ IsSq t s.heap a its.toArray := by
  cases t with
  | true => obtain ⟨its, r, p, _⟩ := I.tuple h; exact ⟨its, r, p⟩
  | false => obtain ⟨its, r, p, _⟩ := I.list h; exact ⟨its, r, p.isList⟩
theorem SqK.inj {X : Cx} {pins : List (Addr × Obj)} {σ : L2.St} {H : Hp} {s : Shared} {t : Bool} {a : Addr} {xs ys : List V} (I : Inv X pins σ H s) (h : SqK t X.K H a xs) (h' : SqK t X.K H a ys) : xs = ys := by
  cases t with
  | true => exact I.tuple_inj h h'
  | false => exact I.list_inj h h'
theorem IsSq.lt {t : Bool} {h : Heap} {l : Addr} {items : Array Value} (x : IsSq t h l items) : l < h.objs.size := by
  cases t with
  | true => obtain ⟨o, e, _⟩ := x; exact Heap.lt_size e
  | false => obtain ⟨o, e, _⟩ := x; exact Heap.lt_size e
def zipD : List D → List D → List D
  | x :: xs, y :: ys => .tup [x, y] :: zipD xs ys
  | _, _ => []
theorem zipD_get : ∀ {xs ys : List D} {i : Nat} {x y : D}, xs[i]? = some x → ys[i]? = some y → (zipD xs ys)[i]? = some (.tup [x, y])
  | [], _, _, _, _, e, _ => by simp at e
  | x :: xs, [], _, _, _, _, e => by simp at e
  | x :: xs, y :: ys, 0, _, _, e1, e2 => by simp at e1 e2; subst e1; subst e2; rfl
  | x :: xs, y :: ys, i + 1, a, b, e1, e2 => by
    simp only [zipD, List.getElem?_cons_succ]
    exact zipD_get (by simpa using e1) (by simpa using e2)
def iZip (a : EA) : EI := fun σ h => (a σ h).bind fun ds h1 => match ds with
  | [d, e] => match seqOf h1 d, seqOf h1 e with
    | some xs, some ys => if xs.length = ys.length then .ok ⟨zipD xs ys, chkOf h1 d ++ chkOf h1 e⟩ h1 else .bad
    | _, _ => .bad
  | _ => .bad
theorem holdsK {K : PySem.W.Frag} {ct : CT} {w : W} {H : Hp} {h : Hd} {d : D} {v : V} {xs : List D} (sr : SR K w H ct h) (rd : RD K w H d v) (e : seqOf h d = some xs) : ∃ a vs, v = .ref a ∧ RDs K w H xs vs ∧ SqK (isTup d) K H a vs := by
  obtain ⟨a, vs, e1, r, z⟩ := holds_of sr rd e
  refine ⟨a, vs, e1, r, ?_⟩
  rcases z with ⟨e2, z⟩ | ⟨e2, z⟩ <;> (rw [e2]; exact z)
theorem okChk_app {a b : List (Nat × List D)} {h : Hd} (c : okChk (a ++ b) h) : okChk a h ∧ okChk b h := ⟨fun p hp => c p (List.mem_append_left _ hp), fun p hp => c p (List.mem_append_right _ hp)⟩
section
variable {ct : CT} {X : Cx} {e e2 : Expr} {ha : EA}
end
end BR

namespace BR
open PySem PySem.Spec PyProof.Rows L2 RZ2
def tplOf (h : Hd) : D → Option (List D)
  | .ref a => match h[a]? with
    | some (.tpl xs) => some xs
    | _ => none
  | _ => none
def eMtX (g : EF) (o : EE) (a : EA) : EE := fun σ h => (o σ h).bind fun x h1 => if (tplOf h1 x).isSome = true then (a σ h1).bind fun ds h2 => g (x :: ds) h2 else .bad
section
variable {ct : CT} {X : Cx} {e o : Expr} {es : List Expr} {fo : EE} {ha : EA} {pos : Pos}
end
section
variable {prog : Program} {w : World} {A : Around} {E : Value → Shared → Prop} {s : Shared}
end
section
variable {ct : CT} {X : Cx}
end
end BR

namespace BR
open PySem PySem.Spec PyProof.Rows L2
def gRepr : EF := fun ds h => match ds with
  | [d] => match toPyR h d with
    | some p => if p.showable = true ∧ p.hasDict = false ∧ p.depth ≤ 32 ∧ p.shown.length ≤ LIM then .ok (.str p.shown) h else .bad
    | none => .bad
  | _ => .bad
section
variable {ct : CT} {X : Cx}
theorem cr_repr {k : Nat} (rr : Rm k X.A) : CallR X (.builtin "repr") (rG X.K ct gRepr) := by
  intro pins s σ H xs us Q I r ⟨w, h, ds, sr, rd, q⟩
  unfold gRepr at q
  split at q
  · rename_i d
    obtain ⟨v, _, rfl, rv, e⟩ := rd
    cases (show _ = [] from e)
    split at q
    · rename_i p e1
      split at q
      · rename_i c
        obtain ⟨c1, c2, c3, c4⟩ := c
        have q := q.here sr rfl
        obtain ⟨u, rfl, ru⟩ := r.one
        obtain ⟨as, R⟩ := Dp.reads I p v u (dpR_of sr rv e1) ru
        have fit : p.shown.length ≤ sizeLine := LIM_line c4
        have un := rr.rm.un
        by_cases hu : ∃ a, u = .ref a
        · obtain ⟨a, rfl⟩ := hu
          exact repr_of_reads' R c1 (fun z => by rw [c2] at z; cases z) rr.gd (by omega) (fun _ _ e => e) (fun h' u tk kk => ⟨.str _, H, I.kept kk, ⟨_, rfl⟩, q⟩) fit
        · cases R with
          | none => exact PySem.P.repr_of_none ⟨.str _, H, I.tok _, ⟨_, rfl⟩, q⟩
          | bool b => exact PySem.P.repr_of_bool ⟨.str _, H, I.tok _, ⟨_, rfl⟩, q⟩
          | int i t => exact PySem.P.repr_of_int (by simpa [PyData.showable] using c1) ⟨.str _, H, I.tok _, ⟨_, rfl⟩, q⟩
          | str x t => exact PySem.P.repr_of_str ⟨.str _, H, I.tok _, ⟨_, rfl⟩, q⟩ fit
          | list h1 h2 h3 h4 => exact absurd ⟨_, rfl⟩ hu
          | tuple h1 h2 h3 h4 => exact absurd ⟨_, rfl⟩ hu
          | dict h1 h2 h3 h4 h5 => exact absurd ⟨_, rfl⟩ hu
      · exact q.elim
    · exact q.elim
  · exact q.elim
end
def isNon : D → Bool
  | .non => true
  | _ => false
def gIsN : EF := fun ds h => match ds with
  | [d] => .ok (.bl (isNon d)) h
  | _ => .bad
def gNotN : EF := fun ds h => match ds with
  | [d] => .ok (.bl (!isNon d)) h
  | _ => .bad
theorem isNon_of {K : PySem.W.Frag} {w : W} {H : Hp} {d : D} {v : V} (r : RD K w H d v) : decide (v = .non) = isNon d := by
  cases d with
  | non => cases (show v = _ from r); rfl
  | bl _ => cases (show v = _ from r); rfl
  | int _ => cases (show v = _ from r); rfl
  | str _ => cases (show v = _ from r); rfl
  | tup _ => obtain ⟨a, vs, rfl, _⟩ := r; rfl
  | lst _ => obtain ⟨a, vs, rfl, _⟩ := r; rfl
  | dct _ _ => obtain ⟨a, rfl, _⟩ := r; rfl
  | dcT _ _ => obtain ⟨a, rfl, _⟩ := r; rfl
  | ref _ => obtain ⟨a, rfl, _⟩ := r; rfl
  | scr _ => obtain ⟨a, rfl, _⟩ := r; rfl
section
variable {ct : CT} {X : Cx} {a : Expr} {fa : EE} {pos p2 : Pos} {j : Nat}
theorem tIsN_of {σ : L2.St} {H : Hp} {Q : VK} (q : tE X.K ct (eAp1 gIsN fa) σ H Q) : tIsN (tE X.K ct fa) σ H Q := by
  obtain ⟨w, h, σd, sr, rs, q⟩ := q
  rw [eAp1_eq] at q
  refine ⟨w, h, σd, sr, rs, (okR.bind (rel := rV X.K) q).imp fun x H1 ⟨w1, h1, d, st1, sr1, r1, q1⟩ => ?_⟩
  rw [isNon_of r1]
  exact q1.here sr1 rfl
theorem se_isN (h : SE ct X a fa) : SE ct X (.Compare a [.Is] [.Constant .none j p2] pos) (eAp1 gIsN fa) := pe_imp (pe_cmp (pc_isN h) rfl) fun _ _ _ q => tIsN_of q
theorem st_isN (h : SE ct X a fa) : ST ct X (.Compare a [.Is] [.Constant .none j p2] pos) (tB (eAp1 gIsN fa)) := pt_imp (pt_cmp (pc_isN h) rfl) fun _ _ _ q => tTest_of (fun _ _ _ z => tIsN_of z) q
end
def gAddR : EF := fun ds h => match ds with
  | [d, e] => match lstOf h d, lstOf h e with
    | some xs, some ys => if xs.length + ys.length ≤ LIM then .ok (.ref h.length) (h ++ [.lst (xs ++ ys)]) else .bad
    | _, _ => .bad
  | _ => .bad
section
variable {ct : CT} {X : Cx}
theorem lst_atV {K : PySem.W.Frag} {w : W} {H : Hp} {h : Hd} {d : D} {v : V} {xs : List D} (sr : SR K w H ct h) (rd : RD K w H d v) (e : lstOf h d = some xs) : ∃ p vs, v = .ref p ∧ H p = some (.lst vs) ∧ RDs K w H xs vs := by
  cases d with
  | lst ys =>
    cases e
    obtain ⟨a, vs, e1, ⟨e2, _⟩, r⟩ := rd
    exact ⟨a, vs, e1, e2, r⟩
  | ref a =>
    unfold lstOf at e
    simp only at e
    split at e
    · rename_i ys q
      cases e
      obtain ⟨p, e1, e2⟩ := rd
      obtain ⟨vs, e3, e4⟩ := sr.ob a _ p q e2
      exact ⟨p, vs, e1, e3, e4⟩
    · cases e
  | _ => cases e
theorem or_addR : OpR X (binaryOp .Add) (r2G X.K ct gAddR) := by
  intro pins s σ H x y v u Q I rx ry ⟨w, h, ds, sr, rd, q⟩
  obtain ⟨d, e, rfl, r1, r2⟩ := rd.two
  unfold gAddR at q
  simp only at q
  split at q
  · rename_i xs ys e1 e2
    split at q
    · rename_i hl
      obtain ⟨p, vs, rfl, h1, ra⟩ := lst_atV sr r1 e1
      obtain ⟨p', us, rfl, h2, rb⟩ := lst_atV sr r2 e2
      refine op_cat pins s σ H _ _ v u Q I rx ry ⟨p, p', vs, us, rfl, rfl, h1, h2, LIM_line (by rw [← ra.len, ← rb.len]; exact hl), fun a ha => ?_⟩
      refine q _ _ _ (.new sr ha) (sr.new ha ⟨vs ++ us, upd_same, (Step.new sr ha).rds (ra.append rb)⟩) ⟨a, rfl, ?_⟩
      show (w.io ++ [a])[h.length]? = some a
      rw [← sr.len, List.getElem?_append_right (Nat.le_refl _), Nat.sub_self]; rfl
    · exact q.elim
  · exact q.elim
end
theorem zipD_min : ∀ (xs ys : List D), (zipD xs ys).length = min xs.length ys.length
  | [], _ => by simp [zipD]
  | x :: xs, [] => by simp [zipD]
  | x :: xs, y :: ys => by simp [zipD, zipD_min xs ys]
def iZipN (a : EA) : EI := fun σ h => (a σ h).bind fun ds h1 => match ds with
  | [d, e] => match seqOf h1 d, seqOf h1 e with
    | some xs, some ys => if isTup d = isTup e then .ok ⟨zipD xs ys, chkOf h1 d ++ chkOf h1 e⟩ h1 else .bad
    | _, _ => .bad
  | _ => .bad
section
variable {ct : CT} {X : Cx} {e e2 : Expr} {ha : EA}
theorem si_zipN {p pos tpos : Pos} {elts : List Expr} {kk : Nat} (hg : Gl X "zip") (hm : X.mg "zip" = none) (h1 : SA ct X [e, e2] ha)
    (hs : starEach [e, e2] X.env = (false, eval e X.env) :: starEach [e2] X.env := by rfl) (hpl : (backTo pos (starEach [e2] X.env)).any (·.1) = false := by rfl) :
    SI ct X (.Tuple elts kk tpos) (.Call (.Name "zip" p) [e, e2] [] pos) (iZipN ha) := pi_imp (RZ.pi_zipA hg hm h1 hs hpl) fun σ H R ⟨w, h, σd, sr, rs, q⟩ => by
  refine ⟨w, h, σd, sr, rs, (okR.bind (rel := rVs X.K) q).imp fun vs H1 ⟨w1, h1, ds, st1, sr1, r1, q1⟩ => ?_⟩
  split at q1
  · rename_i d d2
    obtain ⟨v, _, rfl, hv, v2, _, rfl, hv2, hr⟩ := r1
    cases (show _ = [] from hr)
    split at q1
    · rename_i xs ys ex ey
      split at q1
      · rename_i hl
        obtain ⟨a, us, e1, ra, za⟩ := holdsK sr1 hv ex
        obtain ⟨b, us2, e2, rb, zb⟩ := holdsK sr1 hv2 ey
        subst e1; subst e2
        have zs : ∀ i, i < (zipD xs ys).length → i < xs.length ∧ i < ys.length := fun i hi => by rw [zipD_min] at hi; omega
        have gg : ∀ (J : L2.It), ((∀ (H : Hp) (i : Nat), J.stop i H ↔ ∃ xs ys : List V, SqK (isTup d) X.K H a xs ∧ SqK (isTup d) X.K H b ys ∧ (xs.length ≤ i ∨ ys.length ≤ i)) ∧
            (∀ (H : Hp) (i : Nat), J.go i H ↔ ∃ (xs ys : List V) (x y : V), SqK (isTup d) X.K H a xs ∧ SqK (isTup d) X.K H b ys ∧ xs[i]? = some x ∧ ys[i]? = some y) ∧
            (∀ (H : Hp) (i : Nat) v H', J.yld i H v H' ↔ ∃ T x y, v = .ref T ∧ H T = none ∧ H' = upd H T (.tup [x, y]) ∧ (∀ xs, SqK (isTup d) X.K H a xs → xs[i]? = some x) ∧ ∀ ys, SqK (isTup d) X.K H b ys → ys[i]? = some y)) →
            Goes X.K ct ⟨zipD xs ys, chkOf h1 d ++ chkOf h1 d2⟩ J w1 H1 := by
          rintro J ⟨j1, j2, j3⟩
          refine ⟨fun w H => RD X.K w H d (.ref a) ∧ RD X.K w H d2 (.ref b), ⟨hv, hv2⟩, fun w1 H1 w2 H2 g m => ⟨m.2 _ _ g.1, m.2 _ _ g.2⟩, fun w2 H2 h2 g sr2 ck => ?_⟩
          obtain ⟨c1, c2⟩ := okChk_app ck
          obtain ⟨a', zs1, ea, rr, z⟩ := holdsK sr2 g.1 (seqOf_chk ex c1)
          cases ea
          obtain ⟨b', zs2, eb, rr2, z2⟩ := holdsK sr2 g.2 (seqOf_chk ey c2)
          cases eb
          rw [← hl] at z2
          have l1 := rr.len
          have l2 := rr2.len
          refine ⟨(j1 _ _).mpr ⟨zs1, zs2, z, z2, by show _ ≤ (zipD xs ys).length ∨ _ ≤ (zipD xs ys).length; rw [zipD_min]; omega⟩, fun i hi => ?_⟩
          obtain ⟨i1, i2⟩ := zs i hi
          refine ⟨(j2 _ _).mpr ⟨zs1, zs2, zs1[i]'(by omega), zs2[i]'(by omega), z, z2, by simp [show i < zs1.length by omega], by simp [show i < zs2.length by omega]⟩, fun x H3 y => ?_⟩
          obtain ⟨T, x1, x2, e1, e2, e3, f1, f2⟩ := (j3 _ _ _ _).mp y
          subst e1; subst e3
          refine ⟨.alloc sr2 e2, sr2.alloc e2, _, zipD_get (x := xs[i]) (y := ys[i]'(by omega)) (by simp [i1]) (by simp [i2]), T, _, rfl, SqT.of upd_same, ?_⟩
          obtain ⟨v1, q1, q2⟩ := rr.get (i := i) (d := xs[i]) (by simp [i1])
          rw [f1 zs1 z] at q1; cases q1
          obtain ⟨v2, q3, q4⟩ := rr2.get (i := i) (d := ys[i]'(by omega)) (by simp [i2])
          rw [f2 zs2 z2] at q3; cases q3
          exact .cons ((Step.alloc sr2 e2).rd _ _ q2) (.cons ((Step.alloc sr2 e2).rd _ _ q4) .nil)
        rw [← hl] at zb
        cases ht : isTup d with
        | true =>
          rw [ht] at za zb gg
          exact ⟨a, b, us, us2, rfl, .inr ⟨za, zb, okR.here (K := X.K) (ct := ct) (rel := fun w H I J => Goes X.K ct I J w H) (b := RZ.ItzT X.K a b) q1 sr1 (gg _ ⟨fun _ _ => .rfl, fun _ _ => .rfl, fun _ _ _ _ => .rfl⟩)⟩⟩
        | false =>
          rw [ht] at za zb gg
          exact ⟨a, b, us, us2, rfl, .inl ⟨za, zb, okR.here (K := X.K) (ct := ct) (rel := fun w H I J => Goes X.K ct I J w H) (b := L2.Itz X.K a b) q1 sr1 (gg _ ⟨fun _ _ => .rfl, fun _ _ => .rfl, fun _ _ _ _ => .rfl⟩)⟩⟩
      · exact q1.elim
    · exact q1.elim
  · exact q1.elim
end
section
variable {ct : CT} {X : Cx}
end
end BR

namespace BR
open PySem PySem.Spec PyProof.Rows L2
/-- the built-in names that no module shadows -/
structure Bl (mg : Str → Option Value) : Prop where
  len : mg "len" = none
  isinstance : mg "isinstance" = none
  all : mg "all" = none
  any : mg "any" = none
  sum : mg "sum" = none
  min : mg "min" = none
  max : mg "max" = none
  tuple : mg "tuple" = none
  list : mg "list" = none
  int : mg "int" = none
  bool : mg "bool" = none
  str : mg "str" = none
  range : mg "range" = none
  enumerate : mg "enumerate" = none
  zip : mg "zip" = none
  sorted : mg "sorted" = none
  abs : mg "abs" = none
  repr : mg "repr" = none
/-- name = a, name = b at once, stored from the right -/
def sPar2 (i j : Nat) (a : EA) : SS := fun σ h => (a σ h).bind fun ds h1 => match ds with
  | [d, e] => .ok (.nx ((σ.set i (some d)).set j (some e))) h1
  | _ => .bad
def sPar3 (i j l : Nat) (a : EA) : SS := fun σ h => (a σ h).bind fun ds h1 => match ds with
  | [d, e, f] => .ok (.nx (((σ.set i (some d)).set j (some e)).set l (some f))) h1
  | _ => .bad
/-- displays -/
def eTup (a : EA) : EE := eAp (fun ds h => if ds.length ≤ LIM then .ok (.tup ds) h else .bad) a
def eLst (a : EA) : EE := eAp (fun ds h => if ds.length ≤ LIM then .ok (.lst ds) h else .bad) a
def eLstR (a : EA) : EE := eAp (fun ds h => if ds.length ≤ LIM then .ok (.ref h.length) (h ++ [.lst ds]) else .bad) a
section
variable {ct : CT} {X : Cx} {e e2 a tg : Expr} {es : List Expr} {fe fa : EE} {ha : EA} {p pos p1 p2 tpos : Pos} {kk : Nat} {elts : List Expr}
theorem sd_tup {x1 : Nat} (h : SA ct X es ha) : SE ct X (.Tuple es x1 pos) (eTup ha) := se_tup h
theorem sd_lst (h : SA ct X es ha) : SE ct X (.List es pos) (eLst ha) := se_lst h
theorem sd_lstR (h : SA ct X es ha) : SE ct X (.List es pos) (eLstR ha) := se_lstR h
theorem sb_len (b : Bl X.mg) (h : SA ct X [e] ha) (hg : Gl X "len" := by rfl) (he : starEach (e :: []) X.env = (false, eval e X.env) :: starEach [] X.env := by rfl) : SE ct X (.Call (.Name "len" p) [e] [] pos) (eAp gLen ha) := se_cb (pe_callB cr_len hg b.len boot_len h (he := he))
theorem sb_sum (b : Bl X.mg) (h : SA ct X [e] ha) (hc : X.calm = true := by rfl) (hg : Gl X "sum" := by rfl) (he : starEach (e :: []) X.env = (false, eval e X.env) :: starEach [] X.env := by rfl) : SE ct X (.Call (.Name "sum" p) [e] [] pos) (eAp gSum ha) := se_cb (pe_callB (cr_sum' hc) hg b.sum boot_sum h (he := he))
theorem sb_min (b : Bl X.mg) (h : SA ct X [e] ha) (hc : X.calm = true := by rfl) (hg : Gl X "min" := by rfl) (he : starEach (e :: []) X.env = (false, eval e X.env) :: starEach [] X.env := by rfl) : SE ct X (.Call (.Name "min" p) [e] [] pos) (eAp gMin ha) := se_cb (pe_callB (cr_min' hc) hg b.min boot_min h (he := he))
theorem sb_all (b : Bl X.mg) (h : SA ct X [e] ha) (hc : X.calm = true := by rfl) (hg : Gl X "all" := by rfl) (he : starEach (e :: []) X.env = (false, eval e X.env) :: starEach [] X.env := by rfl) : SE ct X (.Call (.Name "all" p) [e] [] pos) (eAp gEvery ha) := se_cb (pe_callB (cr_all' hc) hg b.all boot_all h (he := he))
theorem sb_repr {k : Nat} (b : Bl X.mg) (rr : Rm k X.A) (h : SA ct X [e] ha) (hg : Gl X "repr" := by rfl) (he : starEach (e :: []) X.env = (false, eval e X.env) :: starEach [] X.env := by rfl) : SE ct X (.Call (.Name "repr" p) [e] [] pos) (eAp gRepr ha) := se_cb (pe_callB (cr_repr rr) hg b.repr (by decide +kernel) h (he := he))
theorem sb_int (b : Bl X.mg) (h : SA ct X [e] ha) (hg : Gl X "int" := by rfl) (he : starEach (e :: []) X.env = (false, eval e X.env) :: starEach [] X.env := by rfl) : SE ct X (.Call (.Name "int" p) [e] [] pos) (eAp gInt ha) := se_cb (pe_callTy cr_int hg b.int boot_int h (he := he))
theorem sb_tuple (b : Bl X.mg) (h : SA ct X [e] ha) (hg : Gl X "tuple" := by rfl) (he : starEach (e :: []) X.env = (false, eval e X.env) :: starEach [] X.env := by rfl) : SE ct X (.Call (.Name "tuple" p) [e] [] pos) (eAp gTuple ha) := se_cb (pe_callTy cr_tuple' hg b.tuple boot_tuple h (he := he))
theorem sb_list (b : Bl X.mg) (h : SA ct X [e] ha) (hg : Gl X "list" := by rfl) (he : starEach (e :: []) X.env = (false, eval e X.env) :: starEach [] X.env := by rfl) : SE ct X (.Call (.Name "list" p) [e] [] pos) (eAp gList ha) := se_cb (pe_callTy cr_list hg b.list boot_list h (he := he))
theorem sb_listR (b : Bl X.mg) (h : SA ct X [e] ha) (hg : Gl X "list" := by rfl) (he : starEach (e :: []) X.env = (false, eval e X.env) :: starEach [] X.env := by rfl) : SE ct X (.Call (.Name "list" p) [e] [] pos) (eAp gListR ha) := se_cb (pe_callTy cr_listR hg b.list boot_list h (he := he))
theorem pe_tyv {x : Str} {T : String} (hm : X.mg x = none) (hv : bootBuiltins x = some (.type T)) (hg : Gl X x := by rfl) (hn : x ≠ "__name__" := by decide) (hd : (x == ("__debug__" : Str)) = false := by decide) : PE X (.Name x pos) (tC (.ty T)) := pe_bltn hg hm hv rfl hn hd
theorem boot_bool' : bootBuiltins "bool" = some (.type "bool") := by decide +kernel
theorem boot_str' : bootBuiltins "str" = some (.type "str") := by decide +kernel
theorem ty_int (b : Bl X.mg) (hg : Gl X "int" := by rfl) : PE X (.Name "int" pos) (tC (.ty "int")) := pe_tyv b.int boot_int hg
theorem ty_bool (b : Bl X.mg) (hg : Gl X "bool" := by rfl) : PE X (.Name "bool" pos) (tC (.ty "bool")) := pe_tyv b.bool boot_bool' hg
theorem ty_str (b : Bl X.mg) (hg : Gl X "str" := by rfl) : PE X (.Name "str" pos) (tC (.ty "str")) := pe_tyv b.str boot_str' hg
theorem ty_tuple (b : Bl X.mg) (hg : Gl X "tuple" := by rfl) : PE X (.Name "tuple" pos) (tC (.ty "tuple")) := pe_tyv b.tuple boot_tuple hg
theorem ty_list (b : Bl X.mg) (hg : Gl X "list" := by rfl) : PE X (.Name "list" pos) (tC (.ty "list")) := pe_tyv b.list boot_list hg
theorem sb_is1 {c : Expr} {T : String} (hT : T ∈ ["int", "bool", "str", "tuple", "list"]) (b : Bl X.mg) (h1 : SE ct X e fe) (h2 : PE X c (tC (.ty T))) (hg : Gl X "isinstance" := by rfl)
    (s1 : starEach [e, c] X.env = (false, eval e X.env) :: starEach [c] X.env := by rfl) (s2 : starEach [c] X.env = (false, eval c X.env) :: starEach [] X.env := by rfl) (hpl : (backTo pos (starEach [c] X.env)).any (·.1) = false := by rfl) :
    SE ct X (.Call (.Name "isinstance" p) [e, c] [] pos) (eIs [T] fe) := se_is1 hT (pe_callB call_isi hg b.isinstance boot_isinstance (pa_cons h1 (pa_cons h2 pa_nil s2) s1) (he := s1) (hpl := hpl))
theorem sb_is2 {c1 c2 : Expr} {T U : String} {tp : Pos} (hT : T ∈ ["int", "bool", "str", "tuple", "list"]) (hU : U ∈ ["int", "bool", "str", "tuple", "list"]) (b : Bl X.mg) (h1 : SE ct X e fe) (h2 : PE X c1 (tC (.ty T))) (h3 : PE X c2 (tC (.ty U))) (hg : Gl X "isinstance" := by rfl)
    (s1 : starEach [e, .Tuple [c1, c2] kk tp] X.env = (false, eval e X.env) :: starEach [.Tuple [c1, c2] kk tp] X.env := by rfl) (s2 : starEach [.Tuple [c1, c2] kk tp] X.env = (false, eval (.Tuple [c1, c2] kk tp) X.env) :: starEach [] X.env := by rfl)
    (s3 : starEach [c1, c2] X.env = (false, eval c1 X.env) :: starEach [c2] X.env := by rfl) (s4 : starEach [c2] X.env = (false, eval c2 X.env) :: starEach [] X.env := by rfl)
    (hpl : (backTo pos (starEach [.Tuple [c1, c2] kk tp] X.env)).any (·.1) = false := by rfl) :
    SE ct X (.Call (.Name "isinstance" p) [e, .Tuple [c1, c2] kk tp] [] pos) (eIs [T, U] fe) :=
  se_is2 hT hU (pe_callB call_isiT hg b.isinstance boot_isinstance (pa_cons h1 (pa_cons (pe_tup (pa_cons h2 (pa_cons h3 pa_nil s4) s3)) pa_nil s2) s1) (he := s1) (hpl := hpl))
theorem sb_rg1 (b : Bl X.mg) (h1 : SA ct X [a] ha) (hg : Gl X "range" := by rfl) (hs : starEach [a] X.env = [(false, eval a X.env)] := by rfl) : SI ct X tg (.Call (.Name "range" p) [a] [] pos) (iRg1 ha) := si_rg1 hg b.range h1 hs
theorem sb_rg2 {a2 : Expr} (b : Bl X.mg) (h1 : SA ct X [a, a2] ha) (hg : Gl X "range" := by rfl) (hs : starEach [a, a2] X.env = [(false, eval a X.env), (false, eval a2 X.env)] := by rfl) (hs2 : starEach [a2] X.env = [(false, eval a2 X.env)] := by rfl) : SI ct X tg (.Call (.Name "range" p) [a, a2] [] pos) (iRg2 ha) := si_rg2 hg b.range h1 fun ta pa => pi_range2 hg b.range pa hs hs2
theorem sb_en (b : Bl X.mg) (h1 : SA ct X [e] ha) (hg : Gl X "enumerate" := by rfl) (hs : starEach [e] X.env = [(false, eval e X.env)] := by rfl) : SI ct X (.Tuple elts kk tpos) (.Call (.Name "enumerate" p) [e] [] pos) (iEn ha) := si_enum hg b.enumerate h1 hs
theorem sb_zipN (b : Bl X.mg) (h1 : SA ct X [e, e2] ha) (hg : Gl X "zip" := by rfl) (hs : starEach [e, e2] X.env = (false, eval e X.env) :: starEach [e2] X.env := by rfl) (hpl : (backTo pos (starEach [e2] X.env)).any (·.1) = false := by rfl) :
    SI ct X (.Tuple elts kk tpos) (.Call (.Name "zip" p) [e, e2] [] pos) (iZipN ha) := si_zipN hg b.zip h1 hs hpl
/-- a module's number -/
theorem se_gi {x : Str} {i : Int} (hm : ∃ t, X.mg x = some (.int i t)) (hg : Gl X x := by rfl) (hd : (x == ("__debug__" : Str)) = false := by decide) : SE ct X (.Name x pos) (eC (.int i)) := by
  obtain ⟨t, hm⟩ := hm
  exact se_c (v := .int i) (pe_glob hg hm ⟨t, rfl⟩ hd) fun _ _ => rfl
/-- comprehensions -/
theorem sl_lc1 {rf : Bool} {elt iter : Expr} {ifs : List Expr} {scope sc : Scope} {own : List (Str × Nat)} {vs : List Nat} {N : List Str} {it : EI} {gt : EG} {c : ET} (nd : N.Nodup) (hN : X.N = N) (hsc : X.env.scope = sc) (hb : blkC N sc scope own = true) (hv : own.map (·.2) = vs) (hi : SI ct X tg iter it)
    (hg : ∀ (s : Shared) (H : Hp) (C : Addr) (cl : List (Str × Addr)) (fp : List Addr), SGw ct (X.blk s H scope (compEnvC scope cl C X.env) fp) vs tg gt)
    (ht : ∀ (s : Shared) (H : Hp) (C : Addr) (cl : List (Str × Addr)) (fp : List Addr), STs ct (X.blk s H scope (compEnvC scope cl C X.env) fp) ifs c)
    (he : ∀ (s : Shared) (H : Hp) (C : Addr) (cl : List (Str × Addr)) (fp : List Addr), SE ct (X.blk s H scope (compEnvC scope cl C X.env) fp) elt fe) (hc : X.calm = true := by rfl) (hs : ∀ x, foldedSetIterable iter X.env x = pure x := by intro _; rfl) :
    SE ct X (.ListComp elt [⟨tg, iter, ifs, 0⟩] scope pos) (eLc rf vs it gt c (lcOne fe)) := by
  subst hv; subst hN; subst hsc
  exact se_lc1 (pe_lc hc nd hi (blkOk_by hb) hg ht he hs)
theorem sl_lc2 {rf : Bool} {elt iter tg1 iter1 : Expr} {ifs ifs1 : List Expr} {scope sc : Scope} {own : List (Str × Nat)} {vs vs1 : List Nat} {N : List Str} {it it1 : EI} {gt gt1 : EG} {c c1 : ET} (nd : N.Nodup) (hN : X.N = N) (hsc : X.env.scope = sc) (hb : blkC N sc scope own = true) (hv : own.map (·.2) = vs) (hv1 : ∀ i ∈ vs1, i ∈ vs) (hi : SI ct X tg iter it)
    (hg : ∀ (s : Shared) (H : Hp) (C : Addr) (cl : List (Str × Addr)) (fp : List Addr), SGw ct (X.blk s H scope (compEnvC scope cl C X.env) fp) vs tg gt)
    (ht : ∀ (s : Shared) (H : Hp) (C : Addr) (cl : List (Str × Addr)) (fp : List Addr), STs ct (X.blk s H scope (compEnvC scope cl C X.env) fp) ifs c)
    (hi1 : ∀ (s : Shared) (H : Hp) (C : Addr) (cl : List (Str × Addr)) (fp : List Addr), SI ct (X.blk s H scope (compEnvC scope cl C X.env) fp) tg1 iter1 it1)
    (hg1 : ∀ (s : Shared) (H : Hp) (C : Addr) (cl : List (Str × Addr)) (fp : List Addr), SGw ct (X.blk s H scope (compEnvC scope cl C X.env) fp) vs1 tg1 gt1)
    (ht1 : ∀ (s : Shared) (H : Hp) (C : Addr) (cl : List (Str × Addr)) (fp : List Addr), STs ct (X.blk s H scope (compEnvC scope cl C X.env) fp) ifs1 c1)
    (he : ∀ (s : Shared) (H : Hp) (C : Addr) (cl : List (Str × Addr)) (fp : List Addr), SE ct (X.blk s H scope (compEnvC scope cl C X.env) fp) elt fe) (hc : X.calm = true := by rfl) (hs : ∀ x, foldedSetIterable iter X.env x = pure x := by intro _; rfl) (hs1 : ∀ env x, foldedSetIterable iter1 env x = pure x := by intro _ _; rfl) :
    SE ct X (.ListComp elt [⟨tg, iter, ifs, 0⟩, ⟨tg1, iter1, ifs1, 0⟩] scope pos) (eLc rf vs it gt c (lcIn vs1 it1 gt1 c1 (lcOne fe))) := by
  subst hv; subst hN; subst hsc
  exact se_lc2 (pe_lc2 hc nd hi (blkOk_by hb) hv1 hg ht hi1 hg1 ht1 he hs hs1)
/-- y = [..] -/
theorem sx_lc1 {rf : Bool} {i : Nat} {y : Str} {py spos : Pos} {elt iter : Expr} {ifs : List Expr} {scope sc : Scope} {own : List (Str × Nat)} {vs : List Nat} {N : List Str} {it : EI} {gt : EG} {c : ET} (nd : N.Nodup) (hN : X.N = N) (hsc : X.env.scope = sc) (hb : blkC N sc scope own = true) (hv : own.map (·.2) = vs) (hi : SI ct X tg iter it)
    (hg : ∀ (s : Shared) (H : Hp) (C : Addr) (cl : List (Str × Addr)) (fp : List Addr), SGw ct (X.blk s H scope (compEnvC scope cl C X.env) fp) vs tg gt)
    (ht : ∀ (s : Shared) (H : Hp) (C : Addr) (cl : List (Str × Addr)) (fp : List Addr), STs ct (X.blk s H scope (compEnvC scope cl C X.env) fp) ifs c)
    (he : ∀ (s : Shared) (H : Hp) (C : Addr) (cl : List (Str × Addr)) (fp : List Addr), SE ct (X.blk s H scope (compEnvC scope cl C X.env) fp) elt fe)
    (hy : X.N[i]? = some y := by rfl) (hyl : X.env.scope.names.lookup y = some .local := by rfl) (hk : X.env.scope.kind = .function := by rfl) (hl : (py.line == pos.line) = true := by rfl)
    (hsw : (scope.names.any fun (n, k) => n == y && (k == .local || k == .cell)) = false := by decide +kernel) (hc : X.calm = true := by rfl) (hs : ∀ x, foldedSetIterable iter X.env x = pure x := by intro _; rfl) :
    SX ct X (.Assign [.Name y py] (.ListComp elt [⟨tg, iter, ifs, 0⟩] scope pos) spos) (sAsg (eLc rf vs it gt c (lcOne fe)) (gVar i)) := by
  subst hv; subst hN; subst hsc
  exact sx_set (ps_setLc hc nd hy hyl (sw_true hk hyl hl hsw) hi (blkOk_by hb) hg ht he hs) fun _ _ _ q => lc1_of q
end
/-- a def that stands under its name -/
structure Df (K : PySem.W.Frag) (mg : Str → Option Value) (x : Str) (ps : List Str) (st : Stmt) : Prop where
  ex : ∃ (f : Addr) (fd : FuncData), Fun K x x st f fd ∧ mg x = some (.ref f) ∧ PySem.W.keepIn K (.ref f) = true ∧ Binds K fd ps [] ∧ ∀ us : List Value, us.length = ps.length → bindArgs fd ⟨us, []⟩ = pure (ps.zip us)
section
variable {P : Program} {wd : World} {K : PySem.W.Frag} {mg : Str → Option Value} {base : Heap} {ct : CT}
theorem kn_mk {x : Str} {st : Stmt} {N ps : List Str} {k n m : Nat} {body : SS} (D : Df K mg x ps st) (S : FnScope N ps (defScope st)) (hn : ps.length = n) (hm : N.length = m)
    (hb : ∀ (f : Addr) (cdv : Value) (A : Around) (outer : List Env) (s : Shared) (H : Hp) (E : XK), Rm k (A.deeper (envOfC x (defScope st) s.heap.objs.size f cdv)) →
      SXs ct (cxOf CX0 P wd K mg base N x (defScope st) f cdv A outer s H E).nox (defBody st) body) : Kn P wd K mg base ct (k + 1) x n (fn n m body) := by
  obtain ⟨f, fd, F, h1, h2, b, _⟩ := D.ex
  exact ⟨⟨f, fd, ps, ok_fn F S hn hm (hb f), h1, h2, b⟩⟩
theorem kn_mkK {x : Str} {st : Stmt} {N ps : List Str} {k n m : Nat} {body : SS} (D : Df K mg x ps st) (S : FnScope N ps (defScope st)) (hn : ps.length = n) (hm : N.length = m)
    (hb : ∀ (f : Addr) (cdv : Value) (A : Around) (outer : List Env) (s : Shared) (H : Hp) (E : XK), Rm k (A.deeper (envOfC x (defScope st) s.heap.objs.size f cdv)) →
      SXs ct (cxOf CX0 P wd K mg base N x (defScope st) f cdv A outer s H E).nox (defBody st) body) : Kn P wd K mg base ct (k + 1) x n (fnK n m body) := by
  obtain ⟨f, fd, F, h1, h2, b, _⟩ := D.ex
  exact ⟨⟨f, fd, ps, ok_fnK F S hn hm (hb f), h1, h2, b⟩⟩
theorem Kn.mono {x : Str} {j k n : Nat} {g : EF} (c : Kn P wd K mg base ct j x n g) (h : j ≤ k) : Kn P wd K mg base ct k x n g := by
  obtain ⟨f, fd, ps, F, h1, h2, b⟩ := c.ex
  exact ⟨⟨f, fd, ps, F.mono h, h1, h2, b⟩⟩
/-- a def that is never run -/
theorem kn_zero {x : Str} {ps : List Str} {st : Stmt} {k n : Nat} (D : Df K mg x ps st) : Kn P wd K mg base ct k x n fun _ _ => .bad := by
  obtain ⟨f, fd, F, h1, h2, b, _⟩ := D.ex
  have no : ∀ {vs : List V} {H : Hp} {Q : VK} {E : XK}, spF K ct n (fun _ _ => .bad) vs H Q E → False := fun ⟨_, _, _, _, _, _, q⟩ => q
  exact ⟨⟨f, fd, ps, ⟨fun _ _ _ _ z => (no z).elim, fun _ _ _ _ _ _ _ _ _ _ _ _ _ z => (no z).elim⟩, h1, h2, b⟩⟩
theorem df_mk {x : Str} {ps : List Str} {st : Stmt} {f : Addr} {oc : Value} {od an : Option Addr} {osl : Array (Option Value)} {kV doc pm cdv ct' : Value} {h : Heap} (X : K.In h) (G : h.Ns mainGlobals mg)
    (a : PySem.W.nsIn K mainGlobals x = some (some (.ref f))) (l : K.lookup f = some ⟨oc, od, .func (PySem.W.fnOf x x (defArgs st) (defBody st) (defScope st) .none kV doc pm an cdv ct'), osl⟩)
    (c : PySem.W.codeIn K cdv x = true) (k : PySem.W.keepIn K (.ref f) = true)
    (hb : ∀ (kV doc pm : Value) (an : Option Addr) (cdv ct : Value) (us : List Value), us.length = ps.length → bindArgs (PySem.W.fnOf x x (defArgs st) (defBody st) (defScope st) .none kV doc pm an cdv ct) ⟨us, []⟩ = pure (ps.zip us)) : Df K mg x ps st :=
  have F := fun_mk (st := st) l c k
  ⟨⟨f, _, F, PySem.W.mg_of X G a, k, F.binds hb, hb kV doc pm an cdv ct'⟩⟩
theorem gi_mk {x : Str} {i : Int} {t : Tok} {h : Heap} (X : K.In h) (G : h.Ns mainGlobals mg) (a : PySem.W.nsIn K mainGlobals x = some (some (.int i t))) : ∃ t, mg x = some (.int i t) := ⟨t, PySem.W.mg_of X G a⟩
/-- the law's own def -/
def LawAt (P : Program) (wd : World) (K : PySem.W.Frag) (mg : Str → Option Value) (ct : CT) (k : Nat) (x p : Str) (g : EF) : Prop :=
  ∃ (f : Addr) (fd : FuncData), mg x = some (.ref f) ∧ (∀ us : List Value, us.length = 1 → bindArgs fd ⟨us, []⟩ = pure ([p].zip us)) ∧ ∀ base : Heap, FnG P wd K mg base CX0 k f fd [p] (spF K ct 1 g)
theorem law_mk {x p : Str} {st : Stmt} {N : List Str} {k m : Nat} {body : SS} (D : Df K mg x [p] st) (S : FnScope N [p] (defScope st)) (hm : N.length = m)
    (hb : ∀ (base : Heap) (f : Addr) (cdv : Value) (A : Around) (outer : List Env) (s : Shared) (H : Hp) (E : XK), Rm k (A.deeper (envOfC x (defScope st) s.heap.objs.size f cdv)) →
      SXs ct (cxOf CX0 P wd K mg base N x (defScope st) f cdv A outer s H E).nox (defBody st) body) : LawAt P wd K mg ct (k + 1) x p (fn 1 m body) := by
  obtain ⟨f, fd, F, h1, h2, b, hz⟩ := D.ex
  exact ⟨f, fd, h1, hz, fun base => ok_fn F S rfl hm (hb base f)⟩
/-- what is asked of the law -/
def spLaw (K : PySem.W.Frag) : Sp := fun vs H Q _ => ∃ (a : Addr) (ns : List Int), vs = [.ref a] ∧ Scr K H a ns ∧ ns.length ≤ 63 ∧ ∀ (v : V) H', v = .bl true → Q v H'
theorem law_fin {x p : Str} {k : Nat} {g : EF} {fa : Addr} (L : LawAt P wd K mg ct k x p g) (hfa : mg x = some (.ref fa)) (hg : ∀ ns : List Int, ns.length ≤ 63 → ∃ h', g [.scr ns] [] = .ok (.bl true) h') :
    ∃ fd : FuncData, (∀ (s : Shared) (u : Value), BindsTo s fd ⟨[u], []⟩ [(p, u)]) ∧ ∀ base : Heap, K.In base → base.Ns mainGlobals mg → FnG P wd K mg base CX0 k fa fd [p] (spLaw K) := by
  obtain ⟨f, fd, h1, hz, F⟩ := L
  rw [hfa] at h1
  cases h1
  refine ⟨fd, fun s u => .of_eq (hz [u] rfl), fun base _ _ => (F base).imp fun vs H Q E ⟨a, ns, e, hs, hl, hq⟩ => ?_⟩
  subst e
  obtain ⟨h', e⟩ := hg ns hl
  refine ⟨rfl, ⟨[], []⟩, [], [.scr ns], ⟨rfl, List.nodup_nil, fun _ m => (by simp at m), fun _ m => (by simp at m), fun n o a e1 _ => by simp at e1⟩, .cons ⟨a, rfl, hs⟩ .nil, ?_⟩
  rw [e]
  exact fun w' H' b _ _ r => hq b H' r
theorem scr_of {H : Hp} {a : Addr} {ns : List Int} (hO : Only H) (hS : SqL K H a (ns.map V.int)) : Scr K H a ns := by
  rcases hS with (h | ⟨o, h⟩) | h
  · rcases hO a with z | ⟨o, xs, z⟩
    · rw [h] at z; cases z
    · rw [h] at z; cases z
  · exact .inl ⟨o, h⟩
  · exact .inr h
end
/-- the walk's end -/
theorem walk_end {l : PySem.W.OpenLaw} {k : Nat} {x : Str} {q : Program} {loose : List Str} {XP : (Str → Option Value) → Heap → Prop} {YP : World → Heap → Prop} {d : DefRec} {K : Params → PySem.W.Frag} (hn : l.most = some 63) (hdf : d.params.defaults = []) (hk : k ≤ 100)
    (hY : ∀ (w : World) (h : Heap), YP w h → (K w.params).In h)
    (F : ∀ (w : World) (mg : Str → Option Value) (fa : Addr) (h : Heap), (K w.params).In h → h.Ns mainGlobals mg → mg d.name = some (.ref fa) →
      ∃ fd : FuncData, (∀ (s : Shared) (u : Value), BindsTo s fd ⟨[u], []⟩ [(x, u)]) ∧ ∀ base : Heap, (K w.params).In base → base.Ns mainGlobals mg → FnG l.prog w (K w.params) mg base CX0 k fa fd [x] (spLaw (K w.params))) :
    PySem.W.WalkO q loose XP YP l.row.toRowW d [] (fun f vs => PySem.call f vs) :=
  walk_endG (sp := fun w => spLaw (K w.params)) hn hdf hk hY F fun w H a ns hl hO hS => ⟨a, ns, rfl, scr_of hO hS, hl, fun v H' e => e⟩
end BR

namespace BR
open PySem PySem.Spec PyProof.Rows L2
/-- g of positional values, of the keywords' values, of defaults -/
def eApK (g : EF) (n j : Nat) (a k : EA) (rest : List D) : EE := fun σ h => (a σ h).bind fun ds h1 => (k σ h1).bind fun es h2 => if ds.length = n ∧ es.length = j then g (ds ++ (es ++ rest)) h2 else .bad
section
variable {P : Program} {wd : World} {K : PySem.W.Frag} {mg : Str → Option Value} {base : Heap} {ct : CT}
end
section
variable {ct : CT} {X : Cx} {e : Expr} {es : List Expr} {kws : List Keyword} {pos p : Pos} {x : Str} {k j n m : Nat} {g : EF} {ha hk : EA} {kj : List Str} {restV : List V} {rest : List D}
end
end BR

namespace BR
open PySem PySem.Spec PyProof.Rows L2
/-- _law_open: 0 _law_script, 1 _law_cells, 2 _law_k, 3 _law_cell -/
noncomputable def f_law_open : EF := fnK 1 4
  (sSeq (sAsg (eAp gListR (aCons (eSl gCut (eVar 0) oNo (oP (eC (.int 12)))) aNil)) (gVar 1))
  (sSeq (sFor (gTup [(gVar 2), (gVar 3)]) (iEn (aCons (eSl gCut (eVar 0) (oP (eC (.int 12))) (oP (eC (.int 63)))) aNil)) (sAsg (eAp2 gAdd (eAp2 gIx (eVar 1) (eAp2 gMod (eVar 2) (eC (.int 12)))) (eVar 3)) (gSub (eVar 1) (eAp2 gMod (eVar 2) (eC (.int 12))) gSet)))
  (sRet (eLstR (aCons (eVar 1) (aCons (eC (.int 0)) (aCons (eC (.int 0)) aNil)))))))
theorem f_law_open_bad : ∀ (ds : List D) (h : Hd), ds.length ≠ 1 → f_law_open ds h = .bad := fun ds h e => fnK_bad ds h e
/-- _law_spread: 0 _law_cell, 1 _law_at, 2 _law_primes, 3 _law_one, 4 _law_two, 5 _law_three -/
noncomputable def f_law_spread : EF := fn 2 6
  (sSeq (sIf (tB (eAp2 gGe (eVar 0) (eAp2 gPow (eC (.int 10)) (eC (.int 18))))) (sRet (eVar 0)) sNop)
  (sSeq (sAsg (eLst (aCons (eC (.int 2147483629)) (aCons (eC (.int 2147483587)) (aCons (eC (.int 2147483579)) (aCons (eC (.int 2147483563)) (aCons (eC (.int 2147483549)) (aCons (eC (.int 2147483543)) (aCons (eC (.int 2147483497)) (aCons (eC (.int 2147483489)) aNil))))))))) (gVar 2))
  (sSeq (sAsg (eAp2 gAdd (eVar 2) (eLst (aCons (eC (.int 2147483477)) (aCons (eC (.int 2147483423)) (aCons (eC (.int 2147483399)) (aCons (eC (.int 2147483353)) (aCons (eC (.int 2147483323)) aNil))))))) (gVar 2))
  (sSeq (sAsg (eAp2 gMod (eAp2 gPow (eAp2 gAdd (eAp2 gAdd (eAp2 gMul (eAp2 gMod (eVar 0) (eC (.int 1000000007))) (eAp2 gAdd (eAp2 gMul (eC (.int 2)) (eVar 1)) (eC (.int 69069)))) (eAp2 gMul (eVar 1) (eC (.int 40503)))) (eC (.int 977))) (eC (.int 3))) (eAp2 gIx (eVar 2) (eAp2 gMod (eVar 1) (eC (.int 13))))) (gVar 3))
  (sSeq (sAsg (eAp2 gMod (eAp2 gPow (eAp2 gAdd (eAp2 gAdd (eAp2 gMul (eVar 3) (eAp2 gAdd (eVar 1) (eC (.int 3)))) (eAp2 gMod (eVar 0) (eC (.int 65537)))) (eC (.int 5))) (eC (.int 5))) (eAp2 gIx (eVar 2) (eAp2 gMod (eAp2 gAdd (eVar 1) (eC (.int 5))) (eC (.int 13))))) (gVar 4))
  (sSeq (sAsg (eAp2 gMod (eAp2 gPow (eAp2 gAdd (eAp2 gAdd (eVar 4) (eAp2 gMod (eVar 3) (eC (.int 1009)))) (eVar 1)) (eC (.int 3))) (eAp2 gIx (eVar 2) (eAp2 gMod (eAp2 gAdd (eVar 1) (eC (.int 7))) (eC (.int 13))))) (gVar 5))
  (sRet (eAp2 gAdd (eAp2 gMul (eAp2 gAdd (eAp2 gMul (eVar 3) (eC (.int 2147483647))) (eVar 4)) (eC (.int 2147483647))) (eVar 5)))))))))
theorem f_law_spread_bad : ∀ (ds : List D) (h : Hd), ds.length ≠ 2 → f_law_spread ds h = .bad := fun ds h e => fn_bad ds h e
/-- _law_take: 0 _law_pen, 1 _law_many, 2 _law_at, 3 _law_cell, 4 _law_found -/
noncomputable def f_law_take : EF := fn 2 5
  (sSeq (sIf (tB (eAp2 gLt (eAp2 gIx (eVar 0) (eC (.int 2))) (eVar 1))) (sSeq (sAsg (eAp2 gIx (eVar 0) (eC (.int 1))) (gVar 2))
  (sSeq (sAsg (eC (.int 0)) (gVar 3))
  (sSeq (sIf (tB (eAp2 gLt (eVar 2) (eAp gLen (aCons (eAp2 gIx (eVar 0) (eC (.int 0))) aNil)))) (sAsg (eAp2 gIx (eAp2 gIx (eVar 0) (eC (.int 0))) (eVar 2)) (gVar 3)) (sIf (tB (eAp2 gGt (eAp gLen (aCons (eAp2 gIx (eVar 0) (eC (.int 0))) aNil)) (eC (.int 0)))) (sAsg (eAp2 gMod (eAp2 gIx (eAp2 gIx (eVar 0) (eC (.int 0))) (eAp2 gMod (eAp2 gAdd (eAp2 gMul (eVar 2) (eC (.int 5))) (eC (.int 3))) (eAp gLen (aCons (eAp2 gIx (eVar 0) (eC (.int 0))) aNil)))) (eAp2 gAdd (eAp2 gPow (eC (.int 10)) (eC (.int 17))) (eVar 2))) (gVar 3)) sNop))
  (sSeq (sAsg (eAp2 gAdd (eVar 2) (eC (.int 1))) (gSub (eVar 0) (eC (.int 1)) gSet))
  (sAsg (eAp f_law_spread (aCons (eVar 3) (aCons (eVar 2) aNil))) (gSub (eVar 0) (eC (.int 2)) gSet)))))) sNop)
  (sSeq (sAsg (eAp2 gMod (eAp2 gIx (eVar 0) (eC (.int 2))) (eVar 1)) (gVar 4))
  (sSeq (sAsg (eAp2 gFdv (eAp2 gIx (eVar 0) (eC (.int 2))) (eVar 1)) (gSub (eVar 0) (eC (.int 2)) gSet))
  (sRet (eVar 4)))))
theorem f_law_take_bad : ∀ (ds : List D) (h : Hd), ds.length ≠ 2 → f_law_take ds h = .bad := fun ds h e => fn_bad ds h e
/-- _law_any_order: 0 _law_pen, 1 _law_many, 2 _law_found, 3 _law_k -/
noncomputable def f_law_any_order : EF := fn 2 4
  (sSeq (sAsg (eLstR aNil) (gVar 2))
  (sSeq (sFor (gVar 3) (iRg1 (aCons (eVar 1) aNil)) (sEx (eMtL mInsert (eVar 2) (aCons (eAp f_law_take (aCons (eVar 0) (aCons (eAp2 gAdd (eVar 3) (eC (.int 1))) aNil))) (aCons (eVar 3) aNil)))))
  (sRet (eVar 2))))
theorem f_law_any_order_bad : ∀ (ds : List D) (h : Hd), ds.length ≠ 2 → f_law_any_order ds h = .bad := fun ds h e => fn_bad ds h e
/-- _law_any_web: 0 _law_pen, 1 _law_places, 2 _law_ties, 3 _law_n, 4 _law_ends, 5 _law_k, 6 _law_u, 7 _law_order, 8 _law_rows, 9 _law_v, 10 _law_row -/
noncomputable def f_law_any_web : EF := fn 3 11
  (sSeq (sAsg (eAp2 gAdd (eC (.int 1)) (eAp f_law_take (aCons (eVar 0) (aCons (eVar 1) aNil)))) (gVar 3))
  (sSeq (sAsg (eLc true [9] (iRg2 (aCons (eC (.int 1)) (aCons (eVar 3) aNil))) (gVar 9) tTT (lcOne (eTup (aCons (eAp f_law_take (aCons (eVar 0) (aCons (eVar 9) aNil))) (aCons (eVar 9) aNil))))) (gVar 4))
  (sSeq (sFor (gVar 5) (iRg1 (aCons (eAp2 gMul (eAp f_law_take (aCons (eVar 0) (aCons (eAp2 gAdd (eAp2 gSubt (eVar 2) (eVar 3)) (eC (.int 2))) aNil))) (eAp gInt (aCons (eAp2 gGt (eVar 3) (eC (.int 1))) aNil))) aNil)) (sSeq (sAsg (eAp f_law_take (aCons (eVar 0) (aCons (eVar 3) aNil))) (gVar 6))
  (sEx (eMtL mAppend (eVar 4) (aCons (eTup (aCons (eVar 6) (aCons (eAp2 gMod (eAp2 gAdd (eAp2 gAdd (eVar 6) (eC (.int 1))) (eAp f_law_take (aCons (eVar 0) (aCons (eAp2 gSubt (eVar 3) (eC (.int 1))) aNil)))) (eVar 3)) aNil))) aNil)))))
  (sSeq (sAsg (eAp f_law_any_order (aCons (eVar 0) (aCons (eVar 3) aNil))) (gVar 7))
  (sSeq (sAsg (eLc false [6] (iRg1 (aCons (eVar 3) aNil)) (gVar 6) tTT (lcOne (eAp2 gRepR (eLst (aCons (eC (.int 0)) aNil)) (eVar 3)))) (gVar 8))
  (sSeq (sFor (gTup [(gVar 6), (gVar 9)]) (iVal (eVar 4)) (sSeq (sAugS (eAp2 gIx (eVar 8) (eAp2 gIx (eVar 7) (eVar 6))) (eAp2 gIx (eVar 7) (eVar 9)) (eC (.int 1)) gIx gIadd gSet)
  (sAugS (eAp2 gIx (eVar 8) (eAp2 gIx (eVar 7) (eVar 9))) (eAp2 gIx (eVar 7) (eVar 6)) (eC (.int 1)) gIx gIadd gSet)))
  (sRet (eAp gTuple (aCons (eLc false [10] (iVal (eVar 8)) (gVar 10) tTT (lcOne (eAp gTuple (aCons (eVar 10) aNil)))) aNil)))))))))
theorem f_law_any_web_bad : ∀ (ds : List D) (h : Hd), ds.length ≠ 3 → f_law_any_web ds h = .bad := fun ds h e => fn_bad ds h e
/-- joined_places: 0 web, 1 found, 2 left, 3 u, 4 v, 5 many -/
noncomputable def f_joined_places : EF := fn 1 6
  (sSeq (sAsg (eDsp1 true (eC (.int 0)) (eC (.bl true))) (gVar 1))
  (sSeq (sAsg (eLstR (aCons (eC (.int 0)) aNil)) (gVar 2))
  (sSeq (sWh (tB (eAp2 gNe (eVar 2) (eLst aNil))) (sSeq (sAsg (eMtL mPop (eVar 2) aNil) (gVar 3))
  (sFor (gTup [(gVar 4), (gVar 5)]) (iEn (aCons (eAp2 gIx (eVar 0) (eVar 3)) aNil)) (sIf (tAnd (tB (eAp2 gGt (eVar 5) (eC (.int 0)))) (tB (eAp2 (inDc true) (eVar 4) (eVar 1)))) (sSeq (sAsg (eC (.bl true)) (gSub (eVar 1) (eVar 4) gSet))
  (sEx (eMtL mAppend (eVar 2) (aCons (eVar 4) aNil)))) sNop))))
  (sRet (eVar 1)))))
theorem f_joined_places_bad : ∀ (ds : List D) (h : Hd), ds.length ≠ 1 → f_joined_places ds h = .bad := fun ds h e => fn_bad ds h e
/-- is_whole: 0 thing -/
noncomputable def f_is_whole : EF := fn 1 1
  (sRet (eAnd (eIs ["int"] (eVar 0)) (eNot (eIs ["bool"] (eVar 0)))))
theorem f_is_whole_bad : ∀ (ds : List D) (h : Hd), ds.length ≠ 1 → f_is_whole ds h = .bad := fun ds h e => fn_bad ds h e
/-- is_row: 0 thing, 1 many, 2 part -/
noncomputable def f_is_row : EF := fn 2 3
  (sRet (eAnd (eIs ["tuple"] (eVar 0)) (eAnd (eAp2 gEq (eAp gLen (aCons (eVar 0) aNil)) (eVar 1)) (eAp gEvery (aCons (eLc false [2] (iVal (eVar 0)) (gVar 2) tTT (lcOne (eAp f_is_whole (aCons (eVar 2) aNil)))) aNil)))))
theorem f_is_row_bad : ∀ (ds : List D) (h : Hd), ds.length ≠ 2 → f_is_row ds h = .bad := fun ds h e => fn_bad ds h e
/-- is_web: 0 thing, 1 n, 2 row, 3 u, 4 v -/
noncomputable def f_is_web : EF := fn 1 5
  (sSeq (sIf (tOr (tNot (tB (eIs ["tuple"] (eVar 0)))) (tNot (tB (eCh gLe gLe (eC (.int 1)) (eAp gLen (aCons (eVar 0) aNil)) (eC (.int 10)))))) (sRet (eC (.bl false))) sNop)
  (sSeq (sAsg (eAp gLen (aCons (eVar 0) aNil)) (gVar 1))
  (sSeq (sIf (tNot (tB (eAp gEvery (aCons (eLc false [2] (iVal (eVar 0)) (gVar 2) tTT (lcOne (eAnd (eAp f_is_row (aCons (eVar 2) (aCons (eVar 1) aNil))) (eAp2 gGe (eAp gMin (aCons (eVar 2) aNil)) (eC (.int 0)))))) aNil)))) (sRet (eC (.bl false))) sNop)
  (sSeq (sIf (tNot (tB (eAp gEvery (aCons (eLc false [3, 4] (iRg1 (aCons (eVar 1) aNil)) (gVar 3) tTT (lcIn [4] (iRg1 (aCons (eVar 1) aNil)) (gVar 4) tTT (lcOne (eAnd (eAp2 gEq (eAp2 gIx (eAp2 gIx (eVar 0) (eVar 3)) (eVar 4)) (eAp2 gIx (eAp2 gIx (eVar 0) (eVar 4)) (eVar 3))) (eAp2 gEq (eAp2 gIx (eAp2 gIx (eVar 0) (eVar 3)) (eVar 3)) (eC (.int 0))))))) aNil)))) (sRet (eC (.bl false))) sNop)
  (sRet (eAnd (eAp2 gLe (eAp gSum (aCons (eLc false [2] (iVal (eVar 0)) (gVar 2) tTT (lcOne (eAp gSum (aCons (eVar 2) aNil)))) aNil)) (eAp2 gMul (eC (.int 2)) (eC (.int 12)))) (eAp2 gEq (eAp gLen (aCons (eAp f_joined_places (aCons (eVar 0) aNil)) aNil)) (eVar 1))))))))
theorem f_is_web_bad : ∀ (ds : List D) (h : Hd), ds.length ≠ 1 → f_is_web ds h = .bad := fun ds h e => fn_bad ds h e
/-- need_web: 0 thing -/
noncomputable def f_need_web : EF := fn 1 1
  (sIf (tNot (tB (eAp f_is_web (aCons (eVar 0) aNil)))) (sRaise 0) sNop)
theorem f_need_web_bad : ∀ (ds : List D) (h : Hd), ds.length ≠ 1 → f_need_web ds h = .bad := fun ds h e => fn_bad ds h e
end BR

namespace BR
open PySem PySem.Spec PyProof.Rows L2
end BR

namespace BR
open PySem PySem.Spec PyProof.Rows L2
/-- _law_same: 0 _law_found, 1 _law_due, 2 _law_one, 3 _law_other -/
noncomputable def f_law_same_B (F : EF) : EF := fn 2 4
  (sSeq (sIf (tOr (tB (eAp1 gIsN (eVar 1))) (tB (eAp1 gIsN (eVar 0)))) (sRet (eAnd (eAp1 gIsN (eVar 1)) (eAp1 gIsN (eVar 0)))) sNop)
  (sSeq (sIf (tOr (tB (eIs ["bool"] (eVar 1))) (tB (eIs ["bool"] (eVar 0)))) (sRet (eAnd (eIs ["bool"] (eVar 1)) (eAnd (eIs ["bool"] (eVar 0)) (eAp2 gEq (eVar 0) (eVar 1))))) sNop)
  (sSeq (sIf (tB (eIs ["int", "str"] (eVar 1))) (sSeq (sIf (tB (eAp2 gNe (eIs ["int"] (eVar 0)) (eIs ["int"] (eVar 1)))) (sRet (eC (.bl false))) sNop)
  (sRet (eAnd (eIs ["int", "str"] (eVar 0)) (eAp2 gEq (eVar 0) (eVar 1))))) sNop)
  (sSeq (sIf (tOr (tB (eAp2 gNe (eIs ["tuple"] (eVar 1)) (eIs ["tuple"] (eVar 0)))) (tB (eAp2 gNe (eIs ["list"] (eVar 1)) (eIs ["list"] (eVar 0))))) (sRet (eC (.bl false))) sNop)
  (sSeq (sIf (tB (eAp2 gNe (eAp gLen (aCons (eVar 0) aNil)) (eAp gLen (aCons (eVar 1) aNil)))) (sRet (eC (.bl false))) sNop)
  (sRet (eAp2 (inF true) (eC (.bl false)) (eLc false [2, 3] (iZipN (aCons (eVar 0) (aCons (eVar 1) aNil))) (gTup [(gVar 2), (gVar 3)]) tTT (lcOne (eAp F (aCons (eVar 2) (aCons (eVar 3) aNil))))))))))))
noncomputable def f_law_same_F : Nat → EF
  | 0 => fun _ _ => .bad
  | k + 1 => f_law_same_B (f_law_same_F k)
theorem f_law_same_Fbad : ∀ (k : Nat) (ds : List D) (h : Hd), ds.length ≠ 2 → f_law_same_F k ds h = .bad
  | 0, _, _, _ => rfl
  | _ + 1, ds, h, e => fn_bad ds h e
noncomputable def f_law_same : EF := f_law_same_F 6
theorem f_law_same_bad : ∀ (ds : List D) (h : Hd), ds.length ≠ 2 → f_law_same ds h = .bad := f_law_same_Fbad 6
end BR

namespace BR
open PySem PySem.Spec PyProof.Rows L2
end BR

namespace BR
open PySem PySem.Spec PyProof.Rows L2
/-- need_place: 0 web, 1 thing -/
noncomputable def f_need_place : EF := fn 2 2
  (sIf (tOr (tNot (tB (eAp f_is_whole (aCons (eVar 1) aNil)))) (tNot (tB (eCh gLe gLt (eC (.int 0)) (eVar 1) (eAp gLen (aCons (eVar 0) aNil)))))) (sRaise 0) sNop)
theorem f_need_place_bad : ∀ (ds : List D) (h : Hd), ds.length ≠ 2 → f_need_place ds h = .bad := fun ds h e => fn_bad ds h e
end BR

namespace BR
open PySem PySem.Spec PyProof.Rows L2
section
variable {P : Program} {wd : World} {K : PySem.W.Frag} {mg : Str → Option Value} {base : Heap} {ct : CT}
end
section
variable {ct : CT} {X : Cx} {e : Expr} {es : List Expr} {kws : List Keyword} {pos p : Pos} {x : Str} {k j n m nj : Nat} {g : EF} {ha hk : EA} {kj : List Str} {restV : List V} {rest : List D}
end
end BR

namespace BR
open PySem PySem.Spec PyProof.Rows L2
end BR

namespace BR
open PySem PySem.Spec PyProof.Rows L2
/-- _law_wrong_web: 0 _law_pen, 1 _law_web, 2 _law_n, 3 _law_some -/
noncomputable def f_law_wrong_web : EF := fn 2 4
  (sSeq (sAsg (eAp gLen (aCons (eVar 1) aNil)) (gVar 2))
  (sSeq (sAsg (eLstR (aCons (eC .non) (aCons (eC (.int 0)) (aCons (eC (.bl true)) (aCons (eC (.str "web")) (aCons (eTup aNil) (aCons (eTup (aCons (eTup aNil) aNil)) (aCons (eTup (aCons (eTup (aCons (eC (.int 1)) aNil)) aNil)) (aCons (eLst (aCons (eTup (aCons (eC (.int 0)) aNil)) aNil)) (aCons (eTup (aCons (eLst (aCons (eC (.int 0)) aNil)) aNil)) (aCons (eTup (aCons (eTup (aCons (eC (.bl true)) aNil)) aNil)) (aCons (eTup (aCons (eTup (aCons (eC (.int 0)) (aCons (eC (.int 1)) aNil))) (aCons (eTup (aCons (eC (.int 0)) (aCons (eC (.int 0)) aNil))) aNil))) (aCons (eTup (aCons (eTup (aCons (eC (.int 0)) (aCons (eC (.int 1)) aNil))) (aCons (eTup (aCons (eC (.int 1)) (aCons (eC (.int 1)) aNil))) aNil))) aNil))))))))))))) (gVar 3))
  (sSeq (sAsg (eAp2 gAddR (eVar 3) (eLst (aCons (eTup (aCons (eTup (aCons (eC (.int 0)) (aCons (eC (.int 0)) aNil))) (aCons (eTup (aCons (eC (.int 0)) (aCons (eC (.int 0)) aNil))) aNil))) (aCons (eTup (aCons (eTup (aCons (eC (.int 0)) (aCons (eAp1 gNeg (eC (.int 1))) aNil))) (aCons (eTup (aCons (eAp1 gNeg (eC (.int 1))) (aCons (eC (.int 0)) aNil))) aNil))) (aCons (eTup (aCons (eTup (aCons (eC (.int 0)) (aCons (eC (.int 13)) aNil))) (aCons (eTup (aCons (eC (.int 13)) (aCons (eC (.int 0)) aNil))) aNil))) (aCons (eTup (aCons (eTup (aCons (eC (.int 0)) (aCons (eC (.bl true)) aNil))) (aCons (eTup (aCons (eC (.bl true)) (aCons (eC (.int 0)) aNil))) aNil))) (aCons (eTup (aCons (eTup (aCons (eC (.int 0)) (aCons (eC (.int 1)) aNil))) (aCons (eTup (aCons (eC (.int 1)) aNil)) aNil))) aNil))))))) (gVar 3))
  (sSeq (sAsg (eAp2 gAddR (eVar 3) (eLst (aCons (eTup (aCons (eTup (aCons (eC (.int 0)) (aCons (eC (.int 1)) (aCons (eC (.int 0)) aNil)))) (aCons (eTup (aCons (eC (.int 1)) (aCons (eC (.int 0)) aNil))) aNil))) (aCons (eAp gList (aCons (eVar 1) aNil)) (aCons (eAp2 gAdd (eVar 1) (eTup (aCons (eAp2 gIx (eVar 1) (eC (.int 0))) aNil))) (aCons (eAp2 gAdd (eSl gCut (eVar 1) oNo (oP (eAp1 gNeg (eC (.int 1))))) (eTup (aCons (eC .non) aNil))) aNil)))))) (gVar 3))
  (sSeq (sEx (eMtL mAppend (eVar 3) (aCons (eAp2 gAdd (eTup (aCons (eAp gList (aCons (eAp2 gIx (eVar 1) (eC (.int 0))) aNil)) aNil)) (eSl gCut (eVar 1) (oP (eC (.int 1))) oNo)) aNil)))
  (sSeq (sAsg (eAp2 gAddR (eVar 3) (eLst (aCons (eTup (aCons (eTup (aCons (eC (.int 0)) (aCons (eC (.int 1)) (aCons (eC (.int 0)) (aCons (eC (.int 0)) aNil))))) (aCons (eTup (aCons (eC (.int 1)) (aCons (eC (.int 0)) (aCons (eC (.int 0)) (aCons (eC (.int 0)) aNil))))) (aCons (eTup (aCons (eC (.int 0)) (aCons (eC (.int 0)) (aCons (eC (.int 0)) (aCons (eC (.int 1)) aNil))))) (aCons (eTup (aCons (eC (.int 0)) (aCons (eC (.int 0)) (aCons (eC (.int 1)) (aCons (eC (.int 0)) aNil))))) aNil))))) (aCons (eTup (aCons (eTup (aCons (eC (.int 0)) (aCons (eAp2 gPow (eC (.int 10)) (eC (.int 40))) aNil))) (aCons (eTup (aCons (eAp2 gPow (eC (.int 10)) (eC (.int 40))) (aCons (eC (.int 0)) aNil))) aNil))) aNil)))) (gVar 3))
  (sRet (eAp2 gIx (eVar 3) (eAp f_law_take (aCons (eVar 0) (aCons (eAp gLen (aCons (eVar 3) aNil)) aNil)))))))))))
theorem f_law_wrong_web_bad : ∀ (ds : List D) (h : Hd), ds.length ≠ 2 → f_law_wrong_web ds h = .bad := fun ds h e => fn_bad ds h e
end BR

namespace RZ2
open PySem
open PySem.Sem (wp)
section
variable {prog : Program} {w : World} {A : Around} {E : Value → Shared → Prop} {s : Shared}
variable {t1 t2 : Bool} {z TI TO i1 i2 l1 l2 : Addr} {k1 k2 : Nat} {xs ys : Array Value} {x y a b : Value}
end
section
variable {prog : Program} {w : World} {A : Around} {E : Value → Shared → Prop} {s : Shared}
end
end RZ2
namespace BR
open PySem PySem.Spec PyProof.Rows L2 RZ2
section
variable {ct : CT} {X : Cx} {e e2 : Expr} {ha : EA}
end
end BR

namespace BR
open PySem PySem.Spec PyProof.Rows L2
section
variable {ct : CT} {X : Cx} {pos apos cpos : Pos}
end
section
variable {ct : CT} {X : Cx} {e e2 : Expr} {ha : EA} {p pos tpos : Pos} {elts : List Expr} {kk : Nat}
end
end BR

namespace BR
open PySem PySem.Spec PyProof.Rows L2
end BR

namespace BR
open PySem PySem.Spec PyProof.Rows L2
/-- ends well, or with an exception of class c -/
def okX {α β : Type} (K : PySem.W.Frag) (ct : CT) (rel : W → Hp → α → β → Prop) (r : Res α) (w : W) (H : Hp) (Q : β → Hp → Prop) (E : Nat → Hp → Prop) : Prop :=
  match r with
  | .ok a h' => ∀ w' H' b, Step K w H w' H' → SR K w' H' ct h' → rel w' H' a b → Q b H'
  | .exc c _ h' => ∀ w' H', Step K w H w' H' → SR K w' H' ct h' → E c H'
  | .bad => False
/-- where nothing raises -/
def Res.only {α : Type} (r : Res α) : Res α := match r with
  | .ok a h => .ok a h
  | _ => .bad
def eV (f : EE) : EE := fun σ h => (f σ h).only
def aV (f : EA) : EA := fun σ h => (f σ h).only
def tV (f : ET) : ET := fun σ h => (f σ h).only
def sV (f : SS) : SS := fun σ h => (f σ h).only
section
variable {α β γ δ : Type} {K : PySem.W.Frag} {ct : CT} {w w1 : W} {H H1 : Hp} {rel : W → Hp → α → β → Prop} {rel2 : W → Hp → γ → δ → Prop}
theorem okX.step {r : Res α} {Q : β → Hp → Prop} {E : Nat → Hp → Prop} (s : Step K w H w1 H1) (q : okX K ct rel r w H Q E) : okX K ct rel r w1 H1 Q E := by
  cases r with
  | ok a h' => exact fun w' H' b st sr r => q w' H' b (s.trans st) sr r
  | exc _ _ _ => exact fun w' H' st sr => q w' H' (s.trans st) sr
  | bad => exact q
theorem okX.only {r : Res α} {Q : β → Hp → Prop} {E : Nat → Hp → Prop} (q : okX K ct rel r.only w H Q E) : okR K ct rel r w H Q := by
  cases r with
  | ok a h' => exact q
  | exc _ _ _ => exact q.elim
  | bad => exact q
theorem okX.bindV {r : Res α} {f : α → Hd → Res γ} {Q : δ → Hp → Prop} {E : Nat → Hp → Prop} (q : okX K ct rel2 (r.only.bind f) w H Q E) :
    okR K ct rel r w H fun b H1 => ∃ w1 h1 a, Step K w H w1 H1 ∧ SR K w1 H1 ct h1 ∧ rel w1 H1 a b ∧ okX K ct rel2 (f a h1) w1 H1 Q E := by
  cases r with
  | ok a h' => exact fun w' H' b st sr r => ⟨w', h', a, st, sr, r, okX.step st q⟩
  | exc _ _ _ => exact q.elim
  | bad => exact q.elim
theorem okX.bind {r : Res α} {f : α → Hd → Res γ} {Q : δ → Hp → Prop} {E : Nat → Hp → Prop} (q : okX K ct rel2 (r.bind f) w H Q E) :
    okX K ct rel r w H (fun b H1 => ∃ w1 h1 a, Step K w H w1 H1 ∧ SR K w1 H1 ct h1 ∧ rel w1 H1 a b ∧ okX K ct rel2 (f a h1) w1 H1 Q E) E := by
  cases r with
  | ok a h' => exact fun w' H' b st sr r => ⟨w', h', a, st, sr, r, okX.step st q⟩
  | exc _ _ _ => exact q
  | bad => exact q.elim
theorem okX.imp {r : Res α} {Q Q' : β → Hp → Prop} {E E' : Nat → Hp → Prop} (q : okX K ct rel r w H Q E) (i : ∀ b H, Q b H → Q' b H) (j : ∀ c H, E c H → E' c H) : okX K ct rel r w H Q' E' := by
  cases r with
  | ok a h' => exact fun w' H' b st sr r => i _ _ (q w' H' b st sr r)
  | exc _ _ _ => exact fun w' H' st sr => j _ _ (q w' H' st sr)
  | bad => exact q.elim
end
/-- the wish of an exception, at a state -/
def wC (ct : CT) (W : WX) (σ : L2.St) : Nat → Hp → Prop := fun c H => W (.ref (ct c).1) none σ H
def tEX (K : PySem.W.Frag) (ct : CT) (W : WX) (f : EE) : TE := fun σ H Q => ∃ w h σd, SR K w H ct h ∧ RS K w H σd σ ∧ okX K ct (rV K) (f σd h) w H Q (wC ct W σ)
def tSX (K : PySem.W.Frag) (ct : CT) (W : WX) (f : SS) : TS := fun D σ H => ∃ w h σd, SR K w H ct h ∧ RS K w H σd σ ∧ okX K ct (rF K) (f σd h) w H (endOf D) (wC ct W σ)
abbrev QE (ct : CT) (X : Cx) (W : WX) (e : Expr) (f : EE) : Prop := PE X e (tEX X.K ct W f)
abbrev QS (ct : CT) (X : Cx) (W : WX) (s : Stmt) (f : SS) : Prop := PS X s (tSX X.K ct W f)
abbrev QSs (ct : CT) (X : Cx) (W : WX) (s : List Stmt) (f : SS) : Prop := PSs X s (tSX X.K ct W f)
theorem okX.here {K : PySem.W.Frag} {ct : CT} {α β : Type} {rel : W → Hp → α → β → Prop} {a : α} {b : β} {w : W} {H : Hp} {h : Hd} {Q : β → Hp → Prop} {E : Nat → Hp → Prop} (q : okX K ct rel (.ok a h) w H Q E) (sr : SR K w H ct h) (r : rel w H a b) : Q b H :=
  q w H b .refl sr r
section
variable {ct : CT} {X : Cx} {Wi : WX} {e c a b : Expr} {s : Stmt} {ss t u : List Stmt} {f k fe fa fb : EE} {gc : ET} {g : SS} {ga gb : SS} {pos : Pos}
theorem qss_v (h : SXs ct X ss g) : QSs ct X Wi ss (sV g) := pss_imp h fun D σ H ⟨w, h, σd, sr, rs, q⟩ => ⟨w, h, σd, sr, rs, q.only⟩
theorem qs_ex (h1 : QE ct X Wi e fe) (hs : swapsWith e none pos.line X.env = pure false := by rfl) : QS ct X Wi (.Expr e pos) (sEx fe) := ps_imp (ps_expr h1 hs) fun E σ H ⟨w, h, σd, sr, rs, q⟩ => by
  exact ⟨w, h, σd, sr, rs, (okX.bind (rel := rV X.K) q).imp (fun b H1 ⟨w1, h1, a, st1, sr1, r1, q1⟩ => okX.here (b := FlV.nx σ) q1 sr1 (st1.rsg rs)) fun _ _ z => z⟩
theorem qs_ret (h1 : QE ct X Wi e fe) : QS ct X Wi (.Return (some e) pos) (sRet fe) := ps_imp (ps_ret h1) fun E σ H ⟨w, h, σd, sr, rs, q⟩ => by
  exact ⟨w, h, σd, sr, rs, (okX.bind (rel := rV X.K) q).imp (fun b H1 ⟨w1, h1, a, st1, sr1, r1, q1⟩ => okX.here (b := FlV.rt b) q1 sr1 r1) fun _ _ z => z⟩
theorem qs_if (h1 : ST ct X c gc) (h2 : QSs ct X Wi t ga) (h3 : QSs ct X Wi u gb) : QS ct X Wi (.If c t u pos) (sIf (tV gc) ga gb) := ps_imp (ps_if h1 h2 h3) fun E σ H ⟨w, h, σd, sr, rs, q⟩ => by
  refine ⟨w, h, σd, sr, rs, (okX.bindV (rel := rB) q).imp fun b H1 ⟨w1, h1, b', st1, sr1, r1, q1⟩ => ?_⟩
  cases r1
  cases b with
  | true => exact ⟨w1, h1, σd, sr1, st1.rsg rs, q1⟩
  | false => exact ⟨w1, h1, σd, sr1, st1.rsg rs, q1⟩
theorem qss_one (h1 : QS ct X Wi s g) : QSs ct X Wi [s] g := pss_one h1
/-- the wish does not look at the state -/
def NoLook (ct : CT) (Wi : WX) : Prop := ∀ c σ σ' H, wC ct Wi σ c H → wC ct Wi σ' c H
theorem qss_cons (nl : NoLook ct Wi) (h1 : QS ct X Wi s g) (h2 : QSs ct X Wi ss ga) : QSs ct X Wi (s :: ss) (sSeq g ga) := pss_imp (pss_cons h1 h2) fun E σ H ⟨w, h, σd, sr, rs, q⟩ => by
  refine ⟨w, h, σd, sr, rs, (okX.bind (rel := rF X.K) q).imp (fun b H1 ⟨w1, h1, fl, st1, sr1, r1, q1⟩ => ?_) fun _ _ z => z⟩
  cases fl with
  | nx σ1 => cases b with
    | nx σ2 => exact ⟨w1, h1, σ1, sr1, r1, q1.imp (fun _ _ z => z) fun c H z => nl c σ σ2 H z⟩
    | _ => exact r1.elim
  | bk σ1 => cases b with
    | bk σ2 => exact okX.here (K := X.K) (ct := ct) (rel := rF X.K) (a := Fl.bk σ1) (b := FlV.bk σ2) (Q := endOf E) q1 sr1 r1
    | _ => exact r1.elim
  | ct σ1 => cases b with
    | ct σ2 => exact okX.here (K := X.K) (ct := ct) (rel := rF X.K) (a := Fl.ct σ1) (b := FlV.ct σ2) (Q := endOf E) q1 sr1 r1
    | _ => exact r1.elim
  | rt d => cases b with
    | rt v => exact okX.here (K := X.K) (ct := ct) (rel := rF X.K) (a := Fl.rt d) (b := FlV.rt v) (Q := endOf E) q1 sr1 r1
    | _ => exact r1.elim
/-- raise X('m') -/
theorem qs_raise {C : Addr} {bmB : List Value} {B newId initId : String} {x m : Str} {j i : Nat} {p p2 pos2 : Pos} (hc : X.calm = true) (tk : L2N.Takes X Wi) (F : ExcBaseFacts B newId initId bmB) (hC : (ct i).1 = C) (q : PySem.W.excIn X.K C bmB newId = true) (gC : X.mg x = some (.ref C))
    (kC : PySem.W.keepIn X.K (.ref C) = true) (r : Raises X (.ref C)) (hg : Gl X x) (hdb : (x == ("__debug__" : Str)) = false := by decide) : QS ct X Wi (.Raise (some (.Call (.Name x p) [.Constant (.str m) j p2] [] pos2)) none pos) (sRaise i) :=
  ps_imp (L2N.ps_raise hc tk (L2N.pmk_own F q gC kC r hg hdb)) fun E σ H ⟨w, h, σd, sr, rs, q⟩ => by
    have := q w H .refl sr
    unfold wC at this
    rw [hC] at this
    exact this
end
def rGX (K : PySem.W.Frag) (ct : CT) (g : EF) : List V → Hp → VK → XK → Prop := fun vs H Q E => ∃ w h ds, SR K w H ct h ∧ RDs K w H ds vs ∧ okX K ct (rV K) (g ds h) w H Q fun c H' => E (.ref (ct c).1) none H'
def spX (K : PySem.W.Frag) (ct : CT) (n : Nat) (g : EF) : Sp := fun vs H Q E => vs.length = n ∧ rGX K ct g vs H Q E
/-- n parameters, m slots; what was made is dropped, also where an exception leaves -/
noncomputable def fnX (n m : Nat) (body : SS) : EF := fun ds h => if ds.length = n then
    match body (ds.map some ++ List.replicate (m - n) none) h with
    | .ok (.rt d) h' => fin h d h'
    | .ok (.nx _) h' => fin h .non h'
    | .exc c _ h' => (fin h .non h').bind fun _ h2 => .exc c [] h2
    | _ => .bad
  else .bad
theorem fnX_bad {n m : Nat} {body : SS} (ds : List D) (h : Hd) (e : ds.length ≠ n) : fnX n m body ds h = .bad := by unfold fnX; rw [if_neg e]
structure KnX (P : Program) (wd : World) (K : PySem.W.Frag) (mg : Str → Option Value) (base : Heap) (ct : CT) (k : Nat) (x : Str) (n : Nat) (g : EF) : Prop where
  ex : ∃ (f : Addr) (fd : FuncData) (ps : List Str), FnG P wd K mg base (L2N.CX P wd) k f fd ps (spX K ct n g) ∧ mg x = some (.ref f) ∧ PySem.W.keepIn K (.ref f) = true ∧ Binds K fd ps []
section
variable {ct : CT} {X : Cx} {Wi : WX} {e : Expr} {es : List Expr} {pos p : Pos} {x : Str} {k j n : Nat} {g : EF} {ha : EA}
theorem qe_call (tk : L2N.Takes X Wi) (c : KnX X.prog X.w X.K X.mg X.base ct k x n g) (hg' : ∀ ds h, ds.length ≠ n → g ds h = .bad) (hr : Rm j X.A) (hk : k ≤ j) (hg : Gl X x) (h1 : SA ct X (e :: es) ha)
    (hdb : (x == ("__debug__" : Str)) = false := by decide) (he : starEach (e :: es) X.env = (false, eval e X.env) :: starEach es X.env := by rfl) (hpl : (backTo pos (starEach es X.env)).any (·.1) = false := by rfl) :
    QE ct X Wi (.Call (.Name x p) (e :: es) [] pos) (eAp g (aV ha)) := by
  obtain ⟨f, fd, ps, F, hm, kp, b⟩ := c.ex
  refine pe_imp (pe_callG (E := L2.WE Wi) F (hr.mono hk) hg hm kp b .nil (fun σ => L2N.passAt tk σ) h1 hdb he hpl) fun σ H Q ⟨w, h, σd, sr, rs, q⟩ => ?_
  refine ⟨w, h, σd, sr, rs, (okX.bindV (rel := rVs X.K) q).imp fun as H1 ⟨w1, h1, ds, st1, sr1, r1, q1⟩ => ?_⟩
  rw [List.append_nil]
  by_cases hl : ds.length = n
  · exact ⟨by rw [← r1.len]; exact hl, w1, h1, ds, sr1, r1, q1⟩
  · rw [hg' _ _ hl] at q1; exact q1.elim
end
section
variable {P : Program} {wd : World} {K : PySem.W.Frag} {mg : Str → Option Value} {base : Heap} {ct : CT}
theorem noLook_fn {E : XK} : NoLook ct (fun cls d _ H => E cls d H) := fun _ _ _ _ z => z
theorem ok_fnX {x qual : Str} {st : Stmt} {f : Addr} {fd : FuncData} {N ps : List Str} {k n m : Nat} {body : SS} (F : Fun K x qual st f fd) (S : FnScope N ps (defScope st)) (hn : ps.length = n) (hm : N.length = m)
    (hb : ∀ (cdv : Value) (A : Around) (outer : List Env) (s : Shared) (H : Hp) (E : XK), Rm k (A.deeper (envOfC qual (defScope st) s.heap.objs.size f cdv)) →
      L2N.Takes (cxOf (L2N.CX P wd) P wd K mg base N qual (defScope st) f cdv A outer s H E) (fun cls d _ H => E cls d H) →
      QSs ct (cxOf (L2N.CX P wd) P wd K mg base N qual (defScope st) f cdv A outer s H E) (fun cls d _ H => E cls d H) (defBody st) body) : FnG P wd K mg base (L2N.CX P wd) (k + 1) f fd ps (spX K ct n (fnX n m body)) := by
  refine fnG_of F S (fun vs H Q E h => by rw [h.1, hn]) fun cdv A outer s H vs Q E hr h => ?_
  obtain ⟨hl, w, hd, ds, sr, rd, q⟩ := h
  have tk : L2N.Takes (cxOf (L2N.CX P wd) P wd K mg base N qual (defScope st) f cdv A outer s H E) (fun cls d _ H => E cls d H) := L2N.takes_of rfl rfl rfl rfl
  refine ⟨_, hb cdv A outer s H E hr tk, w, hd, ds.map some ++ List.replicate (m - n) none, sr, ?_, ?_⟩
  · have e : L2.start N vs = vs.map some ++ List.replicate (m - n) none := by unfold L2.start; rw [hl, hm]
    rw [e]; exact RS.start rd
  · have hdl : ds.length = n := by rw [rd.len, hl]
    unfold fnX at q
    rw [if_pos hdl] at q
    have go : ∀ (w1 : W) (H1 : Hp) (h1 : Hd) (d : D) (v : V), Step K w H w1 H1 → SR K w1 H1 ct h1 → RD K w1 H1 d v → okX K ct (rV K) (fin hd d h1) w H Q (fun c H' => E (.ref (ct c).1) none H') → Q v H1 := fun w1 H1 h1 d v st1 sr1 rd q => by
      unfold fin at q
      by_cases ho : okOld hd h1
      · rw [if_pos ho] at q
        cases hf : frz h1 hd.length d with
        | none => rw [hf] at q; exact q.elim
        | some d' =>
          rw [hf] at q
          obtain ⟨f1, f2, f3⟩ := fin_ok sr st1 sr1 rd ho hf
          exact q w H1 v f1 f2 f3
      · rw [if_neg ho] at q; exact q.elim
    cases hbody : body (ds.map some ++ List.replicate (m - n) none) hd with
    | ok fl h1 =>
      rw [hbody] at q
      intro w1 H1 b st1 sr1 r1
      cases fl with
      | nx σ1 => cases b with
        | nx σ2 => exact go w1 H1 h1 .non .non st1 sr1 rfl q
        | _ => exact r1.elim
      | rt d => cases b with
        | rt v => exact go w1 H1 h1 d v st1 sr1 r1 q
        | _ => exact r1.elim
      | bk σ1 => exact q.elim
      | ct σ1 => exact q.elim
    | exc c xs h1 =>
      rw [hbody] at q
      intro w1 H1 st1 sr1
      show E (.ref (ct c).1) none H1
      simp only at q
      unfold fin at q
      by_cases ho : okOld hd h1
      · rw [if_pos ho] at q
        cases hf : frz h1 hd.length .non with
        | none => rw [hf] at q; exact q.elim
        | some d' =>
          rw [hf] at q
          obtain ⟨f1, f2, f3⟩ := fin_ok (d := .non) (v := .non) sr st1 sr1 (show RD K w1 H1 .non .non from rfl) ho hf
          exact q w H1 f1 f2
      · rw [if_neg ho] at q; exact q.elim
    | bad => rw [hbody] at q; exact q.elim
theorem kn_mkX {x : Str} {st : Stmt} {N ps : List Str} {k n m : Nat} {body : SS} (D : Df K mg x ps st) (S : FnScope N ps (defScope st)) (hn : ps.length = n) (hm : N.length = m)
    (hb : ∀ (f : Addr) (cdv : Value) (A : Around) (outer : List Env) (s : Shared) (H : Hp) (E : XK), Rm k (A.deeper (envOfC x (defScope st) s.heap.objs.size f cdv)) →
      L2N.Takes (cxOf (L2N.CX P wd) P wd K mg base N x (defScope st) f cdv A outer s H E) (fun cls d _ H => E cls d H) →
      QSs ct (cxOf (L2N.CX P wd) P wd K mg base N x (defScope st) f cdv A outer s H E) (fun cls d _ H => E cls d H) (defBody st) body) : KnX P wd K mg base ct (k + 1) x n (fnX n m body) := by
  obtain ⟨f, fd, F, h1, h2, b, _⟩ := D.ex
  exact ⟨⟨f, fd, ps, ok_fnX F S hn hm (hb f), h1, h2, b⟩⟩
end
end BR

namespace BR
open PySem PySem.Spec PyProof.Rows L2 L2N
theorem inv_ext {X : Cx} {pins : List (Addr × Obj)} {σ : L2.St} {H : Hp} {s : Shared} {a : Addr} {oe : Obj} {cls : Value} {d : Option Addr} (I : Inv X ((a, oe) :: pins) σ H s) (h0 : X.s_0.heap.get? a = none) (hp : ∀ p ∈ X.pn ++ pins, p.1 ≠ a)
    (hz : Zn cls d oe) (hd : ∃ vs, oe.data = .fields vs) : Inv X pins σ (upd H a (.ext (excF cls d a))) s := by
  obtain ⟨p1, p2, p3, p4, p5⟩ := I.pin (a, oe) (List.mem_append_right _ List.mem_cons_self)
  have new : ObjOk X.prog X.w (upd H a (.ext (excF cls d a))) s.heap a (.ext (excF cls d a)) := by
    refine ⟨⟨oe, p1, hz, hd⟩, ⟨oe, p1⟩, fun h1 h2 ⟨o, e, z⟩ k => ⟨o, k o e, z⟩⟩
  refine ⟨I.ok, I.os, I.bare, ?_, I.loc, I.cell, ?_, fun x c e => ?_, fun p hm => ?_, fun b u e => ?_, I.len⟩
  · refine ⟨I.base.keep, I.base.slot, fun b o e n x => ?_, I.base.there, fun b xs e => ?_, fun b o u e => ?_, fun b ps e => ?_⟩
    · have : b ≠ a := fun z => by rw [z, h0] at e; cases e
      rw [upd_ne this]
      exact I.base.free b o e n x
    · have h1 := I.base.tups b xs e
      rw [upd_ne (ne_of_none h1 p2)]; exact h1
    · have h1 := I.base.frzs b o u e
      rw [upd_ne (ne_of_none h1 p2)]; exact h1
    · obtain ⟨more, h1⟩ := I.base.tbls b ps e
      exact ⟨more, by rw [upd_ne (ne_of_none h1 p2)]; exact h1⟩
  · rw [upd_ne (fun z => p3 z.symm)]; exact I.free
  · have : c ≠ a := fun z => by
      obtain ⟨v, hv⟩ := I.cell x c e
      subst z
      obtain ⟨o, e1, e2⟩ := hv
      rw [p1] at e1
      cases e1
      exact p5 _ e2
    rw [upd_ne this]; exact I.freeC x c e
  · have h1 := I.pin p (by
      rcases List.mem_append.mp hm with hm | hm
      · exact List.mem_append_left _ hm
      · exact List.mem_append_right _ (List.mem_cons_of_mem _ hm))
    exact ⟨h1.1, by rw [upd_ne (hp p hm)]; exact h1.2.1, h1.2.2⟩
  · by_cases hb : b = a
    · subst hb; rw [upd_same] at e; cases e; exact new
    · rw [upd_ne hb] at e
      exact (I.hok b u e).stay (fun c v _ q => q) (fun c q => by rw [upd_ne (ne_of_none q p2)]; exact q) fun c xs q => by rw [upd_ne (ne_of_none q p2)]; exact q
/-- the end of a handler whose caught thing is kept: its name goes, the thing stays -/
def endKp (i : Nat) (a : Addr) (cls : Value) (d : Option Addr) (D : Ends) : Ends where
  nx := fun σ G => D.nx (σ.set i none) (upd G a (.ext (excF cls d a)))
  rt := fun _ _ => False
  bk := fun _ _ => False
  ct := fun _ _ => False
/-- all that is raised is caught -/
def wKp (K : PySem.W.Frag) (k : Value) (i : Nat) (ts : Addr → Value → Option Addr → TS) (D : Ends) : WX := fun cls d σ G =>
  PySem.W.exmOne K cls k = some true ∧ ∀ a, G a = none → ts a cls d (endKp i a cls d D) (σ.set i (some (.ref a))) G
theorem fly_none {B h : Heap} {l : List Env} {a : Addr} {Z : Obj → Prop} (f : HandSPX.FlyingZ B l a Z h) : B.get? a = none := f.2.1
/-- no frame is the thing -/
theorem fly_frs {B h : Heap} {l : List Env} {a : Addr} {Z : Obj → Prop} (f : HandSPX.FlyingZ B l a Z h) : a ∉ frs l := fun hm => by
  obtain ⟨oe, vs, e, -, dt⟩ := f.there
  obtain ⟨-, o, e2, nf⟩ := f.2.2.1.mem hm
  rw [e2] at e
  cases e
  exact nf _ dt
section
variable {X : Cx} {x n : Str} {k : Value} {i : Nat} {bd su : List Stmt} {b0 : Stmt} {np p1 pos : Pos} {tb : WX → TS} {ts : Addr → Value → Option Addr → TS}
theorem ps_try_keep (hs : X.stack = X.env :: X.outer) (hf : X.env.frame = some X.env.locals) (hN : X.N.Nodup) (hi : X.N[i]? = some n) (hl : X.env.kindOf n = some .local) (hk : Names X x k) (hx : X.ex = [])
    (hb : ∀ (Wi : WX) (pn : List (Addr × Obj)) (xe : Value → Shared → Prop), L2N.Takes (X.tr pn xe) Wi → PassesOwn (model X.prog X.w) X.A X.env xe → PSs (X.tr pn xe) bd (tb Wi))
    (hu : ∀ (a : Addr) (o : Obj) (cls : Value) (d : Option Addr) (pn : List (Addr × Obj)), Zn cls d o → (∃ vs, o.data = .fields vs) → PSs (X.suite a ((a, o) :: pn)) (b0 :: su) (ts a cls d)) :
    PS X (.Try bd [.ExceptHandler (some (.Name x np)) (some n) (b0 :: su) p1] [] [] pos) (fun D σ H => tb (wKp X.K k i ts D) D σ H) := by
  constructor
  intro pins s σ H D I h
  have ok := I.ok
  have fr : X.A.frames = some (X.env :: X.outer) := hs ▸ ok.frames
  refine wpAny_Try_except (wpAny_mono ((hb (wKp X.K k i ts D) (X.pn ++ pins) _ ?_ PassesOwn.looking).run [] s σ H D (I.toTry _) h) (fun fl t z => ?_) fun _ _ z => z)
  · rintro _ t ⟨a, B, sI, ps, σ1, G, cls, d, rfl, J0, nb, up, sky, na, os, ag, hm, yes⟩
    have J := Inv.ofTry J0 ok
    rw [show (X.tr (X.pn ++ pins) _).stack = X.env :: X.outer from hs] at sky
    refine Sky.land Zn.steady fr hf sky fun h1 f1 u1 => ?_
    have J1 : Inv X pins σ1 G { t with heap := h1 } := J.landed nb f1.1 (up.trans u1) os ag
    obtain ⟨o1, vs1, e1, z1, d1⟩ := f1.there
    have nf := fly_frs f1
    have nL : a ≠ X.env.locals := fun e => nf (List.mem_filterMap.mpr ⟨X.env, by simp, by rw [hf, e]⟩)
    have nF : a ∉ X.fs := fun hm => by
      obtain ⟨ev, h1, h2⟩ := List.mem_filterMap.mp hm
      exact nf (List.mem_filterMap.mpr ⟨ev, by simp [h1], h2⟩)
    have S1 := J1.suite e1 d1 na nL nF
    refine wpAny_handleBy_cons (codeAny_handlers_test ?_) (fun q => by cases q)
    have lt : PySem.W.Looks (model X.prog X.w) h1 (typeOf (.ref a)) cls := fun A Q E s k q => wpAny_typeOf_ref (k _ _ e1) (by rw [z1.1]; exact q)
    have lm := PySem.W.exm_one (M := model X.prog X.w) J1.kIn lt hm
    have sees : ∀ {Q : Value → Shared → Prop} {E : Value → Shared → Prop}, Q k { t with heap := h1 } → wpAny (model X.prog X.w) (X.A.mark (some (.ref a))) (eval (.Name x np) X.env) Q E { t with heap := h1 } := fun {Q E} q => by
      obtain ⟨g1, g2, g3 | ⟨g3, g4, g5⟩⟩ := hk
      · exact ld_glob (X := X.suite a ((a, o1) :: (X.pn ++ pins))) S1 g1 g3 q g2
      · exact ld_blt (X := X.suite a ((a, o1) :: (X.pn ++ pins))) S1 g1 g3 g4 q g5 g2
    refine sees (lm.here (codeAny_handlers_suite_as (HandSPX.lands_againZ f1 fun h2 f2 u2 => ?_)))
    have J2 : Inv X pins σ1 G { t with heap := h2 } := J.landed nb f2.1 ((up.trans u1).trans u2) os ag
    obtain ⟨o2, vs2, e2, z2, d2⟩ := f2.there
    have S2 := J2.suite e2 d2 na nL nF
    refine store_ok (X := X.suite a ((a, o2) :: (X.pn ++ pins))) (v := .ref a) S2 hN hi (.inl hl) rfl (fun s5 S5 => ?_) (.inr hl)
    refine wpAny_mono ((hu a o2 cls d (X.pn ++ pins) z2 ⟨_, d2⟩).run [] s5 _ G _ S5 (yes a na)) (fun fl s6 z => ?_) fun _ _ z => z.elim
    cases fl with
    | next =>
      obtain ⟨σ6, G6, S6, q6⟩ := z
      have g0 : sI.heap.get? a = none := by
        cases e : sI.heap.get? a with
        | none => rfl
        | some o => exact absurd ((nb a o e (by rw [show (X.tr (X.pn ++ pins) _).stack = X.env :: X.outer from hs]; exact nf)).symm.trans (fly_none f1)) (by simp)
      have K6 : Inv X ((a, o2) :: pins) σ6 G6 s6 := (S6.unsuite ok).pins_of fun p hp => by
        rcases List.mem_cons.mp hp with rfl | hp
        · exact S6.pin (a, o2) (by simp [Cx.suite])
        · exact (S6.unsuite ok).pin p (List.mem_append_right _ hp)
      refine gone_ok K6 hN hi hl fun s7 J7 => ⟨_, _, inv_ext J7 ?_ (fun p hp e => ?_) z2 ⟨_, d2⟩, q6⟩
      · cases e : X.s_0.heap.get? a with
        | none => rfl
        | some o =>
          obtain ⟨o', e'⟩ := J.base.there a o e (by rw [hx]; simp)
          rw [g0] at e'; cases e'
      · have w := (J.pin p hp).1
        rw [e, g0] at w; cases w
    | brk => obtain ⟨_, _, _, z⟩ := z; exact z.elim
    | cont => obtain ⟨_, _, _, z⟩ := z; exact z.elim
    | ret u => obtain ⟨_, _, _, _, _, z⟩ := z; exact z.elim
  · cases fl with
    | next =>
      obtain ⟨σ1, G, J, q⟩ := z
      exact wpAny_execs_nil ⟨σ1, G, J.ofTry ok, q⟩
    | brk =>
      obtain ⟨σ1, G, J, q⟩ := z
      exact ⟨σ1, G, J.ofTry ok, q⟩
    | cont =>
      obtain ⟨σ1, G, J, q⟩ := z
      exact ⟨σ1, G, J.ofTry ok, q⟩
    | ret u =>
      obtain ⟨v, σ1, G, J, r, q⟩ := z
      exact ⟨v, σ1, G, J.ofTry ok, r, q⟩
end
end BR

namespace BR
open PySem PySem.Spec PyProof.Rows L2
section
variable {ct : CT} {X : Cx} {x n m : Str} {k : Value} {i j : Nat} {bd : List Stmt} {np p1 p2 p3 p4 pos : Pos} {g : SS}
end
end BR

namespace BR
open PySem PySem.Spec PyProof.Rows L2
/-- sub: is class c one of X's -/
def eIsX (sub : Nat → Bool) (e : EE) : EE := fun σ h => (e σ h).bind fun d h1 => match d with
  | .non => .ok (.bl false) h1
  | .ref n => match h1[n]? with
    | some (.exo c) => .ok (.bl (sub c)) h1
    | _ => .bad
  | _ => .bad
/-- isinstance(x, C): x None, or a thing that was caught -/
def rIsX (K : PySem.W.Frag) (ct : CT) (C : Addr) (sub : Nat → Bool) : List V → Hp → VK → Prop := fun xs H Q => ∃ x : V, xs = [x, .ref C] ∧
  ((x = .non ∧ Q (.bl false) H) ∨ ∃ (a : Addr) (c : Nat), x = .ref a ∧ H a = some (.ext (excF (.ref (ct c).1) none a)) ∧ Q (.bl (sub c)) H)
section
variable {ct : CT} {X : Cx} {C : Addr} {sub : Nat → Bool}
theorem call_isX (hE : ∀ c, ExcC X.K (ct c).1) (hS : ∀ c, PySem.W.kitOne X.K (.ref (ct c).1) (.ref C) = some (sub c)) (hN : PySem.W.kitOne X.K (.type "NoneType") (.ref C) = some false) : CallR X (.builtin "isinstance") (rIsX X.K ct C sub) := by
  intro pins s σ H xs us Q I r h
  obtain ⟨x, rfl, ⟨rfl, q⟩ | ⟨a, c, rfl, ea, q⟩⟩ := h
  · exact call_isi pins s σ H _ us Q I r ⟨.non, .ref C, .type "NoneType", .ref C, false, rfl, .own C, .base .non, hN, q⟩
  · obtain ⟨u1, u2, rfl, r1, r2⟩ := vals2 r
    cases (show u1 = Value.ref a from r1)
    cases (show u2 = Value.ref C from r2)
    have E := hE c
    obtain ⟨⟨oe, hget, ⟨z1, z2, z3⟩, vs, hv⟩, -⟩ := (show ObjOk X.prog X.w H s.heap a (.ext (excF (.ref (ct c).1) none a)) from I.hok a _ ea)
    have J : PySem.W.InstAt s.heap a oe (ct c).1 none := by
      obtain ⟨oc, od, oda, osl⟩ := oe
      dsimp only at z1 z2 hv
      subst z1 z2 hv
      exact ⟨hget, rfl, rfl, trivial⟩
    exact PySem.W.kia_one (PySem.W.handS_kitx_exc E.hg E.hk E.hs E.hd E.ha E.hn E.ht E.hm) I.kIn J (hS c) (fun z => nomatch z) fun tk => ⟨.bl (sub c), H, I.tok tk, rfl, q⟩
variable {fe : EE} {e : Expr} {y : Str} {p p2 pos : Pos}
theorem se_isX (hE : ∀ c, ExcC X.K (ct c).1) (hS : ∀ c, PySem.W.kitOne X.K (.ref (ct c).1) (.ref C) = some (sub c)) (hN : PySem.W.kitOne X.K (.type "NoneType") (.ref C) = some false) (b : Bl X.mg) (h1 : SE ct X e fe) (gy : Gl X y) (my : X.mg y = some (.ref C))
    (hd : (y == ("__debug__" : Str)) = false := by decide) (hg : Gl X "isinstance" := by rfl) (s1 : starEach [e, .Name y p2] X.env = (false, eval e X.env) :: starEach [.Name y p2] X.env := by rfl)
    (s2 : starEach [.Name y p2] X.env = (false, eval (.Name y p2) X.env) :: starEach [] X.env := by rfl) (hpl : (backTo pos (starEach [.Name y p2] X.env)).any (·.1) = false := by rfl) :
    SE ct X (.Call (.Name "isinstance" p) [e, .Name y p2] [] pos) (eIsX sub fe) := by
  have py : PE X (.Name y p2) (tC (.ref C)) := ⟨fun pins s σ H Q I q => ld_glob I gy my ⟨.ref C, H, I, rfl, q⟩ hd⟩
  refine pe_imp (pe_callB (call_isX hE hS hN) hg b.isinstance boot_isinstance (pa_cons h1 (pa_cons py pa_nil s2) s1) (he := s1) (hpl := hpl)) fun σ H Q ⟨w, h, σd, sr, rs, q⟩ => ?_
  refine ⟨w, h, σd, sr, rs, (okR.bind (rel := rV X.K) q).imp fun v H1 ⟨w1, h1, d, st1, sr1, r1, q1⟩ => ?_⟩
  cases d with
  | non => cases (show v = .non from r1); exact ⟨.non, rfl, .inl ⟨rfl, okR.here q1 sr1 rfl⟩⟩
  | ref n =>
    obtain ⟨a, e1, e2⟩ := r1
    subst e1
    dsimp only at q1
    split at q1
    · rename_i c ec
      exact ⟨.ref a, rfl, .inr ⟨a, c, rfl, sr1.ob n _ a ec e2, okR.here q1 sr1 rfl⟩⟩
    · exact q1.elim
  | _ => exact q1.elim
end
end BR

namespace BR
open PySem PySem.Spec PyProof.Rows L2
section
variable {ct : CT} {X : Cx}
end
end BR

namespace BR
open PySem PySem.Spec PyProof.Rows L2
/-- class number i stands under the name y; it is one of ValueError's -/
structure ExcAt (K : PySem.W.Frag) (mg : Str → Option Value) (ct : CT) (i : Nat) (y : Str) : Prop where
  q : PySem.W.excIn K (ct i).1 [.type "ValueError", .type "Exception", .type "BaseException", .type "object"] "ValueError.__new__" = true
  gC : mg y = some (.ref (ct i).1)
  kC : PySem.W.keepIn K (.ref (ct i).1) = true
  hs : PySem.W.subIn K (.ref (ct i).1) (.type "BaseException") = some true
  ht : PySem.W.typeIn K (.ref (ct i).1) = some (.type "type")
/-- by what the kernel sees of the frame -/
theorem excAt {K : PySem.W.Frag} {mg : Str → Option Value} {h : Heap} {ct : CT} {i : Nat} {y : Str} {C : Addr} (X : K.In h) (G : h.Ns mainGlobals mg) (hC : (ct i).1 = C) (a : PySem.W.nsIn K mainGlobals y = some (some (.ref C)))
    (q : PySem.W.excIn K C [.type "ValueError", .type "Exception", .type "BaseException", .type "object"] "ValueError.__new__" = true) (k : PySem.W.keepIn K (.ref C) = true) (s : PySem.W.subIn K (.ref C) (.type "BaseException") = some true)
    (t : PySem.W.typeIn K (.ref C) = some (.type "type")) : ExcAt K mg ct i y := by
  subst hC
  exact ⟨q, PySem.W.mg_of X G a, k, s, t⟩
section
variable {ct : CT} {X : Cx} {Wi : WX} {x m : Str} {j i : Nat} {p p2 pos pos2 : Pos}
theorem qs_rse (E : ExcAt X.K X.mg ct i x) (hc : X.calm = true) (tk : L2N.Takes X Wi) (hg : Gl X x) (hdb : (x == ("__debug__" : Str)) = false := by decide) : QS ct X Wi (.Raise (some (.Call (.Name x p) [.Constant (.str m) j p2] [] pos2)) none pos) (sRaise i) :=
  qs_raise hc tk PySem.F.excBase_ValueError rfl E.q E.gC E.kC (raises_own E.hs E.ht) hg hdb
end
end BR

namespace BR
open PySem PySem.Spec PyProof.Rows L2
def gV (g : EG) : EG := fun d σ h => (g d σ h).only
def eAp1X (g : EF) (f : EE) : EE := fun σ h => (f σ h).bind fun x h1 => (g [x] h1).only
def eAp2X (g : EF) (f k : EE) : EE := fun σ h => (f σ h).bind fun x h1 => (k σ h1).only.bind fun y h2 => (g [x, y] h2).only
section
variable {ct : CT} {X : Cx} {Wi : WX} {e a b tg : Expr} {es : List Expr} {fe fa fb : EE} {ha : EA} {gt : EG} {g : EF} {pos p : Pos} {x : Str}
theorem qe_len (bl : Bl X.mg) (h1 : QE ct X Wi e fe) (hg : Gl X "len" := by rfl) (he : starEach (e :: []) X.env = (false, eval e X.env) :: starEach [] X.env := by rfl) : QE ct X Wi (.Call (.Name "len" p) [e] [] pos) (eAp1X gLen fe) :=
  pe_imp (pe_callB cr_len hg bl.len boot_len (pa_cons h1 pa_nil he) (he := he)) fun σ H Q ⟨w, h, σd, sr, rs, q⟩ =>
    ⟨w, h, σd, sr, rs, (okX.bind (rel := rV X.K) q).imp (fun v H1 ⟨w1, h1, d, st1, sr1, r1, q1⟩ => ⟨w1, h1, [d], sr1, .cons r1 .nil, q1.only⟩) fun _ _ z => z⟩
theorem qe_op {op : Operator} (ho : OpR X (binaryOp op) (r2G X.K ct g)) (h1 : QE ct X Wi a fa) (h2 : SE ct X b fb) : QE ct X Wi (.BinOp a op b pos) (eAp2X g fa fb) :=
  pe_imp (pe_op ho h1 h2) fun σ H Q ⟨w, h, σd, sr, rs, q⟩ =>
    ⟨w, h, σd, sr, rs, (okX.bind (rel := rV X.K) q).imp (fun x H1 ⟨w1, h1, d, st1, sr1, r1, q1⟩ => ⟨w1, h1, σd, sr1, st1.rsg rs, (okX.bindV (rel := rV X.K) q1).imp fun y H2 ⟨w2, h2, d2, st2, sr2, r2, q2⟩ =>
      ⟨w2, h2, [d, d2], sr2, .cons (st2.rd _ _ r1) (.cons r2 .nil), q2.only⟩⟩) fun _ _ z => z⟩
end
section
variable {P : Program} {wd : World} {K : PySem.W.Frag} {mg : Str → Option Value} {base : Heap} {ct : CT}
end
/-- g of positional values, of the keywords' values, of defaults; only g may raise -/
def eApKX (g : EF) (n j : Nat) (a k : EA) (rest : List D) : EE := fun σ h => (a σ h).only.bind fun ds h1 => (k σ h1).only.bind fun es h2 => if ds.length = n ∧ es.length = j then g (ds ++ (es ++ rest)) h2 else .bad
section
variable {ct : CT} {X : Cx} {Wi : WX} {e : Expr} {es : List Expr} {kws : List Keyword} {pos p : Pos} {x : Str} {k j n m nj : Nat} {g : EF} {ha hk : EA} {kj : List Str} {restV : List V} {rest : List D}
end
def rIsT (K : PySem.W.Frag) (ct : CT) (T : String) (sub : Nat → Bool) : List V → Hp → VK → Prop := fun xs H Q => ∃ x : V, xs = [x, .ty T] ∧
  ((x = .non ∧ Q (.bl false) H) ∨ ∃ (a : Addr) (c : Nat), x = .ref a ∧ H a = some (.ext (excF (.ref (ct c).1) none a)) ∧ Q (.bl (sub c)) H)
section
variable {ct : CT} {X : Cx} {T : String} {sub : Nat → Bool}
theorem call_isT (hE : ∀ c, ExcC X.K (ct c).1) (hS : ∀ c, PySem.W.kitOne X.K (.ref (ct c).1) (.type T) = some (sub c)) (hN : PySem.W.kitOne X.K (.type "NoneType") (.type T) = some false) : CallR X (.builtin "isinstance") (rIsT X.K ct T sub) := by
  intro pins s σ H xs us Q I r h
  obtain ⟨x, rfl, ⟨rfl, q⟩ | ⟨a, c, rfl, ea, q⟩⟩ := h
  · exact call_isi pins s σ H _ us Q I r ⟨.non, .ty T, .type "NoneType", .type T, false, rfl, .ty T, .base .non, hN, q⟩
  · obtain ⟨u1, u2, rfl, r1, r2⟩ := vals2 r
    cases (show u1 = Value.ref a from r1)
    cases (show u2 = Value.type T from r2)
    have E := hE c
    obtain ⟨⟨oe, hget, ⟨z1, z2, z3⟩, vs, hv⟩, -⟩ := (show ObjOk X.prog X.w H s.heap a (.ext (excF (.ref (ct c).1) none a)) from I.hok a _ ea)
    have J : PySem.W.InstAt s.heap a oe (ct c).1 none := by
      obtain ⟨oc, od, oda, osl⟩ := oe
      dsimp only at z1 z2 hv
      subst z1 z2 hv
      exact ⟨hget, rfl, rfl, trivial⟩
    exact PySem.W.kia_one (PySem.W.handS_kitx_exc E.hg E.hk E.hs E.hd E.ha E.hn E.ht E.hm) I.kIn J (hS c) (fun z => nomatch z) fun tk => ⟨.bl (sub c), H, I.tok tk, rfl, q⟩
variable {fe : EE} {e : Expr} {y : Str} {p p2 pos : Pos}
theorem se_isT (hE : ∀ c, ExcC X.K (ct c).1) (hS : ∀ c, PySem.W.kitOne X.K (.ref (ct c).1) (.type T) = some (sub c)) (hN : PySem.W.kitOne X.K (.type "NoneType") (.type T) = some false) (b : Bl X.mg) (h1 : SE ct X e fe) (gy : Gl X y) (my : X.mg y = none) (by' : bootBuiltins y = some (.type T))
    (hn : y ≠ "__name__" := by decide) (hd : (y == ("__debug__" : Str)) = false := by decide) (hg : Gl X "isinstance" := by rfl) (s1 : starEach [e, .Name y p2] X.env = (false, eval e X.env) :: starEach [.Name y p2] X.env := by rfl)
    (s2 : starEach [.Name y p2] X.env = (false, eval (.Name y p2) X.env) :: starEach [] X.env := by rfl) (hpl : (backTo pos (starEach [.Name y p2] X.env)).any (·.1) = false := by rfl) :
    SE ct X (.Call (.Name "isinstance" p) [e, .Name y p2] [] pos) (eIsX sub fe) := by
  have py : PE X (.Name y p2) (tC (.ty T)) := pe_tyv my by' gy hn hd
  refine pe_imp (pe_callB (call_isT hE hS hN) hg b.isinstance boot_isinstance (pa_cons h1 (pa_cons py pa_nil s2) s1) (he := s1) (hpl := hpl)) fun σ H Q ⟨w, h, σd, sr, rs, q⟩ => ?_
  refine ⟨w, h, σd, sr, rs, (okR.bind (rel := rV X.K) q).imp fun v H1 ⟨w1, h1, d, st1, sr1, r1, q1⟩ => ?_⟩
  cases d with
  | non => cases (show v = .non from r1); exact ⟨.non, rfl, .inl ⟨rfl, okR.here q1 sr1 rfl⟩⟩
  | ref n =>
    obtain ⟨a, e1, e2⟩ := r1
    subst e1
    dsimp only at q1
    split at q1
    · rename_i c ec
      exact ⟨.ref a, rfl, .inr ⟨a, c, rfl, sr1.ob n _ a ec e2, okR.here q1 sr1 rfl⟩⟩
    · exact q1.elim
  | _ => exact q1.elim
end
theorem boot_VE : bootBuiltins "ValueError" = some (.type "ValueError") := by decide +kernel
end BR

namespace BR
open PySem PySem.Spec PyProof.Rows L2
/-- sub: which classes are caught; others are never raised -/
def sTryS (sub : Nat → Bool) (g : SS) (i j : Nat) : SS := fun σ h => match g σ h with
  | .ok f h' => .ok f h'
  | .exc c _ h' => if sub c = true ∧ i < σ.length ∧ j < σ.length then .ok (.nx ((σ.set i none).set j (some (.ref h'.length)))) (h' ++ [.exo c]) else .bad
  | .bad => .bad
section
variable {ct : CT} {X : Cx} {x n m : Str} {k : Value} {i j : Nat} {bd : List Stmt} {np p1 p2 p3 p4 pos : Pos} {g : SS} {sub : Nat → Bool}
theorem sx_tryS (hs : X.stack = X.env :: X.outer) (hf : X.env.frame = some X.env.locals) (hN : X.N.Nodup) (hi : X.N[i]? = some n) (hl : X.env.kindOf n = some .local) (hk : Names X x k) (hx : X.ex = []) (hij : i ≠ j)
    (hb : ∀ (Wi : WX) (pn : List (Addr × Obj)) (xe : Value → Shared → Prop), L2N.Takes (X.tr pn xe) Wi → PassesOwn (model X.prog X.w) X.A X.env xe → QSs ct (X.tr pn xe) Wi bd g)
    (hc : ∀ c, sub c = true → PySem.W.exmOne X.K (.ref (ct c).1) k = some true)
    (hu : ∀ (a : Addr) (o : Obj) (cls : Value) (d : Option Addr) (pn : List (Addr × Obj)), L2N.Zn cls d o → (∃ vs, o.data = .fields vs) → PS (X.suite a ((a, o) :: pn)) (.Assign [.Name m p2] (.Name n p3) p4) (tAsg (tVar i) (gName j))) :
    SX ct X (.Try bd [.ExceptHandler (some (.Name x np)) (some n) [.Assign [.Name m p2] (.Name n p3) p4] p1] [] [] pos) (sTryS sub g i j) := by
  refine ps_imp (ps_try_keep hs hf hN hi hl hk hx (tb := fun Wi => tSX X.K ct Wi g) (ts := fun _ _ _ => tAsg (tVar i) (gName j)) hb fun a o cls d pn z v => pss_one (hu a o cls d pn z v)) fun D σ H ⟨w, h, σd, sr, rs, q⟩ => ?_
  refine ⟨w, h, σd, sr, rs, ?_⟩
  unfold sTryS at q
  cases e : g σd h with
  | bad => rw [e] at q; exact q.elim
  | ok f h' => rw [e] at q; exact q
  | exc c xs h' =>
    rw [e] at q
    intro w1 H1 st sr1
    by_cases hl2 : sub c = true ∧ i < σd.length ∧ j < σd.length
    · refine ⟨hc c hl2.1, fun a ha => ?_⟩
      simp only [hl2, and_self, if_true] at q
      obtain ⟨_, li, lj⟩ := hl2
      have ls := rs.1
      refine ⟨.ref a, by rw [List.getElem?_set_self (by omega)], ?_⟩
      have stp := st.trans (Step.new (o := .ext (excF (.ref (ct c).1) none a)) sr1 ha)
      refine q ⟨w1.io ++ [a], w1.rs⟩ (upd H1 a (.ext (excF (.ref (ct c).1) none a))) (FlV.nx (((σ.set i (some (.ref a))).set j (some (.ref a))).set i none)) stp (sr1.new ha upd_same) ⟨by simp [ls], fun t d e2 => ?_⟩
      by_cases hj : t = j
      · subst hj
        rw [List.getElem?_set_self (by simpa using lj)] at e2
        cases e2
        refine ⟨.ref a, ?_, a, rfl, ?_⟩
        · rw [List.getElem?_set_ne hij, List.getElem?_set_self (by simp; omega)]
        · show (w1.io ++ [a])[h'.length]? = some a
          rw [List.getElem?_append_right (by rw [sr1.len]; exact Nat.le_refl _), sr1.len, Nat.sub_self]; rfl
      · rw [List.getElem?_set_ne (fun z => hj z.symm)] at e2
        by_cases hi2 : t = i
        · subst hi2
          rw [List.getElem?_set_self li] at e2
          cases e2
        · rw [List.getElem?_set_ne (fun z => hi2 z.symm)] at e2
          obtain ⟨v, v1, v2⟩ := rs.2 t d e2
          refine ⟨v, ?_, stp.rd _ _ v2⟩
          rw [List.getElem?_set_ne (fun z => hi2 z.symm), List.getElem?_set_ne (fun z => hj z.symm), List.getElem?_set_ne (fun z => hi2 z.symm)]
          exact v1
    · simp only [hl2, if_false] at q
      exact q.elim
end
def cn (ps : List Nat) (c : Nat) : Nat := if ps.contains c = true then c else ps.headD 0
def ctP (l : List (Nat × Addr)) : CT := fun c => ((l.lookup c).getD (l.headD (0, 0)).2, [])
def subP (ps : List Nat) (i c : Nat) : Bool := decide (cn ps c = i)
theorem ctP_all {P : Nat → Addr → Prop} {l : List (Nat × Addr)} (h0 : l ≠ []) (h : ∀ p ∈ l, P p.1 p.2) (c : Nat) : P (cn (l.map (·.1)) c) (ctP l c).1 := by
  unfold cn ctP
  cases e : l.lookup c with
  | some a =>
    have hm : (c, a) ∈ l := by
      clear h h0
      induction l with
      | nil => cases e
      | cons p l ih =>
        obtain ⟨x, y⟩ := p
        rw [List.lookup_cons] at e
        by_cases q : c == x
        · rw [q] at e
          have := eq_of_beq q
          subst this
          cases e
          exact List.mem_cons_self
        · have : (c == x) = false := by simpa using q
          rw [this] at e
          exact List.mem_cons_of_mem _ (ih e)
    have : (l.map (·.1)).contains c = true := List.contains_iff_mem.mpr (List.mem_map.mpr ⟨_, hm, rfl⟩)
    rw [if_pos this]
    exact h _ hm
  | none =>
    have : ¬ (l.map (·.1)).contains c = true := fun z => by
      obtain ⟨p, hp, e2⟩ := List.mem_map.mp (List.contains_iff_mem.mp z)
      have : l.lookup c ≠ none := by
        clear e h h0 z
        induction l with
        | nil => cases hp
        | cons q l ih =>
          obtain ⟨x, y⟩ := q
          rw [List.lookup_cons]
          by_cases hx : c == x
          · rw [hx]; simp
          · have h2 : (c == x) = false := by simpa using hx
            rw [h2]
            rcases List.mem_cons.mp hp with r | r
            · exact absurd (by rw [← e2, r]; simp) hx
            · exact ih r
      exact this e
    rw [if_neg this]
    cases l with
    | nil => exact absurd rfl h0
    | cons p l => exact h p List.mem_cons_self
end BR

namespace BR
open PySem PySem.Spec PyProof.Rows L2
/-- need_web: 0 thing; what it raises leaves it -/
noncomputable def f_need_web_x : EF := fnX 1 1
  (sIf (tV (tNot (tB (eAp f_is_web (aCons (eVar 0) aNil))))) (sRaise 0) (sV sNop))
theorem f_need_web_x_bad : ∀ (ds : List D) (h : Hd), ds.length ≠ 1 → f_need_web_x ds h = .bad := fun ds h e => fnX_bad ds h e
end BR

namespace BR
open PySem PySem.Spec PyProof.Rows L2
end BR

namespace BR
open PySem PySem.Spec PyProof.Rows L2
end BR

namespace BR
open PySem PySem.Spec PyProof.Rows L2
section
variable {prog : Program} {w : World} {A : Around} {E : Value → Shared → Prop} {s : Shared}
end
section
variable {X : Cx} {te : TE}
end
theorem RDs.erase {K : PySem.W.Frag} {w : W} {H : Hp} : ∀ {ds : List D} {vs : List V} (k : Nat), RDs K w H ds vs → RDs K w H (ds.eraseIdx k) (vs.eraseIdx k)
  | [], _, _, e => by cases (show _ = [] from e); exact RDs.nil
  | d :: ds, _, 0, ⟨v, r, e, q, t⟩ => by subst e; exact t
  | d :: ds, _, k + 1, ⟨v, r, e, q, t⟩ => by subst e; exact .cons q (RDs.erase k t)
end BR

namespace BR
open PySem PySem.Spec PyProof.Rows L2
section
variable {ct : CT} {X : Cx} {e : Expr} {ha : EA} {p pos : Pos}
end
end BR

namespace BR
open PySem PySem.Spec PyProof.Rows L2
end BR

namespace BR
open PySem PySem.Spec PyProof.Rows L2
/-- own_heap: 0 web, 1 row -/
noncomputable def f_own_heap : EF := fn 1 2
  (sSeq (sEx (eAp f_need_web (aCons (eVar 0) aNil)))
  (sRet (eAp gTuple (aCons (eLc false [1] (iVal (eVar 0)) (gVar 1) tTT (lcOne (eAp2 gSubt (eAp gSum (aCons (eVar 1) aNil)) (eC (.int 2))))) aNil))))
theorem f_own_heap_bad : ∀ (ds : List D) (h : Hd), ds.length ≠ 1 → f_own_heap ds h = .bad := fun ds h e => fn_bad ds h e
end BR

namespace BR
open PySem PySem.Spec PyProof.Rows L2
section
variable {prog : Program} {w : World} {A : Around} {R : Result → Shared → Prop} {s : Shared} {e0 elt t0 i0 i1 : Expr} {gs : List Comprehension} {scope : Scope} {pos : Pos} {ifs0 : List Expr} {m : Nat} {it acc : Value} {env : Env}
/-- a turn, up to what stands behind the tests (P) -/
def TurnTo (prog : Program) (w : World) (A : Around) (R : Result → Shared → Prop) (t0 : Expr) (ifs0 : List Expr) (it : Value) (env : Env) (P : (Shared → Prop) → Shared → Prop) (post : Shared → Prop) (s : Shared) : Prop :=
  wpAny (model prog w) A (pyNext it) (fun r s₁ => match r with
      | none => R (.ok .next) s₁
      | some v => wpAny (model prog w) A (letOwnedTupleGo t0 it v) (fun _ s₁' => wpAny (model prog w) A (assign t0 env v) (fun _ s₂ =>
          wpAny (model prog w) A (forIn ifs0 true fun c r => if r = true then do let ok ← isTrue c env (eval c env); pure (ForInStep.yield ok) else pure (ForInStep.yield r)) (fun ok s₃ =>
            if ok = true then P post s₃ else post s₃) (fun _ _ => False) s₂) (fun _ _ => False) s₁') (fun _ _ => False) s₁) (fun _ _ => False) s
/-- another clause behind -/
def midP (prog : Program) (w : World) (A : Around) (LC i1 : Expr) (m : Nat) (acc : Value) (env : Env) (post : Shared → Prop) (s : Shared) : Prop :=
  wpAny (model prog w) A (eval i1 env) (fun x s₄ => wpAny (model prog w) A (pyIter x) (fun it1 s₅ =>
    codeAny (model prog w) A (.compStart LC m it1 acc env) (fun r s' => match r with
      | .ok _ => post s'
      | .error _ => False) s₅) (fun _ _ => False) s₄) (fun _ _ => False) s
/-- the item itself -/
def lastP (prog : Program) (w : World) (A : Around) (elt : Expr) (acc : Value) (env : Env) (post : Shared → Prop) (s : Shared) : Prop :=
  wpAny (model prog w) A (eval elt env) (fun x s₄ => wpAny (model prog w) A (call (.builtin "list.append") [acc, x]) (fun _ s₅ => post s₅) (fun _ _ => False) s₄) (fun _ _ => False) s
theorem loop_mid (hT : compTurn (.ListComp e0 gs scope pos) m it acc env = (do
      standAt i0.pos
      match ← pyNext it with
      | none => pure (.done .next)
      | some v =>
        letOwnedTupleGo t0 it v
        assign t0 env v
        let mut ok := true
        for c in ifs0 do
          if ok then ok ← isTrue c env (eval c env)
        if ok then
          let x ← eval i1 env
          standAt i1.pos
          let x ← foldedSetIterable i1 env x
          let _ ← runOwn (.compStart (.ListComp e0 gs scope pos) (m + 1) (← holding [x] (pyIter x)) acc env) env
        again (.compLoop (.ListComp e0 gs scope pos) m it acc env)))
    (hs : ∀ x, foldedSetIterable i1 env x = pure x) (I : Nat → Shared → Prop)
    (turn : ∀ n s, I n s → TurnTo prog w A R t0 ifs0 it env (midP prog w A (.ListComp e0 gs scope pos) i1 (m + 1) acc env) (fun s' => ∃ m, m < n ∧ I m s') s) (n : Nat) (h : I n s) :
    codeAny (model prog w) A (.compLoop (.ListComp e0 gs scope pos) m it acc env) R s := by
  refine codeAny_loop rfl I (fun n s hI => ?_) n h
  show wpAny _ A ((compTurn (.ListComp e0 gs scope pos) m it acc env).onRaise (fun x => do noteFrame x env; theTreesLotGoes x)) _ _ s
  refine wpAny_noted ?_
  rw [hT]
  refine wpAny_bind (wpAny_standAt (wpAny_bind (thnF (turn n s hI) fun r s₁ h₁ => ?_)))
  cases r with
  | none => exact wpAny_pure h₁
  | some v =>
    refine wpAny_bind (thnF h₁ fun _ _ h₁' => wpAny_bind (thnF h₁' fun _ s₂ h₂ => wpAny_bind (thnF h₂ fun ok s₃ h₃ => ?_)))
    cases ok with
    | false => exact wpAny_pure ⟨rfl, h₃⟩
    | true =>
      refine wpAny_bind (thnF h₃ fun x s₄ h₄ => wpAny_bind (wpAny_standAt (wpAny_bind (wpAny_of_eq (hs x) (wpAny_bind (wpAny_holding (thnF h₄ fun it1 s₅ h₅ => ?_)))))))
      refine wpAny_bind (wpAny_runOwn ?_)
      rw [Around.mark_none]
      refine codeAny_mono h₅ fun r s' hr => ?_
      cases r with
      | ok f =>
        first
          | exact wpAny_pure ⟨rfl, hr⟩
          | exact wpAny_bind (wpAny_pure (wpAny_pure ⟨rfl, hr⟩))
      | error e => exact hr.elim
theorem loop_last (hT : compTurn (.ListComp e0 gs scope pos) m it acc env = (do
      standAt i0.pos
      match ← pyNext it with
      | none => pure (.done .next)
      | some v =>
        letOwnedTupleGo t0 it v
        assign t0 env v
        let mut ok := true
        for c in ifs0 do
          if ok then ok ← isTrue c env (eval c env)
        if ok then
          (do let _ ← call (.builtin "list.append") [acc, ← eval elt env])
        again (.compLoop (.ListComp e0 gs scope pos) m it acc env))) (I : Nat → Shared → Prop)
    (turn : ∀ n s, I n s → TurnTo prog w A R t0 ifs0 it env (lastP prog w A elt acc env) (fun s' => ∃ m, m < n ∧ I m s') s) (n : Nat) (h : I n s) :
    codeAny (model prog w) A (.compLoop (.ListComp e0 gs scope pos) m it acc env) R s := by
  refine codeAny_loop rfl I (fun n s hI => ?_) n h
  show wpAny _ A ((compTurn (.ListComp e0 gs scope pos) m it acc env).onRaise (fun x => do noteFrame x env; theTreesLotGoes x)) _ _ s
  refine wpAny_noted ?_
  rw [hT]
  refine wpAny_bind (wpAny_standAt (wpAny_bind (thnF (turn n s hI) fun r s₁ h₁ => ?_)))
  cases r with
  | none => exact wpAny_pure h₁
  | some v =>
    refine wpAny_bind (thnF h₁ fun _ _ h₁' => wpAny_bind (thnF h₁' fun _ s₂ h₂ => wpAny_bind (thnF h₂ fun ok s₃ h₃ => ?_)))
    cases ok with
    | false => exact wpAny_pure ⟨rfl, h₃⟩
    | true =>
      exact wpAny_bind (wpAny_bind (thnF h₃ fun x s₄ h₄ => wpAny_bind (thnF h₄ fun _ s₅ h₅ => wpAny_pure (wpAny_pure ⟨rfl, h₅⟩))))
end
section
variable {elt t0 i0 t1 i1 t2 i2 : Expr} {ifs0 ifs1 ifs2 : List Expr} {scope : Scope} {pos : Pos} {it acc : Value} {env : Env}
theorem turn3_0 : compTurn (.ListComp elt [⟨t0, i0, ifs0, 0⟩, ⟨t1, i1, ifs1, 0⟩, ⟨t2, i2, ifs2, 0⟩] scope pos) 0 it acc env = (do
      standAt i0.pos
      match ← pyNext it with
      | none => pure (.done .next)
      | some v =>
        letOwnedTupleGo t0 it v
        assign t0 env v
        let mut ok := true
        for c in ifs0 do
          if ok then ok ← isTrue c env (eval c env)
        if ok then
          let x ← eval i1 env
          standAt i1.pos
          let x ← foldedSetIterable i1 env x
          let _ ← runOwn (.compStart (.ListComp elt [⟨t0, i0, ifs0, 0⟩, ⟨t1, i1, ifs1, 0⟩, ⟨t2, i2, ifs2, 0⟩] scope pos) (0 + 1) (← holding [x] (pyIter x)) acc env) env
        again (.compLoop (.ListComp elt [⟨t0, i0, ifs0, 0⟩, ⟨t1, i1, ifs1, 0⟩, ⟨t2, i2, ifs2, 0⟩] scope pos) 0 it acc env)) := by rfl
theorem turn3_1 : compTurn (.ListComp elt [⟨t0, i0, ifs0, 0⟩, ⟨t1, i1, ifs1, 0⟩, ⟨t2, i2, ifs2, 0⟩] scope pos) 1 it acc env = (do
      standAt i1.pos
      match ← pyNext it with
      | none => pure (.done .next)
      | some v =>
        letOwnedTupleGo t1 it v
        assign t1 env v
        let mut ok := true
        for c in ifs1 do
          if ok then ok ← isTrue c env (eval c env)
        if ok then
          let x ← eval i2 env
          standAt i2.pos
          let x ← foldedSetIterable i2 env x
          let _ ← runOwn (.compStart (.ListComp elt [⟨t0, i0, ifs0, 0⟩, ⟨t1, i1, ifs1, 0⟩, ⟨t2, i2, ifs2, 0⟩] scope pos) (1 + 1) (← holding [x] (pyIter x)) acc env) env
        again (.compLoop (.ListComp elt [⟨t0, i0, ifs0, 0⟩, ⟨t1, i1, ifs1, 0⟩, ⟨t2, i2, ifs2, 0⟩] scope pos) 1 it acc env)) := by rfl
theorem turn3_2 : compTurn (.ListComp elt [⟨t0, i0, ifs0, 0⟩, ⟨t1, i1, ifs1, 0⟩, ⟨t2, i2, ifs2, 0⟩] scope pos) 2 it acc env = (do
      standAt i2.pos
      match ← pyNext it with
      | none => pure (.done .next)
      | some v =>
        letOwnedTupleGo t2 it v
        assign t2 env v
        let mut ok := true
        for c in ifs2 do
          if ok then ok ← isTrue c env (eval c env)
        if ok then
          (do let _ ← call (.builtin "list.append") [acc, ← eval elt env])
        again (.compLoop (.ListComp elt [⟨t0, i0, ifs0, 0⟩, ⟨t1, i1, ifs1, 0⟩, ⟨t2, i2, ifs2, 0⟩] scope pos) 2 it acc env)) := by rfl
end
/-- what P does from slots σ: N holds of the heap at its end, the slots as they were but for us -/
def RJ (Y : Cx) (us : List Nat) (P : (Shared → Prop) → Shared → Prop) (T : L2.St → Hp → (Hp → Prop) → Prop) : Prop :=
  ∀ (pins : List (Addr × Obj)) (s : Shared) (σ : L2.St) (H : Hp) (N : Hp → Prop) (post : Shared → Prop), Inv Y pins σ H s → T σ H N → (∀ s' H', Inv Y pins (L2.wipe σ us) H' s' → N H' → post s') → P post s
def TL (te : TE) (D : Addr) : L2.St → Hp → (Hp → Prop) → Prop := fun σ H N => te σ H fun y H7 => ∃ acc, H7 D = some (.lst acc) ∧ acc.length < sizeLine ∧ N (upd H7 D (.lst (acc ++ [y])))
def TM3 (wi1 : TI) (g1 : TG) (tt1 : TT) (us1 : List Nat) (T : L2.St → Hp → (Hp → Prop) → Prop) : L2.St → Hp → (Hp → Prop) → Prop := fun σ H N => wi1 σ H fun J1 H4 => ∃ W1 : Nat → Nat → Hp → Prop, (∃ m, W1 0 m H4) ∧ ∀ j k H, W1 j k H →
      (J1.stop j H ∧ N H) ∨ (J1.go j H ∧ ∃ Nx1 : Hp → Prop, (∀ H', Nx1 H' → ∃ k', k' < k ∧ W1 (j + 1) k' H') ∧ ∀ x H', J1.yld j H x H' → g1 x (L2.wipe σ us1) H' fun σ3 H5 => L2.wipe σ3 us1 = L2.wipe σ us1 ∧ tt1 σ3 H5 fun b H6 =>
        if b = true then T σ3 H6 Nx1 else Nx1 H6)
section
variable {Y : Cx} {us us1 : List Nat} {D : Addr}
theorem rj_last {elt : Expr} {te : TE} (hx : Y.xe = fun _ _ => False) (he : PE Y elt te) : RJ Y [] (lastP Y.prog Y.w Y.A elt (.ref D) Y.env) (TL te D) := by
  intro pins s σ H N post I t hp
  have h := he.run pins s σ H _ I t
  rw [hx] at h
  exact thnF h fun z s' ⟨yv, H', I', r', acc, hD, hz, nx⟩ => app_ok I' hD hz r' fun s18 I18 => hp s18 _ I18 nx
theorem rj_mid {P : (Shared → Prop) → Shared → Prop} {T : L2.St → Hp → (Hp → Prop) → Prop} {LC t1 i1 : Expr} {ifs1 : List Expr} {m : Nat} {wi1 : TI} {g1 : TG} {tt1 : TT} (hc : Y.calm = true) (hx : Y.xe = fun _ _ => False) (r : RJ Y us P T) (hsub : ∀ i ∈ us, i ∈ us1) (hi1 : PI Y t1 i1 wi1) (hg1 : PG Y t1 g1) (ht1 : PTs Y ifs1 tt1)
    (hloop : ∀ (it : Value) (R : Result → Shared → Prop) (I : Nat → Shared → Prop), (∀ n s, I n s → TurnTo Y.prog Y.w Y.A R t1 ifs1 it Y.env P (fun s' => ∃ m, m < n ∧ I m s') s) → ∀ n s, I n s → codeAny (model Y.prog Y.w) Y.A (.compLoop LC m it (.ref D) Y.env) R s)
    (hstart : ∀ (it : Value) (R : Result → Shared → Prop) s, codeAny (model Y.prog Y.w) Y.A (.compLoop LC m it (.ref D) Y.env) R s →
      wpAny (model Y.prog Y.w) Y.A (pyIter it) (fun it' s' => codeAny (model Y.prog Y.w) Y.A (.compLoop LC m it' (.ref D) Y.env) R s') (fun _ _ => False) s → codeAny (model Y.prog Y.w) Y.A (.compStart LC m it (.ref D) Y.env) R s) :
    RJ Y us1 (midP Y.prog Y.w Y.A LC i1 m (.ref D) Y.env) (TM3 wi1 g1 tt1 us1 T) := by
  intro pins s σ H N post I t hp
  have h := hi1.run pins s σ H _ I t
  rw [hx] at h
  refine thnF h fun xv s10 hx' => thnF hx' fun itv s11 h11 => ?_
  obtain ⟨it1, fp1, tn1, J1, H11, e1, I11, T1, st11, f11, W1, ⟨m1, w1⟩, turn1⟩ := h11
  subst e1
  have stat1 : ∀ {H' : Hp}, (∀ b ∈ fp1, H' b = none) → ∀ b ∈ fp1, FpOk Y pins H' b := fun hn b hb => ⟨hn b hb, (f11 b hb).2⟩
  have loop1 : codeAny (model Y.prog Y.w) Y.A (.compLoop LC m (.ref it1) (.ref D) Y.env)
      (fun r s' => match r with
        | .ok _ => post s'
        | .error _ => False) s11 := by
    refine hloop (.ref it1) _ (fun k s' => ∃ j H', Inv Y pins (L2.wipe σ us1) H' s' ∧ tn1 j s'.heap ∧ (∀ b ∈ fp1, H' b = none) ∧ W1 j k H') ?_ m1 s11 ⟨0, H11, I11.weak (wipe_length _ _) (fun j v e => (wipe_some e).1), st11, fun b hb => (f11 b hb).1, w1⟩
    rintro k s12 ⟨j, H12, I12, st12, n12, w12⟩
    rcases turn1 j k H12 w12 with ⟨stop1, nx1⟩ | ⟨go1, Nx1, hNx1, step1⟩
    · refine thnF (T1.done Y rfl rfl rfl hc j _ s12 (L2.wipe σ us1) H12 (fun _ _ => False) I12 (stat1 n12) st12 stop1) fun r s13 ⟨hr, I13⟩ => ?_
      subst hr
      exact hp s13 _ I13 nx1
    · refine thnF (T1.item Y rfl rfl rfl hc j _ s12 (L2.wipe σ us1) H12 (fun _ _ => False) I12 (stat1 n12) st12 go1) fun rr s13 ⟨u1, hr, h13⟩ => ?_
      subst hr
      refine thnF h13 fun _ s14 ⟨x1, H14, I14, r14, y14, st14, n14⟩ => ?_
      have I14' := I14.pinned (stat1 n14) (T1.obj _ _ st14)
      have hg := hg1.run _ s14 (L2.wipe σ us1) H14 x1 u1 _ I14' r14 (step1 x1 H14 y14)
      rw [hx] at hg
      refine thnF hg fun _ s15 ⟨σ15, H15, I15, hw15, q15⟩ => ?_
      have ht := ht1.run _ s15 σ15 H15 _ I15 q15
      rw [hx] at ht
      refine thnF ht fun b1 s16 ⟨H16, I16, q16⟩ => ?_
      have fin1 : ∀ {σ' : L2.St} {s' : Shared} {H' : Hp}, Inv Y (pins ++ pinsAt fp1 s14.heap) σ' H' s' → (L2.wipe σ us1).length = σ'.length → (∀ (j : Nat) v, (L2.wipe σ us1)[j]? = some (some v) → σ'[j]? = some (some v)) → Nx1 H' → ∃ m, m < k ∧ ∃ j H', Inv Y pins (L2.wipe σ us1) H' s' ∧ tn1 j s'.heap ∧ (∀ b ∈ fp1, H' b = none) ∧ W1 j m H' := fun {σ' s' H'} I' hl hk nx => by
        obtain ⟨m', hm, w'⟩ := hNx1 H' nx
        have pin' : ∀ b ∈ fp1, ∀ o, s14.heap.get? b = some o → s'.heap.get? b = some o ∧ H' b = none := fun b hb o e =>
          let z := I'.pin (b, o) (List.mem_append_right _ (List.mem_append_right _ (mem_pinsAt hb e)))
          ⟨z.1, z.2.1⟩
        refine ⟨m', hm, j + 1, H', I'.unpinned.weak hl hk, T1.keep _ _ _ st14 fun b hb o e => (pin' b hb o e).1, fun b hb => ?_, w'⟩
        obtain ⟨o, e, _⟩ := T1.obj _ _ st14 b hb
        exact (pin' b hb o e).2
      have hl15 : (L2.wipe σ us1).length = σ15.length := by rw [← hw15, wipe_length]
      have hk15 : ∀ (j : Nat) v, (L2.wipe σ us1)[j]? = some (some v) → σ15[j]? = some (some v) := fun j v e => by rw [← hw15] at e; exact (wipe_some e).1
      cases b1 with
      | false =>
        simp only [Bool.false_eq_true, if_false] at q16 ⊢
        exact fin1 I16 hl15 hk15 q16
      | true =>
        simp only [if_true] at q16 ⊢
        refine r _ s16 σ15 H16 Nx1 _ I16 q16 fun s' H' I' nx => fin1 I' (hl15.trans (wipe_length σ15 us).symm) (fun j v e => ?_) nx
        rw [← hw15] at e
        obtain ⟨e1, e2⟩ := wipe_some e
        rw [wipe_out fun z => e2 (hsub j z)]
        exact e1
  exact hstart _ _ _ loop1 (T1.self Y.A 0 _ _ _ st11 loop1)
end
section
variable {prog : Program} {w : World} {A : Around} {R : Result → Shared → Prop} {s : Shared} {elt tg iter tg1 iter1 tg2 iter2 : Expr} {ifs ifs1 ifs2 : List Expr} {scope : Scope} {pos : Pos} {it acc : Value} {env : Env}
theorem start3_1 (h0 : codeAny (model prog w) A (.compLoop (.ListComp elt [⟨tg, iter, ifs, 0⟩, ⟨tg1, iter1, ifs1, 0⟩, ⟨tg2, iter2, ifs2, 0⟩] scope pos) 1 it acc env) R s)
    (h : wpAny (model prog w) A (pyIter it) (fun it' s' => codeAny (model prog w) A (.compLoop (.ListComp elt [⟨tg, iter, ifs, 0⟩, ⟨tg1, iter1, ifs1, 0⟩, ⟨tg2, iter2, ifs2, 0⟩] scope pos) 1 it' acc env) R s') (fun _ _ => False) s) :
    codeAny (model prog w) A (.compStart (.ListComp elt [⟨tg, iter, ifs, 0⟩, ⟨tg1, iter1, ifs1, 0⟩, ⟨tg2, iter2, ifs2, 0⟩] scope pos) 1 it acc env) R s := by
  refine codeAny_of_tree ?_
  show wpAny _ _ ((compStart (.ListComp elt [⟨tg, iter, ifs, 0⟩, ⟨tg1, iter1, ifs1, 0⟩, ⟨tg2, iter2, ifs2, 0⟩] scope pos) 1 it acc env).onRaise (fun x => do noteFrame x env; standAt theWindowsPlace)) _ _ s
  refine wpAny_notedAt ?_
  unfold compStart
  show wpAny _ _ (ask >>= _) _ _ s
  refine wpAny_bind (wpAny_askSetting (wpAny_ite ?_))
  split
  · first
      | exact wpAny_bind (wpAny_pure (wpAny_pure (And.intro rfl h0)))
      | exact wpAny_pure (And.intro rfl h0)
  · refine wpAny_bind (wpAny_rule ?_)
    first
      | exact wpAny_bind (wpAny_standAt (wpAny_bind (thnF h fun it' s' h' => wpAny_pure (And.intro rfl h'))))
      | (show wpAny _ _ (standAt iter1.pos >>= _) _ _ s; exact wpAny_bind (wpAny_standAt (wpAny_bind (thnF h fun it' s' h' => wpAny_pure (And.intro rfl h')))))
theorem start3_2 (h0 : codeAny (model prog w) A (.compLoop (.ListComp elt [⟨tg, iter, ifs, 0⟩, ⟨tg1, iter1, ifs1, 0⟩, ⟨tg2, iter2, ifs2, 0⟩] scope pos) 2 it acc env) R s)
    (h : wpAny (model prog w) A (pyIter it) (fun it' s' => codeAny (model prog w) A (.compLoop (.ListComp elt [⟨tg, iter, ifs, 0⟩, ⟨tg1, iter1, ifs1, 0⟩, ⟨tg2, iter2, ifs2, 0⟩] scope pos) 2 it' acc env) R s') (fun _ _ => False) s) :
    codeAny (model prog w) A (.compStart (.ListComp elt [⟨tg, iter, ifs, 0⟩, ⟨tg1, iter1, ifs1, 0⟩, ⟨tg2, iter2, ifs2, 0⟩] scope pos) 2 it acc env) R s := by
  refine codeAny_of_tree ?_
  show wpAny _ _ ((compStart (.ListComp elt [⟨tg, iter, ifs, 0⟩, ⟨tg1, iter1, ifs1, 0⟩, ⟨tg2, iter2, ifs2, 0⟩] scope pos) 2 it acc env).onRaise (fun x => do noteFrame x env; standAt theWindowsPlace)) _ _ s
  refine wpAny_notedAt ?_
  unfold compStart
  show wpAny _ _ (ask >>= _) _ _ s
  refine wpAny_bind (wpAny_askSetting (wpAny_ite ?_))
  split
  · first
      | exact wpAny_bind (wpAny_pure (wpAny_pure (And.intro rfl h0)))
      | exact wpAny_pure (And.intro rfl h0)
  · refine wpAny_bind (wpAny_rule ?_)
    first
      | exact wpAny_bind (wpAny_standAt (wpAny_bind (thnF h fun it' s' h' => wpAny_pure (And.intro rfl h'))))
      | (show wpAny _ _ (standAt iter2.pos >>= _) _ _ s; exact wpAny_bind (wpAny_standAt (wpAny_bind (thnF h fun it' s' h' => wpAny_pure (And.intro rfl h')))))
end
section
variable {X : Cx}
def tLc3 (wi : TI) (g : TG) (tt : TT) (wi1 : TI) (g1 : TG) (tt1 : TT) (wi2 : TI) (g2 : TG) (tt2 : TT) (te : TE) (vs vs1 vs2 : List Nat) : TE := fun σ H Q => wi σ H fun J H1 => ∀ D, H1 D = none → ∃ W : Nat → Nat → Hp → Prop, (∃ m, W 0 m (upd H1 D (.lst []))) ∧ ∀ i m H, W i m H →
  (J.stop i H ∧ Q (.ref D) H) ∨ (J.go i H ∧ ∃ Nx : Hp → Prop, (∀ H', Nx H' → ∃ m', m' < m ∧ W (i + 1) m' H') ∧ ∀ x H', J.yld i H x H' → g x (L2.wipe σ vs) H' fun σ2 H2 => L2.wipe σ2 vs = L2.wipe σ vs ∧ tt σ2 H2 fun b H3 =>
    if b = true then TM3 wi1 g1 tt1 vs1 (TM3 wi2 g2 tt2 vs2 (TL te D)) σ2 H3 Nx else Nx H3)
theorem lc3_core {pins : List (Addr × Obj)} {s : Shared} {σ : L2.St} {H : Hp} {Q : VK} {elt tg iter tg1 iter1 tg2 iter2 : Expr} {ifs ifs1 ifs2 : List Expr} {scope : Scope} {own : List (Str × Nat)} {vs1 vs2 : List Nat} {pos pos' : Pos} {wi wi1 wi2 : TI} {g g1 g2 : TG} {tt tt1 tt2 : TT} {te : TE} {use : Option (Value → Sem Unit)} {Qf : Value → Shared → Prop}
    (hc : X.calm = true) (hN : X.N.Nodup) (I : Inv X pins σ H s) (hi : PI X tg iter wi) (ok : BlkOk X.N X.env.scope scope own) (hv : ∀ i ∈ vs1, i ∈ own.map (·.2)) (hv2 : ∀ i ∈ vs2, i ∈ vs1)
    (hg : ∀ (s : Shared) (H : Hp) (C : Addr) (cl : List (Str × Addr)) (fp : List Addr), PG (X.blk s H scope (compEnvC scope cl C X.env) fp) tg g) (ht : ∀ (s : Shared) (H : Hp) (C : Addr) (cl : List (Str × Addr)) (fp : List Addr), PTs (X.blk s H scope (compEnvC scope cl C X.env) fp) ifs tt)
    (he : ∀ (s : Shared) (H : Hp) (C : Addr) (cl : List (Str × Addr)) (fp : List Addr), PE (X.blk s H scope (compEnvC scope cl C X.env) fp) elt te) (hs : ∀ x, foldedSetIterable iter X.env x = pure x)
    (hi1 : ∀ (s : Shared) (H : Hp) (C : Addr) (cl : List (Str × Addr)) (fp : List Addr), PI (X.blk s H scope (compEnvC scope cl C X.env) fp) tg1 iter1 wi1) (hg1 : ∀ (s : Shared) (H : Hp) (C : Addr) (cl : List (Str × Addr)) (fp : List Addr), PG (X.blk s H scope (compEnvC scope cl C X.env) fp) tg1 g1) (ht1 : ∀ (s : Shared) (H : Hp) (C : Addr) (cl : List (Str × Addr)) (fp : List Addr), PTs (X.blk s H scope (compEnvC scope cl C X.env) fp) ifs1 tt1) (hs1 : ∀ env x, foldedSetIterable iter1 env x = pure x)
    (hi2 : ∀ (s : Shared) (H : Hp) (C : Addr) (cl : List (Str × Addr)) (fp : List Addr), PI (X.blk s H scope (compEnvC scope cl C X.env) fp) tg2 iter2 wi2) (hg2 : ∀ (s : Shared) (H : Hp) (C : Addr) (cl : List (Str × Addr)) (fp : List Addr), PG (X.blk s H scope (compEnvC scope cl C X.env) fp) tg2 g2) (ht2 : ∀ (s : Shared) (H : Hp) (C : Addr) (cl : List (Str × Addr)) (fp : List Addr), PTs (X.blk s H scope (compEnvC scope cl C X.env) fp) ifs2 tt2) (hs2 : ∀ env x, foldedSetIterable iter2 env x = pure x)
    (h : tLc3 wi g tt wi1 g1 tt1 wi2 g2 tt2 te (own.map (·.2)) vs1 vs2 σ H Q)
    (hRR : ∀ D C s' m H', Inv X pins σ H' s' → Q (.ref D) H' → s'.heap.Ns C m → FpOk X pins H' C → compPost (model X.prog X.w) X.A X.xe use Qf (.ref D) C (.ok .next) s') :
    wpAny (model X.prog X.w) X.A (comprehension (.ListComp elt [⟨tg, iter, ifs, 0⟩, ⟨tg1, iter1, ifs1, 0⟩, ⟨tg2, iter2, ifs2, 0⟩] scope pos) scope X.env pos' (newList []) false (eval iter X.env) use) Qf X.xe s := by
  have hfree : ∀ y ∈ scope.names, y.2 = .free → ∃ c, X.env.cells.lookup y.1 = some c := fun y hy e => (ok.free y hy e).elim (fun k => I.ok.has _ (.inl k)) fun k => I.ok.has _ (.inr k)
  refine wpAny_comprehension_free (use := use) rfl hs (closure_ok hfree) ok.kind (fun y hy e => by rw [ok.uniq y hy, e])
    (thn (hi.run pins s σ H _ I h) fun xv s1 hx => thn hx fun itv s2 h2 => ?_)
  obtain ⟨it, fp, tn, J, H2, e, I2, T, st2, f2, q⟩ := h2
  subst e
  refine wpAny_newObj_type (newEnv_comp ?_) (by show 0 ≤ sizeLine; decide)
  generalize hD : s2.heap.objs.size = D
  have hDn : H2 D = none := I2.hok.fresh (Nat.le_of_eq hD)
  obtain ⟨W, ⟨m0, w0⟩, turn⟩ := q D hDn
  generalize hs3 : ({ s2 with heap := s2.heap.push { cls := .type "list", data := .seq ([] : List Value).toArray } } : Shared) = s3
  have I3 : Inv X pins σ (upd H2 D (.lst [])) s3 := by
    rw [← hs3]
    refine I2.laid (t' := s2.toks) (fun b o e => Heap.get?_push_of_some _ e) (Nat.le_of_eq hD) ⟨Nat.zero_le _, [], 0, .nil, ?_⟩
    rw [← hD]
    exact Heap.get?_push_size _ rfl
  have h3 : s3.heap = s2.heap.push { cls := .type "list", data := .seq ([] : List Value).toArray } := by rw [← hs3]
  have sz : ∀ b ∈ fp, b < s2.heap.objs.size := fun b hb => by
    obtain ⟨o, e, _⟩ := T.obj _ _ st2 b hb
    exact Heap.lt_size e
  have f3 : ∀ b ∈ fp, FpOk X pins (upd H2 D (.lst [])) b ∧ b < s3.heap.objs.size := fun b hb => by
    have hlt := sz b hb
    refine ⟨⟨?_, (f2 b hb).2⟩, by rw [h3, Heap.size_push]; exact Nat.lt_succ_of_lt hlt⟩
    rw [upd_ne (by rw [← hD]; exact Nat.ne_of_lt hlt)]
    exact (f2 b hb).1
  have st3 : tn 0 s3.heap := T.keep _ _ _ st2 fun b _ o e => by rw [h3]; exact Heap.get?_push_of_some _ e
  have I4 := block_start I3 ok hN f3
  show codeAny _ _ (.compStart (.ListComp elt [⟨tg, iter, ifs, 0⟩, ⟨tg1, iter1, ifs1, 0⟩, ⟨tg2, iter2, ifs2, 0⟩] scope pos) 0 (.ref it) (.ref D) (compEnvC scope (cellsFrom (s3.heap.objs.size + 1) scope.names (cloFrom X.env.cells scope.names [])) s3.heap.objs.size X.env)) (compPost (model X.prog X.w) X.A X.xe use Qf (.ref D) s3.heap.objs.size) { s3 with heap := pushCells (s3.heap.push { cls := .type "dict", data := .dict #[] }) scope.names }
  have nfp : ∀ b ∈ fp, (upd H2 D (.lst [])) b = none := fun b hb => (f3 b hb).1.1
  generalize hC : s3.heap.objs.size = C at I4 f3 ⊢
  generalize hcl : cellsFrom (C + 1) scope.names (cloFrom X.env.cells scope.names []) = cl at I4 ⊢
  generalize hH3 : upd H2 D (.lst []) = H3 at I3 I4 w0 nfp f3
  have pg := hg s3 H3 C cl fp
  have pt := ht s3 H3 C cl fp
  have rr : RJ (X.blk s3 H3 scope (compEnvC scope cl C X.env) fp) vs1 (midP X.prog X.w X.A (.ListComp elt [⟨tg, iter, ifs, 0⟩, ⟨tg1, iter1, ifs1, 0⟩, ⟨tg2, iter2, ifs2, 0⟩] scope pos) iter1 1 (.ref D) (compEnvC scope cl C X.env)) (TM3 wi1 g1 tt1 vs1 (TM3 wi2 g2 tt2 vs2 (TL te D))) :=
    rj_mid (Y := X.blk s3 H3 scope (compEnvC scope cl C X.env) fp) hc rfl
      (rj_mid (Y := X.blk s3 H3 scope (compEnvC scope cl C X.env) fp) (LC := (.ListComp elt [⟨tg, iter, ifs, 0⟩, ⟨tg1, iter1, ifs1, 0⟩, ⟨tg2, iter2, ifs2, 0⟩] scope pos)) (m := 2) hc rfl (rj_last (Y := X.blk s3 H3 scope (compEnvC scope cl C X.env) fp) rfl (he s3 H3 C cl fp)) (fun i h => nomatch h) (hi2 s3 H3 C cl fp) (hg2 s3 H3 C cl fp) (ht2 s3 H3 C cl fp)
        (fun it R I tr n s hI => loop_last turn3_2 I tr n hI) fun it R s a b => start3_2 a b)
      hv2 (hi1 s3 H3 C cl fp) (hg1 s3 H3 C cl fp) (ht1 s3 H3 C cl fp)
      (fun it R I tr n s hI => loop_mid turn3_1 (hs2 _) I tr n hI) fun it R s a b => start3_1 a b
  generalize hce : compEnvC scope cl C X.env = ce at I4 pg pt rr ⊢
  have cL : ce.locals = C := by subst hce; rfl
  generalize hs4 : ({ s3 with heap := pushCells (s3.heap.push { cls := .type "dict", data := .dict #[] }) scope.names } : Shared) = s4 at I4 ⊢
  have st4 : tn 0 s4.heap := T.keep _ _ _ st3 fun b _ o e => by rw [← hs4]; exact pushCells_keeps _ _ _ _ (Heap.get?_push_of_some _ e)
  have stat : ∀ {σ' : L2.St} {H' : Hp} {s' : Shared}, Inv (X.blk s3 H3 scope ce fp) [] σ' H' s' → (∀ b ∈ fp, H' b = none) → ∀ b ∈ fp, FpOk (X.blk s3 H3 scope ce fp) [] H' b := fun {σ' H' s'} I' hn b hb =>
    ⟨hn b hb, (I'.ok.exf b hb).1, I'.ok.exfs b hb, .inl hb, fun x c e => (I'.ok.exf b hb).2 x c e, fun p hp => absurd (show p ∈ ([] : List (Addr × Obj)) ++ [] from hp) (by simp)⟩
  have loop : codeAny (model X.prog X.w) X.A (.compLoop (.ListComp elt [⟨tg, iter, ifs, 0⟩, ⟨tg1, iter1, ifs1, 0⟩, ⟨tg2, iter2, ifs2, 0⟩] scope pos) 0 (.ref it) (.ref D) ce) (compPost (model X.prog X.w) X.A X.xe use Qf (.ref D) C) s4 := by
    refine loop_mid turn3_0 (hs1 ce) (fun n s' => ∃ i H', Inv (X.blk s3 H3 scope ce fp) [] (L2.wipe σ (own.map (·.2))) H' s' ∧ tn i s'.heap ∧ (∀ b ∈ fp, H' b = none) ∧ W i n H') ?_ m0 ⟨0, H3, I4, st4, nfp, w0⟩
    rintro n s5 ⟨i, H5, I5, st5, n5, w5⟩
    rcases turn i n H5 w5 with ⟨stop, qq⟩ | ⟨go, Nx, hNx, step⟩
    · refine thnF (T.done (X.blk s3 H3 scope ce fp) rfl rfl rfl hc i [] s5 _ H5 (fun _ _ => False) I5 (stat I5 n5) st5 stop) fun r s6 ⟨hr, I6⟩ => ?_
      subst hr
      have I7 : Inv X pins σ H5 s6 := I3.call' (ch := fp) I6.os I6.base I6.hok I6.bare fun b hb => ⟨(f3 b hb).1.2.2.2.1, (f3 b hb).1.2.1, (f3 b hb).1.2.2.2.2.1, (f3 b hb).1.2.2.2.2.2⟩
      have nC : H5 C = none := by
        have z : H5 ce.locals = none := I6.free
        rw [cL] at z
        exact z
      obtain ⟨m, hn, _⟩ := I6.loc
      have hn : s6.heap.Ns ce.locals m := hn
      rw [cL] at hn
      exact hRR D C s6 m H5 I7 qq hn (I3.fpOk (Nat.le_of_eq hC) nC)
    · refine thnF (T.item (X.blk s3 H3 scope ce fp) rfl rfl rfl hc i [] s5 _ H5 (fun _ _ => False) I5 (stat I5 n5) st5 go) fun r s6 ⟨u, hr, h6⟩ => ?_
      subst hr
      refine thnF h6 fun _ s7 ⟨x, H7, I7, r7, y7, st7, n7⟩ => ?_
      have I7' := I7.pinned (stat I7 n7) (T.obj _ _ st7)
      refine thnF (pg.run _ s7 _ H7 x u _ I7' r7 (step x H7 y7)) fun _ s8 ⟨σ8, H8, I8, hw8, q8⟩ => ?_
      refine thnF (pt.run _ s8 σ8 H8 _ I8 q8) fun b s9 ⟨H9, I9, q9⟩ => ?_
      have fin : ∀ {σ9 : L2.St} {s' : Shared} {H' : Hp}, Inv (X.blk s3 H3 scope ce fp) ([] ++ pinsAt fp s7.heap) σ9 H' s' → (L2.wipe σ (own.map (·.2))).length = σ9.length → (∀ (j : Nat) v, (L2.wipe σ (own.map (·.2)))[j]? = some (some v) → σ9[j]? = some (some v)) → Nx H' →
          ∃ m, m < n ∧ ∃ i H', Inv (X.blk s3 H3 scope ce fp) [] (L2.wipe σ (own.map (·.2))) H' s' ∧ tn i s'.heap ∧ (∀ b ∈ fp, H' b = none) ∧ W i m H' := fun {σ9 s' H'} I' hl hk nx => by
        obtain ⟨m', hm, w'⟩ := hNx H' nx
        have pin' : ∀ b ∈ fp, ∀ o, s7.heap.get? b = some o → s'.heap.get? b = some o ∧ H' b = none := fun b hb o e =>
          let z := I'.pin (b, o) (List.mem_append_right _ (List.mem_append_right _ (mem_pinsAt hb e)))
          ⟨z.1, z.2.1⟩
        refine ⟨m', hm, i + 1, H', (I'.unpinned (pins := [])).weak hl hk, T.keep _ _ _ st7 fun b hb o e => (pin' b hb o e).1, fun b hb => ?_, w'⟩
        obtain ⟨o, e, _⟩ := T.obj _ _ st7 b hb
        exact (pin' b hb o e).2
      have hl8 : (L2.wipe σ (own.map (·.2))).length = σ8.length := by rw [← hw8, wipe_length]
      cases b with
      | false =>
        simp only [Bool.false_eq_true, if_false] at q9 ⊢
        exact fin I9 hl8 (fun j v e => by rw [← hw8] at e; exact (wipe_some e).1) q9
      | true =>
        simp only [if_true] at q9 ⊢
        refine rr _ s9 σ8 H9 Nx _ I9 q9 fun s' H' I' nx => fin I' (hl8.trans (wipe_length σ8 vs1).symm) (fun j v e => ?_) nx
        rw [← hw8] at e
        obtain ⟨e1, e2⟩ := wipe_some e
        rw [wipe_out fun z => e2 (hv j z)]
        exact e1
  exact codeAny_compStart_list loop (T.self X.A 0 _ _ _ st4 loop)
end
end BR

namespace BR
open PySem PySem.Spec PyProof.Rows L2
section
variable {K : PySem.W.Frag} {ct : CT} {w1 : W} {H1 : Hp} {p : Addr}
/-- what an item's part adds -/
def JE (K : PySem.W.Frag) (ct : CT) (w1 : W) (H1 : Hp) (p : Addr) (el : Sg → Hd → Res (List D)) (T : L2.St → Hp → (Hp → Prop) → Prop) : Prop :=
  ∀ (w : W) (h : Hd) (H : Hp) (σd : Sg) (σ : L2.St) (acc : List D) (av : List V) (ys : List D) (h3 : Hd) (N : Hp → Prop), Fill K ct w1 H1 p w H h acc av → RS K w H σd σ → el σd h = .ok ys h3 → acc.length + ys.length ≤ LIM →
    (∀ (w' : W) (H' : Hp) (av' : List V), Mono K w H w' H' → Fill K ct w1 H1 p w' H' h3 (acc ++ ys) av' → N H') → T σ H N
theorem je_one {fe : EE} (nd : p ∉ w1.rs) : JE K ct w1 H1 p (lcOne fe) (TL (tE K ct fe) p) := by
  intro w h H σd σ acc av ys h3 N F r e hl hN
  unfold lcOne at e
  obtain ⟨dy, h', e10, e11⟩ := Res.bind_eq_ok e
  cases e11
  refine ⟨w, h, σd, F.sr, r, okR_eq e10 fun w10 H10 yv st10 sr10 r10 => ?_⟩
  have F10 := F.step st10 sr10
  have hal := F10.len
  refine ⟨av, F10.at_, ?_, hN w10 _ _ (st10.mono.trans F10.addM) (F10.add nd r10)⟩
  rw [sizeLine_eq]
  unfold LIM at hl
  simp only [List.length_cons, List.length_nil] at hl
  omega
theorem je_in {el : Sg → Hd → Res (List D)} {T : L2.St → Hp → (Hp → Prop) → Prop} {it1 : EI} {gt1 : EG} {c1 : ET} {vs1 : List Nat} (je : JE K ct w1 H1 p el T) : JE K ct w1 H1 p (lcIn vs1 it1 gt1 c1 el) (TM3 (tI K ct it1) (tGw K ct vs1 gt1) (tT K ct c1) vs1 T) := by
  intro w h H σd σ acc av ys h3 N F r e hl hN
  unfold lcIn at e
  obtain ⟨I1, hi1, eI1, eL1⟩ := Res.bind_eq_ok e
  refine ⟨w, h, σd, F.sr, r, okR_eq eI1 fun w5 H5 J1 st5 sr5 gs1 => ?_⟩
  obtain ⟨G1, g10, g1m, g1t⟩ := gs1
  have F5 := F.step st5 sr5
  have r5 := st5.rsg r
  refine ⟨fun j k Hx => k = I1.items.length - j ∧ j ≤ I1.items.length ∧ ∃ (w' : W) (h' : Hd) (ac : List D) (av' : List V) (rest1 : List D), Fill K ct w1 H1 p w' Hx h' ac av' ∧ (∀ w2 H2, Mono K w' Hx w2 H2 → Mono K w H w2 H2) ∧ G1 w' Hx ∧ RS K w' Hx σd σ ∧ lcF gt1 c1 el I1.chk (BR.wipe σd vs1) (I1.items.drop j) h' = .ok rest1 h3 ∧ ac ++ rest1 = acc ++ ys,
    ⟨_, rfl, Nat.zero_le _, w5, hi1, acc, av, ys, F5, fun _ _ m => st5.mono.trans m, g10, r5, eL1, rfl⟩, ?_⟩
  rintro j k Hx ⟨rfl, hj, w6, h6, ac, av6, rest1, F6, M6, g16, r6, ef6, et6⟩
  by_cases hlt1 : j < I1.items.length
  · rw [List.drop_eq_getElem_cons hlt1] at ef6
    obtain ⟨ck1, σ7, h7, b7, h8, e7, e8, alt1⟩ := lcF_cons ef6
    obtain ⟨_, go1⟩ := g1t w6 Hx h6 g16 F6.sr ck1
    obtain ⟨hgo1, hy1⟩ := go1 j hlt1
    refine .inr ⟨hgo1, fun Hx => j + 1 ≤ I1.items.length ∧ ∃ (w' : W) (h' : Hd) (ac : List D) (av' : List V) (rest1 : List D), Fill K ct w1 H1 p w' Hx h' ac av' ∧ (∀ w2 H2, Mono K w' Hx w2 H2 → Mono K w H w2 H2) ∧ G1 w' Hx ∧ RS K w' Hx σd σ ∧ lcF gt1 c1 el I1.chk (BR.wipe σd vs1) (I1.items.drop (j + 1)) h' = .ok rest1 h3 ∧ ac ++ rest1 = acc ++ ys,
      fun H' z => ⟨I1.items.length - (j + 1), by omega, rfl, z⟩, fun x H7 y => ?_⟩
    obtain ⟨st7, sr7, d7, hd7, rd7⟩ := hy1 x H7 y
    have hd7' : d7 = I1.items[j] := by simpa [hlt1] using hd7.symm
    subst hd7'
    refine ⟨w6, h6, _, _, sr7, (st7.rsg r6).wipe vs1, rd7, okR_eq e7 fun w8 H8 σ8 st8 sr8 ⟨r8, ew8⟩ => ⟨?_, w8, h7, σ7, sr8, r8, okR_eq e8 fun w9 H9 b9 st9 sr9 eb9 => ?_⟩⟩
    · rw [ew8, wipe_wipe σ vs1 vs1 fun _ z => z]
    · cases eb9
      have st79 := st7.trans (st8.trans st9)
      have F9 := F6.step st79 sr9
      rcases alt1 with ⟨rfl, ef9⟩ | ⟨rfl, ys1, h9, us1, e9, ef9, ez9⟩
      · exact ⟨hlt1, w9, h8, ac, av6, rest1, F9, fun _ _ m => M6 _ _ (st79.mono.trans m), g1m _ _ _ _ g16 st79.mono, st79.rsg r6, ef9, et6⟩
      · simp only [if_true]
        subst ez9
        refine je w9 h8 H9 σ7 _ ac av6 ys1 h9 _ F9 (st9.rsg r8) e9 ?_ fun w' H' av' M' F' => ⟨hlt1, w', h9, ac ++ ys1, av', us1, F', fun _ _ m => M6 _ _ (st79.mono.trans (M'.trans m)), g1m _ _ _ _ g16 (st79.mono.trans M'), rsg_mono M' (st79.rsg r6), ef9, by rw [← et6]; simp⟩
        have z1 := congrArg List.length et6
        simp only [List.length_append] at z1
        omega
  · have e' : j = I1.items.length := by omega
    subst e'
    rw [List.drop_length] at ef6
    obtain ⟨ck1, er, eh⟩ := lcF_nil ef6
    subst er; subst eh
    have et7 : ac = acc ++ ys := by simpa using et6
    subst et7
    refine .inl ⟨(g1t w6 Hx h6 g16 F6.sr ck1).1, hN w6 Hx av6 (M6 _ _ ⟨⟨[], by simp⟩, fun _ _ z => z⟩) F6⟩
end
section
variable {ct : CT} {X : Cx} {vs vs1 vs2 : List Nat}
theorem lc3_of {rf : Bool} {it it1 it2 : EI} {gt gt1 gt2 : EG} {c c1 c2 : ET} {fe : EE} {σ : L2.St} {H : Hp} {Q : VK} (q : tE X.K ct (eLc rf vs it gt c (lcIn vs1 it1 gt1 c1 (lcIn vs2 it2 gt2 c2 (lcOne fe)))) σ H Q) :
    tLc3 (tI X.K ct it) (tGw X.K ct vs gt) (tT X.K ct c) (tI X.K ct it1) (tGw X.K ct vs1 gt1) (tT X.K ct c1) (tI X.K ct it2) (tGw X.K ct vs2 gt2) (tT X.K ct c2) (tE X.K ct fe) vs vs1 vs2 σ H Q := by
  obtain ⟨w, h, σd, sr, rs, q⟩ := q
  have jj : ∀ w1 H1 p, p ∉ w1.rs → JE X.K ct w1 H1 p (lcIn vs1 it1 gt1 c1 (lcIn vs2 it2 gt2 c2 (lcOne fe))) (TM3 (tI X.K ct it1) (tGw X.K ct vs1 gt1) (tT X.K ct c1) vs1 (TM3 (tI X.K ct it2) (tGw X.K ct vs2 gt2) (tT X.K ct c2) vs2 (TL (tE X.K ct fe) p))) := fun w1 H1 p nd => je_in (je_in (je_one nd))
  unfold tLc3
  generalize hin : lcIn vs1 it1 gt1 c1 (lcIn vs2 it2 gt2 c2 (lcOne fe)) = inner at q jj
  unfold eLc lcIn at q
  refine ⟨w, h, σd, sr, rs, ?_⟩
  cases eI : it σd h with
  | exc => rw [eI] at q; exact q.elim
  | bad => rw [eI] at q; exact q.elim
  | ok I h0 =>
  rw [eI] at q
  simp only [Res.bind_ok] at q
  cases eL : lcF gt c inner I.chk (BR.wipe σd vs) I.items h0 with
  | exc => rw [eL] at q; exact q.elim
  | bad => rw [eL] at q; exact q.elim
  | ok total hE =>
  rw [eL] at q
  simp only [Res.bind_ok] at q
  have hlim : total.length ≤ LIM := Classical.byContradiction fun z => by
    unfold lcEnd at q
    rw [if_neg z] at q
    exact q.elim
  intro w1 H1 J st1 sr1 gs p hp
  obtain ⟨G, g0, gm, gt'⟩ := gs
  have q1 := okR.step st1 q
  have rs1 : RS X.K w1 H1 σd σ := st1.rsg rs
  have nd : p ∉ w1.rs := fun m => sr1.ne_rs hp p m rfl
  have je := jj w1 H1 p nd
  refine ⟨fun i m H => m = I.items.length - i ∧ i ≤ I.items.length ∧ ∃ (w : W) (h : Hd) (acc : List D) (av : List V) (rest : List D), Fill X.K ct w1 H1 p w H h acc av ∧ G w H ∧ lcF gt c inner I.chk (BR.wipe σd vs) (I.items.drop i) h = .ok rest hE ∧ acc ++ rest = total,
    ⟨_, rfl, Nat.zero_le _, _, h0, [], [], total, Fill.start sr1 hp, gm _ _ _ _ g0 (Fill.startM sr1 hp), eL, rfl⟩, ?_⟩
  rintro i m H ⟨rfl, hi, w, h, acc, av, rest, F, g, ef, et⟩
  by_cases hlt : i < I.items.length
  · rw [List.drop_eq_getElem_cons hlt] at ef
    obtain ⟨ck, σ1, h1, b, h2, e1, e2, alt⟩ := lcF_cons ef
    obtain ⟨_, go⟩ := gt' w H h g F.sr ck
    obtain ⟨hgo, hy⟩ := go i hlt
    refine .inr ⟨hgo, fun H => i + 1 ≤ I.items.length ∧ ∃ (w : W) (h : Hd) (acc : List D) (av : List V) (rest : List D), Fill X.K ct w1 H1 p w H h acc av ∧ G w H ∧ lcF gt c inner I.chk (BR.wipe σd vs) (I.items.drop (i + 1)) h = .ok rest hE ∧ acc ++ rest = total,
      fun H' z => ⟨I.items.length - (i + 1), by omega, rfl, z⟩, fun x H2 y => ?_⟩
    obtain ⟨st2, sr2, d, hd, rd⟩ := hy x H2 y
    have hd' : d = I.items[i] := by simpa [hlt] using hd.symm
    subst hd'
    refine ⟨w, h, _, _, sr2, (st2.rsg (F.rsg rs1)).wipe vs, rd, okR_eq e1 fun w3 H3 σ3 st3 sr3 ⟨r3, ew⟩ => ⟨?_, w3, h1, σ1, sr3, r3, okR_eq e2 fun w4 H4 b' st4 sr4 eb => ?_⟩⟩
    · rw [ew, wipe_wipe σ vs vs fun _ z => z]
    · cases eb
      have st24 := st2.trans (st3.trans st4)
      have g4 : G w4 H4 := gm _ _ _ _ g st24.mono
      have F4 := F.step st24 sr4
      have r4 := st4.rsg r3
      rcases alt with ⟨rfl, ef2⟩ | ⟨rfl, ys, h3, us, e3, ef2, ez⟩
      · exact ⟨hlt, w4, h2, acc, av, rest, F4, g4, ef2, et⟩
      · simp only [if_true]
        subst ez
        refine je w4 h2 H4 σ1 _ acc av ys h3 _ F4 r4 e3 ?_ fun w' H' av' M' F' => ⟨hlt, w', h3, acc ++ ys, av', us, F', gm _ _ _ _ g4 M', ef2, by rw [← et]; simp⟩
        have z2 := congrArg List.length et
        simp only [List.length_append] at z2
        omega
  · have e : i = I.items.length := by omega
    subst e
    rw [List.drop_length] at ef
    obtain ⟨ck, er, eh⟩ := lcF_nil ef
    subst er; subst eh
    have et' : acc = total := by simpa using et
    subst et'
    exact .inl ⟨(gt' w H h g F.sr ck).1, F.endE nd q1⟩
end
end BR

namespace BR
open PySem PySem.Spec PyProof.Rows L2
section
variable {ct : CT} {X : Cx}
theorem pe_lc3 {elt tg iter tg1 iter1 tg2 iter2 : Expr} {ifs ifs1 ifs2 : List Expr} {scope : Scope} {own : List (Str × Nat)} {vs1 vs2 : List Nat} {pos : Pos} {wi wi1 wi2 : TI} {g g1 g2 : TG} {tt tt1 tt2 : TT} {te : TE}
    (hc : X.calm = true) (hN : X.N.Nodup) (hi : PI X tg iter wi) (ok : BlkOk X.N X.env.scope scope own) (hv : ∀ i ∈ vs1, i ∈ own.map (·.2)) (hv2 : ∀ i ∈ vs2, i ∈ vs1)
    (hg : ∀ (s : Shared) (H : Hp) (C : Addr) (cl : List (Str × Addr)) (fp : List Addr), PG (X.blk s H scope (compEnvC scope cl C X.env) fp) tg g) (ht : ∀ (s : Shared) (H : Hp) (C : Addr) (cl : List (Str × Addr)) (fp : List Addr), PTs (X.blk s H scope (compEnvC scope cl C X.env) fp) ifs tt)
    (hi1 : ∀ (s : Shared) (H : Hp) (C : Addr) (cl : List (Str × Addr)) (fp : List Addr), PI (X.blk s H scope (compEnvC scope cl C X.env) fp) tg1 iter1 wi1) (hg1 : ∀ (s : Shared) (H : Hp) (C : Addr) (cl : List (Str × Addr)) (fp : List Addr), PG (X.blk s H scope (compEnvC scope cl C X.env) fp) tg1 g1) (ht1 : ∀ (s : Shared) (H : Hp) (C : Addr) (cl : List (Str × Addr)) (fp : List Addr), PTs (X.blk s H scope (compEnvC scope cl C X.env) fp) ifs1 tt1)
    (hi2 : ∀ (s : Shared) (H : Hp) (C : Addr) (cl : List (Str × Addr)) (fp : List Addr), PI (X.blk s H scope (compEnvC scope cl C X.env) fp) tg2 iter2 wi2) (hg2 : ∀ (s : Shared) (H : Hp) (C : Addr) (cl : List (Str × Addr)) (fp : List Addr), PG (X.blk s H scope (compEnvC scope cl C X.env) fp) tg2 g2) (ht2 : ∀ (s : Shared) (H : Hp) (C : Addr) (cl : List (Str × Addr)) (fp : List Addr), PTs (X.blk s H scope (compEnvC scope cl C X.env) fp) ifs2 tt2)
    (he : ∀ (s : Shared) (H : Hp) (C : Addr) (cl : List (Str × Addr)) (fp : List Addr), PE (X.blk s H scope (compEnvC scope cl C X.env) fp) elt te) (hs : ∀ x, foldedSetIterable iter X.env x = pure x) (hs1 : ∀ env x, foldedSetIterable iter1 env x = pure x) (hs2 : ∀ env x, foldedSetIterable iter2 env x = pure x) :
    PE X (.ListComp elt [⟨tg, iter, ifs, 0⟩, ⟨tg1, iter1, ifs1, 0⟩, ⟨tg2, iter2, ifs2, 0⟩] scope pos) (tLc3 wi g tt wi1 g1 tt1 wi2 g2 tt2 te (own.map (·.2)) vs1 vs2) := by
  refine ⟨fun pins s σ H Q I h => ?_⟩
  rw [eval_ListComp]
  refine lc3_core hc hN I hi ok hv hv2 hg ht he hs hi1 hg1 ht1 hs1 hi2 hg2 ht2 hs2 h fun D C s' m H' I' q hn f => ⟨m, hn, fun h'' sb => ?_⟩
  obtain ⟨f0, f1, f2, f3, f4, f5⟩ := f
  exact ⟨.ref D, H', I'.turned (t' := s'.toks) (fun b o hb e => (sb.2 b hb).trans e) f0 f1 f3 f4 f5, rfl, q⟩
theorem sl_lc3 {rf : Bool} {elt tg iter tg1 iter1 tg2 iter2 : Expr} {ifs ifs1 ifs2 : List Expr} {scope sc : Scope} {own : List (Str × Nat)} {vs vs1 vs2 : List Nat} {N : List Str} {pos : Pos} {it it1 it2 : EI} {gt gt1 gt2 : EG} {c c1 c2 : ET} {fe : EE}
    (nd : N.Nodup) (hN : X.N = N) (hsc : X.env.scope = sc) (hb : blkC N sc scope own = true) (hv : own.map (·.2) = vs) (hv1 : ∀ i ∈ vs1, i ∈ vs) (hv2 : ∀ i ∈ vs2, i ∈ vs1) (hi : SI ct X tg iter it)
    (hg : ∀ (s : Shared) (H : Hp) (C : Addr) (cl : List (Str × Addr)) (fp : List Addr), SGw ct (X.blk s H scope (compEnvC scope cl C X.env) fp) vs tg gt) (ht : ∀ (s : Shared) (H : Hp) (C : Addr) (cl : List (Str × Addr)) (fp : List Addr), STs ct (X.blk s H scope (compEnvC scope cl C X.env) fp) ifs c)
    (hi1 : ∀ (s : Shared) (H : Hp) (C : Addr) (cl : List (Str × Addr)) (fp : List Addr), SI ct (X.blk s H scope (compEnvC scope cl C X.env) fp) tg1 iter1 it1) (hg1 : ∀ (s : Shared) (H : Hp) (C : Addr) (cl : List (Str × Addr)) (fp : List Addr), SGw ct (X.blk s H scope (compEnvC scope cl C X.env) fp) vs1 tg1 gt1) (ht1 : ∀ (s : Shared) (H : Hp) (C : Addr) (cl : List (Str × Addr)) (fp : List Addr), STs ct (X.blk s H scope (compEnvC scope cl C X.env) fp) ifs1 c1)
    (hi2 : ∀ (s : Shared) (H : Hp) (C : Addr) (cl : List (Str × Addr)) (fp : List Addr), SI ct (X.blk s H scope (compEnvC scope cl C X.env) fp) tg2 iter2 it2) (hg2 : ∀ (s : Shared) (H : Hp) (C : Addr) (cl : List (Str × Addr)) (fp : List Addr), SGw ct (X.blk s H scope (compEnvC scope cl C X.env) fp) vs2 tg2 gt2) (ht2 : ∀ (s : Shared) (H : Hp) (C : Addr) (cl : List (Str × Addr)) (fp : List Addr), STs ct (X.blk s H scope (compEnvC scope cl C X.env) fp) ifs2 c2)
    (he : ∀ (s : Shared) (H : Hp) (C : Addr) (cl : List (Str × Addr)) (fp : List Addr), SE ct (X.blk s H scope (compEnvC scope cl C X.env) fp) elt fe) (hc : X.calm = true := by rfl) (hs : ∀ x, foldedSetIterable iter X.env x = pure x := by intro _; rfl) (hs1 : ∀ env x, foldedSetIterable iter1 env x = pure x := by intro _ _; rfl) (hs2 : ∀ env x, foldedSetIterable iter2 env x = pure x := by intro _ _; rfl) :
    SE ct X (.ListComp elt [⟨tg, iter, ifs, 0⟩, ⟨tg1, iter1, ifs1, 0⟩, ⟨tg2, iter2, ifs2, 0⟩] scope pos) (eLc rf vs it gt c (lcIn vs1 it1 gt1 c1 (lcIn vs2 it2 gt2 c2 (lcOne fe)))) := by
  subst hv; subst hN; subst hsc
  exact pe_imp (pe_lc3 hc nd hi (blkOk_by hb) hv1 hv2 hg ht hi1 hg1 ht1 hi2 hg2 ht2 he hs hs1 hs2) fun _ _ _ q => lc3_of q
end
end BR

namespace BR
open PySem PySem.Spec PyProof.Rows L2
/-- _law_all_ties: 0 _law_web, 1 _law_n, 2 _law_found, 3 _law_u, 4 _law_v -/
noncomputable def f_law_all_ties : EF := fn 1 5
  (sSeq (sAsg (eAp gLen (aCons (eVar 0) aNil)) (gVar 1))
  (sSeq (sAsg (eLst aNil) (gVar 2))
  (sSeq (sFor (gVar 3) (iRg1 (aCons (eVar 1) aNil)) (sFor (gVar 4) (iRg2 (aCons (eAp2 gAdd (eVar 3) (eC (.int 1))) (aCons (eVar 1) aNil))) (sAsg (eAp2 gAdd (eVar 2) (eAp2 gMul (eLst (aCons (eTup (aCons (eVar 3) (aCons (eVar 4) aNil))) aNil)) (eAp2 gIx (eAp2 gIx (eVar 0) (eVar 3)) (eVar 4)))) (gVar 2))))
  (sRet (eVar 2)))))
theorem f_law_all_ties_bad : ∀ (ds : List D) (h : Hd), ds.length ≠ 1 → f_law_all_ties ds h = .bad := fun ds h e => fn_bad ds h e
/-- ties_of: 0 web, 1 n, 2 u, 3 v, 4 turn -/
noncomputable def f_ties_of : EF := fnK 1 5
  (sSeq (sEx (eAp f_need_web (aCons (eVar 0) aNil)))
  (sSeq (sAsg (eAp gLen (aCons (eVar 0) aNil)) (gVar 1))
  (sRet (eLc true [2, 3, 4] (iRg1 (aCons (eVar 1) aNil)) (gVar 2) tTT (lcIn [3, 4] (iRg2 (aCons (eAp2 gAdd (eVar 2) (eC (.int 1))) (aCons (eVar 1) aNil))) (gVar 3) tTT (lcIn [4] (iRg1 (aCons (eAp2 gIx (eAp2 gIx (eVar 0) (eVar 2)) (eVar 3)) aNil)) (gVar 4) tTT (lcOne (eTup (aCons (eVar 2) (aCons (eVar 3) aNil))))))))))
theorem f_ties_of_bad : ∀ (ds : List D) (h : Hd), ds.length ≠ 1 → f_ties_of ds h = .bad := fun ds h e => fnK_bad ds h e
/-- ties_of: 0 web, 1 n, 2 u, 3 v, 4 turn; what it raises leaves it -/
noncomputable def f_ties_of_x : EF := fnX 1 5
  (sSeq (sEx (eAp f_need_web_x (aV (aCons (eVar 0) aNil))))
  (sV (sSeq (sAsg (eAp gLen (aCons (eVar 0) aNil)) (gVar 1))
  (sRet (eLc true [2, 3, 4] (iRg1 (aCons (eVar 1) aNil)) (gVar 2) tTT (lcIn [3, 4] (iRg2 (aCons (eAp2 gAdd (eVar 2) (eC (.int 1))) (aCons (eVar 1) aNil))) (gVar 3) tTT (lcIn [4] (iRg1 (aCons (eAp2 gIx (eAp2 gIx (eVar 0) (eVar 2)) (eVar 3)) aNil)) (gVar 4) tTT (lcOne (eTup (aCons (eVar 2) (aCons (eVar 3) aNil)))))))))))
theorem f_ties_of_x_bad : ∀ (ds : List D) (h : Hd), ds.length ≠ 1 → f_ties_of_x ds h = .bad := fun ds h e => fnX_bad ds h e
/-- _law_refused: 0 _law_caught_here, 1 _law_no_web -/
noncomputable def f_law_refused : EF := fn 2 2
  (sSeq (sIf (tOr (tB (eAp1 gIsN (eVar 0))) (tNot (tB (eIsX (fun _ => true) (eVar 0))))) (sRet (eC (.bl false))) sNop)
  (sRet (eAnd (eAp2 gEq (eIsX (subP [0, 4] 0) (eVar 0)) (eVar 1)) (eAp2 gNe (eIsX (subP [0, 4] 4) (eVar 0)) (eVar 1)))))
theorem f_law_refused_bad : ∀ (ds : List D) (h : Hd), ds.length ≠ 2 → f_law_refused ds h = .bad := fun ds h e => fn_bad ds h e
/-- shape: 0 web -/
noncomputable def f_shape : EF := fn 1 1
  (sRet (eAp2 gAdd (eAp2 gSubt (eAp gLen (aCons (eAp f_ties_of (aCons (eVar 0) aNil)) aNil)) (eAp gLen (aCons (eVar 0) aNil))) (eC (.int 1))))
theorem f_shape_bad : ∀ (ds : List D) (h : Hd), ds.length ≠ 1 → f_shape ds h = .bad := fun ds h e => fn_bad ds h e
/-- shape: 0 web; what it raises leaves it -/
noncomputable def f_shape_x : EF := fnX 1 1
  (sRet (eAp2X gAdd (eAp2X gSubt (eAp1X gLen (eAp f_ties_of_x (aV (aCons (eVar 0) aNil)))) (eAp gLen (aCons (eVar 0) aNil))) (eC (.int 1))))
theorem f_shape_x_bad : ∀ (ds : List D) (h : Hd), ds.length ≠ 1 → f_shape_x ds h = .bad := fun ds h e => fnX_bad ds h e
/-- own_heap: 0 web, 1 row; what it raises leaves it -/
noncomputable def f_own_heap_x : EF := fnX 1 2
  (sSeq (sEx (eAp f_need_web_x (aV (aCons (eVar 0) aNil))))
  (sV (sRet (eAp gTuple (aCons (eLc false [1] (iVal (eVar 0)) (gVar 1) tTT (lcOne (eAp2 gSubt (eAp gSum (aCons (eVar 1) aNil)) (eC (.int 2))))) aNil)))))
theorem f_own_heap_x_bad : ∀ (ds : List D) (h : Hd), ds.length ≠ 1 → f_own_heap_x ds h = .bad := fun ds h e => fnX_bad ds h e
/-- need_place: 0 web, 1 thing; what it raises leaves it -/
noncomputable def f_need_place_x : EF := fnX 2 2
  (sIf (tV (tOr (tNot (tB (eAp f_is_whole (aCons (eVar 1) aNil)))) (tNot (tB (eCh gLe gLt (eC (.int 0)) (eVar 1) (eAp gLen (aCons (eVar 0) aNil))))))) (sRaise 4) (sV sNop))
theorem f_need_place_x_bad : ∀ (ds : List D) (h : Hd), ds.length ≠ 2 → f_need_place_x ds h = .bad := fun ds h e => fnX_bad ds h e
/-- reach: 0 web, 1 place -/
noncomputable def f_reach : EF := fn 2 2
  (sSeq (sEx (eAp f_need_web (aCons (eVar 0) aNil)))
  (sSeq (sEx (eAp f_need_place (aCons (eVar 0) (aCons (eVar 1) aNil))))
  (sRet (eAp gSum (aCons (eAp2 gIx (eVar 0) (eVar 1)) aNil)))))
theorem f_reach_bad : ∀ (ds : List D) (h : Hd), ds.length ≠ 2 → f_reach ds h = .bad := fun ds h e => fn_bad ds h e
/-- reach: 0 web, 1 place; what it raises leaves it -/
noncomputable def f_reach_x : EF := fnX 2 2
  (sSeq (sEx (eAp f_need_web_x (aV (aCons (eVar 0) aNil))))
  (sSeq (sEx (eAp f_need_place_x (aV (aCons (eVar 0) (aCons (eVar 1) aNil)))))
  (sV (sRet (eAp gSum (aCons (eAp2 gIx (eVar 0) (eVar 1)) aNil))))))
theorem f_reach_x_bad : ∀ (ds : List D) (h : Hd), ds.length ≠ 2 → f_reach_x ds h = .bad := fun ds h e => fnX_bad ds h e
/-- _law_caught: 0 _law_word, 1 _law_web, 2 _law_place, 3 _law_caught_here, 4 e -/
noncomputable def f_law_caught : EF := fnK 3 5
  (sSeq (sAsg (eC .non) (gVar 3))
  (sSeq (sTryS (fun _ => true) (sIf (tV (tB (eAp2 gEq (eVar 0) (eC (.str "ties"))))) (sEx (eAp f_ties_of_x (aV (aCons (eVar 1) aNil)))) (sIf (tV (tB (eAp2 gEq (eVar 0) (eC (.str "reach"))))) (sEx (eAp f_reach_x (aV (aCons (eVar 1) (aCons (eVar 2) aNil))))) (sIf (tV (tB (eAp2 gEq (eVar 0) (eC (.str "shape"))))) (sEx (eAp f_shape_x (aV (aCons (eVar 1) aNil)))) (sEx (eAp f_own_heap_x (aV (aCons (eVar 1) aNil))))))) 4 3)
  (sRet (eVar 3))))
theorem f_law_caught_bad : ∀ (ds : List D) (h : Hd), ds.length ≠ 3 → f_law_caught ds h = .bad := fun ds h e => fnK_bad ds h e
/-- law: 0 _law_script, 1 _law_pen, 2 _law_turn, 3 _law_web, 4 _law_n, 5 _law_due, 6 _law_again, 7 _law_told, 8 _law_reaches, 9 _law_wrong, 10 _law_place, 11 _law_seen, 12 _law_word, 13 _law_v, 14 _law_tie, 15 _law_many -/
noncomputable def f_law02 : EF := fn 1 16
  (sSeq (sAsg (eAp f_law_open (aCons (eVar 0) aNil)) (gVar 1))
  (sSeq (sFor (gVar 2) (iRg1 (aCons (eC (.int 6)) aNil)) (sSeq (sAsg (eAp f_law_any_web (aCons (eVar 1) (aCons (eC (.int 10)) (aCons (eC (.int 12)) aNil)))) (gVar 3))
  (sSeq (sAsg (eTup (aCons (eAp gLen (aCons (eVar 3) aNil)) (aCons (eAp f_law_all_ties (aCons (eVar 3) aNil)) aNil))) (gTup [(gVar 4), (gVar 5)]))
  (sSeq (sFor (gVar 6) (iRg1 (aCons (eC (.int 2)) aNil)) (sSeq (sAsg (eAp f_ties_of (aCons (eVar 3) aNil)) (gVar 7))
  (sSeq (sIf (tNot (tB (eAp f_law_same (aCons (eVar 7) (aCons (eVar 5) aNil))))) (sRet (eC (.bl false))) sNop)
  (sEx (eMtL mAppend (eVar 7) (aCons (eTup (aCons (eC (.int 0)) (aCons (eC (.int 0)) aNil))) aNil))))))
  (sSeq (sIf (tNot (tB (eAp f_law_same (aCons (eAp f_shape (aCons (eVar 3) aNil)) (aCons (eAp2 gAdd (eAp2 gSubt (eAp gLen (aCons (eVar 5) aNil)) (eVar 4)) (eC (.int 1))) aNil))))) (sRet (eC (.bl false))) sNop)
  (sSeq (sAsg (eLc false [13] (iRg1 (aCons (eVar 4) aNil)) (gVar 13) tTT (lcOne (eAp gLen (aCons (eLc false [14] (iVal (eVar 5)) (gVar 14) (tB (eAp2 (inF false) (eVar 13) (eVar 14))) (lcOne (eVar 14))) aNil)))) (gVar 8))
  (sSeq (sIf (tNot (tB (eAp f_law_same (aCons (eLc false [13] (iRg1 (aCons (eVar 4) aNil)) (gVar 13) tTT (lcOne (eAp f_reach (aCons (eVar 3) (aCons (eVar 13) aNil))))) (aCons (eVar 8) aNil))))) (sRet (eC (.bl false))) sNop)
  (sSeq (sIf (tNot (tB (eAp f_law_same (aCons (eAp f_own_heap (aCons (eVar 3) aNil)) (aCons (eAp gTuple (aCons (eLc false [15] (iVal (eVar 8)) (gVar 15) tTT (lcOne (eAp2 gSubt (eVar 15) (eC (.int 2))))) aNil)) aNil))))) (sRet (eC (.bl false))) sNop)
  (sSeq (sAsg (eAp f_law_wrong_web (aCons (eVar 1) (aCons (eVar 3) aNil))) (gVar 9))
  (sSeq (sAsg (eAp2 gIx (eLst (aCons (eVar 4) (aCons (eAp1 gNeg (eC (.int 1))) (aCons (eC (.bl true)) (aCons (eC (.bl false)) (aCons (eC .non) (aCons (eC (.str "0")) (aCons (eTup (aCons (eC (.int 0)) aNil)) (aCons (eLst (aCons (eC (.int 1)) (aCons (eC (.int 0)) aNil))) (aCons (eAp2 gPow (eC (.int 10)) (eC (.int 40))) aNil)))))))))) (eAp f_law_take (aCons (eVar 1) (aCons (eC (.int 9)) aNil)))) (gVar 10))
  (sSeq (sAsg (eAp gRepr (aCons (eTup (aCons (eVar 9) (aCons (eVar 10) aNil))) aNil)) (gVar 11))
  (sSeq (sAsg (eAp2 gIx (eLst (aCons (eC (.str "ties")) (aCons (eC (.str "reach")) (aCons (eC (.str "shape")) (aCons (eC (.str "own")) aNil))))) (eAp f_law_take (aCons (eVar 1) (aCons (eC (.int 4)) aNil)))) (gVar 12))
  (sSeq (sIf (tNot (tB (eAp f_law_refused (aCons (eAp f_law_caught (aCons (eVar 12) (aCons (eVar 9) (aCons (eAp2 gIx (eLst (aCons (eC (.int 0)) (aCons (eVar 10) aNil))) (eAp f_law_take (aCons (eVar 1) (aCons (eC (.int 2)) aNil)))) aNil)))) (aCons (eC (.bl true)) aNil))))) (sRet (eC (.bl false))) sNop)
  (sIf (tOr (tNot (tB (eAp f_law_refused (aCons (eAp f_law_caught (aCons (eC (.str "reach")) (aCons (eVar 3) (aCons (eVar 10) aNil)))) (aCons (eC (.bl false)) aNil))))) (tB (eAp2 gNe (eAp gRepr (aCons (eTup (aCons (eVar 9) (aCons (eVar 10) aNil))) aNil)) (eVar 11)))) (sRet (eC (.bl false))) sNop))))))))))))))
  (sRet (eC (.bl true)))))
end BR

namespace BR
open PySem PySem.Spec PyProof.Rows L2
def top (i : Nat) : Stmt := PySem.Challenge.pw_burnrank_k02_ties_reaches_shapes.main.body.getD i (.Pass ⟨0, 0, 0, 0⟩)
section
variable {wd : World} {K : PySem.W.Frag} {mg : Str → Option Value} {base : Heap} {ct : CT}
theorem sc__law_open : FnScope ["_law_script", "_law_cells", "_law_k", "_law_cell"] ["_law_script"] (defScope (top 18)) := ⟨rfl, rfl, rfl, by decide +kernel, rfl, by decide +kernel, by decide +kernel⟩
theorem k__law_open (bl : Bl mg) (D : Df K mg "_law_open" ["_law_script"] (top 18))    : Kn PySem.Challenge.pw_burnrank_k02_ties_reaches_shapes wd K mg base ct 1 "_law_open" 1 f_law_open :=
  have sc := sc__law_open
  kn_mkK D sc rfl rfl fun f cdv A outer s H E hr =>
  (ss_cons (sx_asg (sb_listR bl (sa_cons (se_sl sl_ok (se_var (pv 0)) so_no (so_p se_int)) sa_nil)) (sg_var (pg_name sc.nd rfl (Or.inl rfl))))
  (ss_cons (sx_for PassesOwn.never rfl (sb_en bl (sa_cons (se_sl sl_ok (se_var (pv 0)) (so_p se_int) (so_p se_int)) sa_nil)) (sg_tup rfl (sgs_cons (sg_var (pg_name sc.nd rfl (Or.inl rfl))) (sgs_cons (sg_var (pg_name sc.nd rfl (Or.inl rfl))) sgs_nil))) (ss_one (sx_asg (se_op or_add (se_ix ix_ok (se_var (pv 1)) (se_op or_mod (se_var (pv 2)) se_int)) (se_var (pv 3))) (sg_sub (set_ok hr.hu) (se_var (pv 1)) (se_op or_mod (se_var (pv 2)) se_int)))))
  (ss_one (sx_ret (sd_lstR (sa_cons (se_var (pv 1)) (sa_cons se_int (sa_cons se_int sa_nil))))))))
theorem sc__law_spread : FnScope ["_law_cell", "_law_at", "_law_primes", "_law_one", "_law_two", "_law_three"] ["_law_cell", "_law_at"] (defScope (top 19)) := ⟨rfl, rfl, rfl, by decide +kernel, rfl, by decide +kernel, by decide +kernel⟩
theorem k__law_spread (bl : Bl mg) (D : Df K mg "_law_spread" ["_law_cell", "_law_at"] (top 19))    : Kn PySem.Challenge.pw_burnrank_k02_ties_reaches_shapes wd K mg base ct 1 "_law_spread" 2 f_law_spread :=
  have sc := sc__law_spread
  kn_mk D sc rfl rfl fun f cdv A outer s H E hr =>
  (ss_cons (sx_if (st_cmp or_ge (se_var (pv 0)) (se_op or_pow se_int se_int)) (ss_one (sx_ret (se_var (pv 0)))) ss_nil)
  (ss_cons (sx_asg (sd_lst (sa_cons se_int (sa_cons se_int (sa_cons se_int (sa_cons se_int (sa_cons se_int (sa_cons se_int (sa_cons se_int (sa_cons se_int sa_nil))))))))) (sg_var (pg_name sc.nd rfl (Or.inl rfl))))
  (ss_cons (sx_asg (se_op or_add (se_var (pv 2)) (sd_lst (sa_cons se_int (sa_cons se_int (sa_cons se_int (sa_cons se_int (sa_cons se_int sa_nil))))))) (sg_var (pg_name sc.nd rfl (Or.inl rfl))))
  (ss_cons (sx_asg (se_op or_mod (se_op or_pow (se_op or_add (se_op or_add (se_op or_mul (se_op or_mod (se_var (pv 0)) se_int) (se_op or_add (se_op or_mul se_int (se_var (pv 1))) se_int)) (se_op or_mul (se_var (pv 1)) se_int)) se_int) se_int) (se_ix ix_ok (se_var (pv 2)) (se_op or_mod (se_var (pv 1)) se_int))) (sg_var (pg_name sc.nd rfl (Or.inl rfl))))
  (ss_cons (sx_asg (se_op or_mod (se_op or_pow (se_op or_add (se_op or_add (se_op or_mul (se_var (pv 3)) (se_op or_add (se_var (pv 1)) se_int)) (se_op or_mod (se_var (pv 0)) se_int)) se_int) se_int) (se_ix ix_ok (se_var (pv 2)) (se_op or_mod (se_op or_add (se_var (pv 1)) se_int) se_int))) (sg_var (pg_name sc.nd rfl (Or.inl rfl))))
  (ss_cons (sx_asg (se_op or_mod (se_op or_pow (se_op or_add (se_op or_add (se_var (pv 4)) (se_op or_mod (se_var (pv 3)) se_int)) (se_var (pv 1))) se_int) (se_ix ix_ok (se_var (pv 2)) (se_op or_mod (se_op or_add (se_var (pv 1)) se_int) se_int))) (sg_var (pg_name sc.nd rfl (Or.inl rfl))))
  (ss_one (sx_ret (se_op or_add (se_op or_mul (se_op or_add (se_op or_mul (se_var (pv 3)) se_int) (se_var (pv 4))) se_int) (se_var (pv 5)))))))))))
theorem sc__law_take : FnScope ["_law_pen", "_law_many", "_law_at", "_law_cell", "_law_found"] ["_law_pen", "_law_many"] (defScope (top 20)) := ⟨rfl, rfl, rfl, by decide +kernel, rfl, by decide +kernel, by decide +kernel⟩
theorem k__law_take (bl : Bl mg) (D : Df K mg "_law_take" ["_law_pen", "_law_many"] (top 20)) (c__law_spread : Kn PySem.Challenge.pw_burnrank_k02_ties_reaches_shapes wd K mg base ct 1 "_law_spread" 2 f_law_spread)   : Kn PySem.Challenge.pw_burnrank_k02_ties_reaches_shapes wd K mg base ct 2 "_law_take" 2 f_law_take :=
  have sc := sc__law_take
  kn_mk D sc rfl rfl fun f cdv A outer s H E hr =>
  (ss_cons (sx_if (st_cmp or_lt (se_ix ix_ok (se_var (pv 0)) se_int) (se_var (pv 1))) (ss_cons (sx_asg (se_ix ix_ok (se_var (pv 0)) se_int) (sg_var (pg_name sc.nd rfl (Or.inl rfl))))
  (ss_cons (sx_asg se_int (sg_var (pg_name sc.nd rfl (Or.inl rfl))))
  (ss_cons (sx_if (st_cmp or_lt (se_var (pv 2)) (sb_len bl (sa_cons (se_ix ix_ok (se_var (pv 0)) se_int) sa_nil))) (ss_one (sx_asg (se_ix ix_ok (se_ix ix_ok (se_var (pv 0)) se_int) (se_var (pv 2))) (sg_var (pg_name sc.nd rfl (Or.inl rfl))))) (ss_one (sx_if (st_cmp or_gt (sb_len bl (sa_cons (se_ix ix_ok (se_var (pv 0)) se_int) sa_nil)) se_int) (ss_one (sx_asg (se_op or_mod (se_ix ix_ok (se_ix ix_ok (se_var (pv 0)) se_int) (se_op or_mod (se_op or_add (se_op or_mul (se_var (pv 2)) se_int) se_int) (sb_len bl (sa_cons (se_ix ix_ok (se_var (pv 0)) se_int) sa_nil)))) (se_op or_add (se_op or_pow se_int se_int) (se_var (pv 2)))) (sg_var (pg_name sc.nd rfl (Or.inl rfl))))) ss_nil)))
  (ss_cons (sx_asg (se_op or_add (se_var (pv 2)) se_int) (sg_sub (set_ok hr.hu) (se_var (pv 0)) se_int))
  (ss_one (sx_asg (se_call c__law_spread f_law_spread_bad hr (by decide) rfl (sa_cons (se_var (pv 3)) (sa_cons (se_var (pv 2)) sa_nil))) (sg_sub (set_ok hr.hu) (se_var (pv 0)) se_int))))))) ss_nil)
  (ss_cons (sx_asg (se_op or_mod (se_ix ix_ok (se_var (pv 0)) se_int) (se_var (pv 1))) (sg_var (pg_name sc.nd rfl (Or.inl rfl))))
  (ss_cons (sx_asg (se_op or_fdv (se_ix ix_ok (se_var (pv 0)) se_int) (se_var (pv 1))) (sg_sub (set_ok hr.hu) (se_var (pv 0)) se_int))
  (ss_one (sx_ret (se_var (pv 4)))))))
theorem sc__law_any_order : FnScope ["_law_pen", "_law_many", "_law_found", "_law_k"] ["_law_pen", "_law_many"] (defScope (top 23)) := ⟨rfl, rfl, rfl, by decide +kernel, rfl, by decide +kernel, by decide +kernel⟩
theorem k__law_any_order (bl : Bl mg) (D : Df K mg "_law_any_order" ["_law_pen", "_law_many"] (top 23)) (c__law_take : Kn PySem.Challenge.pw_burnrank_k02_ties_reaches_shapes wd K mg base ct 2 "_law_take" 2 f_law_take)   : Kn PySem.Challenge.pw_burnrank_k02_ties_reaches_shapes wd K mg base ct 3 "_law_any_order" 2 f_law_any_order :=
  have sc := sc__law_any_order
  kn_mk D sc rfl rfl fun f cdv A outer s H E hr =>
  (ss_cons (sx_asg (sd_lstR sa_nil) (sg_var (pg_name sc.nd rfl (Or.inl rfl))))
  (ss_cons (sx_for PassesOwn.never rfl (sb_rg1 bl (sa_cons (se_var (pv 1)) sa_nil)) (sg_var (pg_name sc.nd rfl (Or.inl rfl))) (ss_one (sx_ex (se_mt F.slot_list_insert (by kernel_rfl) mm_insert (se_var (pv 2)) (sa_cons (se_call c__law_take f_law_take_bad hr (by decide) rfl (sa_cons (se_var (pv 0)) (sa_cons (se_op or_add (se_var (pv 3)) se_int) sa_nil))) (sa_cons (se_var (pv 3)) sa_nil))))))
  (ss_one (sx_ret (se_var (pv 2))))))
theorem sc__law_any_web : FnScope ["_law_pen", "_law_places", "_law_ties", "_law_n", "_law_ends", "_law_k", "_law_u", "_law_order", "_law_rows", "_law_v", "_law_row"] ["_law_pen", "_law_places", "_law_ties"] (defScope (top 24)) := ⟨rfl, rfl, rfl, by decide +kernel, rfl, by decide +kernel, by decide +kernel⟩
theorem k__law_any_web (bl : Bl mg) (D : Df K mg "_law_any_web" ["_law_pen", "_law_places", "_law_ties"] (top 24)) (c__law_take : Kn PySem.Challenge.pw_burnrank_k02_ties_reaches_shapes wd K mg base ct 2 "_law_take" 2 f_law_take) (c__law_any_order : Kn PySem.Challenge.pw_burnrank_k02_ties_reaches_shapes wd K mg base ct 3 "_law_any_order" 2 f_law_any_order)   : Kn PySem.Challenge.pw_burnrank_k02_ties_reaches_shapes wd K mg base ct 4 "_law_any_web" 3 f_law_any_web :=
  have sc := sc__law_any_web
  kn_mk D sc rfl rfl fun f cdv A outer s H E hr =>
  (ss_cons (sx_asg (se_op or_add se_int (se_call c__law_take f_law_take_bad hr (by decide) rfl (sa_cons (se_var (pv 0)) (sa_cons (se_var (pv 1)) sa_nil)))) (sg_var (pg_name sc.nd rfl (Or.inr rfl))))
  (ss_cons (sx_lc1 sc.nd rfl rfl (own := [("_law_v", 9)]) (sc := defScope (top 24)) (by decide +kernel) rfl (sb_rg2 bl (sa_cons se_int (sa_cons (se_var (pv 3)) sa_nil))) (fun _ _ _ _ _ => (sw_var (by decide) (pg_name sc.nd rfl (Or.inl rfl)))) (fun _ _ _ _ _ => sts_nil) (fun _ _ _ _ _ => (sd_tup (sa_cons (se_call c__law_take f_law_take_bad hr (by decide) rfl (sa_cons (se_var (pv 0)) (sa_cons (se_var (pv 9)) sa_nil))) (sa_cons (se_var (pv 9)) sa_nil)))))
  (ss_cons (sx_for PassesOwn.never rfl (sb_rg1 bl (sa_cons (se_op or_mul (se_call c__law_take f_law_take_bad hr (by decide) rfl (sa_cons (se_var (pv 0)) (sa_cons (se_op or_add (se_op or_sub (se_var (pv 2)) (se_var (pv 3))) se_int) sa_nil))) (sb_int bl (sa_cons (se_cmp or_gt (se_var (pv 3)) se_int) sa_nil))) sa_nil)) (sg_var (pg_name sc.nd rfl (Or.inl rfl))) (ss_cons (sx_asg (se_call c__law_take f_law_take_bad hr (by decide) rfl (sa_cons (se_var (pv 0)) (sa_cons (se_var (pv 3)) sa_nil))) (sg_var (pg_name sc.nd rfl (Or.inl rfl))))
  (ss_one (sx_ex (se_mt F.slot_list_append (by kernel_rfl) mm_append (se_var (pv 4)) (sa_cons (sd_tup (sa_cons (se_var (pv 6)) (sa_cons (se_op or_mod (se_op or_add (se_op or_add (se_var (pv 6)) se_int) (se_call c__law_take f_law_take_bad hr (by decide) rfl (sa_cons (se_var (pv 0)) (sa_cons (se_op or_sub (se_var (pv 3)) se_int) sa_nil)))) (se_var (pv 3))) sa_nil))) sa_nil))))))
  (ss_cons (sx_asg (se_call c__law_any_order f_law_any_order_bad hr (by decide) rfl (sa_cons (se_var (pv 0)) (sa_cons (se_var (pv 3)) sa_nil))) (sg_var (pg_name sc.nd rfl (Or.inl rfl))))
  (ss_cons (sx_lc1 sc.nd rfl rfl (own := [("_law_u", 6)]) (sc := defScope (top 24)) (by decide +kernel) rfl (sb_rg1 bl (sa_cons (se_var (pv 3)) sa_nil)) (fun _ _ _ _ _ => (sw_var (by decide) (pg_name sc.nd rfl (Or.inl rfl)))) (fun _ _ _ _ _ => sts_nil) (fun _ _ _ _ _ => (se_op or_repR (sd_lst (sa_cons se_int sa_nil)) (se_var (pv 3)))))
  (ss_cons (sx_for PassesOwn.never rfl (si_val (se_var (pv 4))) (sg_tup rfl (sgs_cons (sg_var (pg_name sc.nd rfl (Or.inl rfl))) (sgs_cons (sg_var (pg_name sc.nd rfl (Or.inl rfl))) sgs_nil))) (ss_cons (sx_augS get_ok ip_addI (set_ok hr.hu) (se_ix ix_ok (se_var (pv 8)) (se_ix ix_ok (se_var (pv 7)) (se_var (pv 6)))) (se_ix ix_ok (se_var (pv 7)) (se_var (pv 9))) se_int)
  (ss_one (sx_augS get_ok ip_addI (set_ok hr.hu) (se_ix ix_ok (se_var (pv 8)) (se_ix ix_ok (se_var (pv 7)) (se_var (pv 9)))) (se_ix ix_ok (se_var (pv 7)) (se_var (pv 6))) se_int))))
  (ss_one (sx_ret (sb_tuple bl (sa_cons (sl_lc1 sc.nd rfl rfl (own := [("_law_row", 10)]) (sc := defScope (top 24)) (by decide +kernel) rfl (si_val (se_var (pv 8))) (fun _ _ _ _ _ => (sw_var (by decide) (pg_name sc.nd rfl (Or.inl rfl)))) (fun _ _ _ _ _ => sts_nil) (fun _ _ _ _ _ => (sb_tuple bl (sa_cons (se_var (pv 10)) sa_nil)))) sa_nil))))))))))
theorem sc__law_wrong_web : FnScope ["_law_pen", "_law_web", "_law_n", "_law_some"] ["_law_pen", "_law_web"] (defScope (top 28)) := ⟨rfl, rfl, rfl, by decide +kernel, rfl, by decide +kernel, by decide +kernel⟩
theorem k__law_wrong_web (bl : Bl mg) (D : Df K mg "_law_wrong_web" ["_law_pen", "_law_web"] (top 28)) (c__law_take : Kn PySem.Challenge.pw_burnrank_k02_ties_reaches_shapes wd K mg base ct 2 "_law_take" 2 f_law_take)   : Kn PySem.Challenge.pw_burnrank_k02_ties_reaches_shapes wd K mg base ct 3 "_law_wrong_web" 2 f_law_wrong_web :=
  have sc := sc__law_wrong_web
  kn_mk D sc rfl rfl fun f cdv A outer s H E hr =>
  (ss_cons (sx_asg (sb_len bl (sa_cons (se_var (pv 1)) sa_nil)) (sg_var (pg_name sc.nd rfl (Or.inl rfl))))
  (ss_cons (sx_asg (sd_lstR (sa_cons se_non (sa_cons se_int (sa_cons se_bl (sa_cons se_str (sa_cons (sd_tup sa_nil) (sa_cons (sd_tup (sa_cons (sd_tup sa_nil) sa_nil)) (sa_cons (sd_tup (sa_cons (sd_tup (sa_cons se_int sa_nil)) sa_nil)) (sa_cons (sd_lst (sa_cons (sd_tup (sa_cons se_int sa_nil)) sa_nil)) (sa_cons (sd_tup (sa_cons (sd_lst (sa_cons se_int sa_nil)) sa_nil)) (sa_cons (sd_tup (sa_cons (sd_tup (sa_cons se_bl sa_nil)) sa_nil)) (sa_cons (sd_tup (sa_cons (sd_tup (sa_cons se_int (sa_cons se_int sa_nil))) (sa_cons (sd_tup (sa_cons se_int (sa_cons se_int sa_nil))) sa_nil))) (sa_cons (sd_tup (sa_cons (sd_tup (sa_cons se_int (sa_cons se_int sa_nil))) (sa_cons (sd_tup (sa_cons se_int (sa_cons se_int sa_nil))) sa_nil))) sa_nil))))))))))))) (sg_var (pg_name sc.nd rfl (Or.inl rfl))))
  (ss_cons (sx_asg (se_op or_addR (se_var (pv 3)) (sd_lst (sa_cons (sd_tup (sa_cons (sd_tup (sa_cons se_int (sa_cons se_int sa_nil))) (sa_cons (sd_tup (sa_cons se_int (sa_cons se_int sa_nil))) sa_nil))) (sa_cons (sd_tup (sa_cons (sd_tup (sa_cons se_int (sa_cons (se_un ur_neg se_int) sa_nil))) (sa_cons (sd_tup (sa_cons (se_un ur_neg se_int) (sa_cons se_int sa_nil))) sa_nil))) (sa_cons (sd_tup (sa_cons (sd_tup (sa_cons se_int (sa_cons se_int sa_nil))) (sa_cons (sd_tup (sa_cons se_int (sa_cons se_int sa_nil))) sa_nil))) (sa_cons (sd_tup (sa_cons (sd_tup (sa_cons se_int (sa_cons se_bl sa_nil))) (sa_cons (sd_tup (sa_cons se_bl (sa_cons se_int sa_nil))) sa_nil))) (sa_cons (sd_tup (sa_cons (sd_tup (sa_cons se_int (sa_cons se_int sa_nil))) (sa_cons (sd_tup (sa_cons se_int sa_nil)) sa_nil))) sa_nil))))))) (sg_var (pg_name sc.nd rfl (Or.inl rfl))))
  (ss_cons (sx_asg (se_op or_addR (se_var (pv 3)) (sd_lst (sa_cons (sd_tup (sa_cons (sd_tup (sa_cons se_int (sa_cons se_int (sa_cons se_int sa_nil)))) (sa_cons (sd_tup (sa_cons se_int (sa_cons se_int sa_nil))) sa_nil))) (sa_cons (sb_list bl (sa_cons (se_var (pv 1)) sa_nil)) (sa_cons (se_op or_add (se_var (pv 1)) (sd_tup (sa_cons (se_ix ix_ok (se_var (pv 1)) se_int) sa_nil))) (sa_cons (se_op or_add (se_sl sl_ok (se_var (pv 1)) so_no (so_p (se_un ur_neg se_int))) (sd_tup (sa_cons se_non sa_nil))) sa_nil)))))) (sg_var (pg_name sc.nd rfl (Or.inl rfl))))
  (ss_cons (sx_ex (se_mt F.slot_list_append (by kernel_rfl) mm_append (se_var (pv 3)) (sa_cons (se_op or_add (sd_tup (sa_cons (sb_list bl (sa_cons (se_ix ix_ok (se_var (pv 1)) se_int) sa_nil)) sa_nil)) (se_sl sl_ok (se_var (pv 1)) (so_p se_int) so_no)) sa_nil)))
  (ss_cons (sx_asg (se_op or_addR (se_var (pv 3)) (sd_lst (sa_cons (sd_tup (sa_cons (sd_tup (sa_cons se_int (sa_cons se_int (sa_cons se_int (sa_cons se_int sa_nil))))) (sa_cons (sd_tup (sa_cons se_int (sa_cons se_int (sa_cons se_int (sa_cons se_int sa_nil))))) (sa_cons (sd_tup (sa_cons se_int (sa_cons se_int (sa_cons se_int (sa_cons se_int sa_nil))))) (sa_cons (sd_tup (sa_cons se_int (sa_cons se_int (sa_cons se_int (sa_cons se_int sa_nil))))) sa_nil))))) (sa_cons (sd_tup (sa_cons (sd_tup (sa_cons se_int (sa_cons (se_op or_pow se_int se_int) sa_nil))) (sa_cons (sd_tup (sa_cons (se_op or_pow se_int se_int) (sa_cons se_int sa_nil))) sa_nil))) sa_nil)))) (sg_var (pg_name sc.nd rfl (Or.inl rfl))))
  (ss_one (sx_ret (se_ix ix_ok (se_var (pv 3)) (se_call c__law_take f_law_take_bad hr (by decide) rfl (sa_cons (se_var (pv 0)) (sa_cons (sb_len bl (sa_cons (se_var (pv 3)) sa_nil)) sa_nil))))))))))))
theorem sc__law_all_ties : FnScope ["_law_web", "_law_n", "_law_found", "_law_u", "_law_v"] ["_law_web"] (defScope (top 27)) := ⟨rfl, rfl, rfl, by decide +kernel, rfl, by decide +kernel, by decide +kernel⟩
theorem k__law_all_ties (bl : Bl mg) (D : Df K mg "_law_all_ties" ["_law_web"] (top 27))    : Kn PySem.Challenge.pw_burnrank_k02_ties_reaches_shapes wd K mg base ct 1 "_law_all_ties" 1 f_law_all_ties :=
  have sc := sc__law_all_ties
  kn_mk D sc rfl rfl fun f cdv A outer s H E hr =>
  (ss_cons (sx_asg (sb_len bl (sa_cons (se_var (pv 0)) sa_nil)) (sg_var (pg_name sc.nd rfl (Or.inl rfl))))
  (ss_cons (sx_asg (sd_lst sa_nil) (sg_var (pg_name sc.nd rfl (Or.inl rfl))))
  (ss_cons (sx_for PassesOwn.never rfl (sb_rg1 bl (sa_cons (se_var (pv 1)) sa_nil)) (sg_var (pg_name sc.nd rfl (Or.inl rfl))) (ss_one (sx_for PassesOwn.never rfl (sb_rg2 bl (sa_cons (se_op or_add (se_var (pv 3)) se_int) (sa_cons (se_var (pv 1)) sa_nil))) (sg_var (pg_name sc.nd rfl (Or.inl rfl))) (ss_one (sx_asg (se_op or_add (se_var (pv 2)) (se_op or_mul (sd_lst (sa_cons (sd_tup (sa_cons (se_var (pv 3)) (sa_cons (se_var (pv 4)) sa_nil))) sa_nil)) (se_ix ix_ok (se_ix ix_ok (se_var (pv 0)) (se_var (pv 3))) (se_var (pv 4))))) (sg_var (pg_name sc.nd rfl (Or.inl rfl))))))))
  (ss_one (sx_ret (se_var (pv 2)))))))
theorem sc_joined_places : FnScope ["web", "found", "left", "u", "v", "many"] ["web"] (defScope (top 9)) := ⟨rfl, rfl, rfl, by decide +kernel, rfl, by decide +kernel, by decide +kernel⟩
theorem k_joined_places (bl : Bl mg) (D : Df K mg "joined_places" ["web"] (top 9))    : Kn PySem.Challenge.pw_burnrank_k02_ties_reaches_shapes wd K mg base ct 1 "joined_places" 1 f_joined_places :=
  have sc := sc_joined_places
  kn_mk D sc rfl rfl fun f cdv A outer s H E hr =>
  (ss_cons (sx_asg (se_dsp1 lf_int lf_bl) (sg_var (pg_name sc.nd rfl (Or.inl rfl))))
  (ss_cons (sx_asg (sd_lstR (sa_cons se_int sa_nil)) (sg_var (pg_name sc.nd rfl (Or.inl rfl))))
  (ss_cons (sx_wh PassesOwn.never (st_cmp (or_ne hr.units) (se_var (pv 2)) (sd_lst sa_nil)) (ss_cons (sx_asg (se_mt0 F.slot_list_pop (by kernel_rfl) mm_pop (se_var (pv 2))) (sg_var (pg_name sc.nd rfl (Or.inl rfl))))
  (ss_one (sx_for PassesOwn.never rfl (sb_en bl (sa_cons (se_ix ix_ok (se_var (pv 0)) (se_var (pv 3))) sa_nil)) (sg_tup rfl (sgs_cons (sg_var (pg_name sc.nd rfl (Or.inl rfl))) (sgs_cons (sg_var (pg_name sc.nd rfl (Or.inl rfl))) sgs_nil))) (ss_one (sx_if (st_w (sw_and (st_cmp or_gt (se_var (pv 5)) se_int) (sw_and1 (st_cmp (or_nind hr.hu) (se_var (pv 4)) (se_var (pv 1)))))) (ss_cons (sx_asg se_bl (sg_sub (set_ok hr.hu) (se_var (pv 1)) (se_var (pv 4))))
  (ss_one (sx_ex (se_mt F.slot_list_append (by kernel_rfl) mm_append (se_var (pv 2)) (sa_cons (se_var (pv 4)) sa_nil))))) ss_nil))))))
  (ss_one (sx_ret (se_var (pv 1)))))))
theorem sc_is_whole : FnScope ["thing"] ["thing"] (defScope (top 7)) := ⟨rfl, rfl, rfl, by decide +kernel, rfl, by decide +kernel, by decide +kernel⟩
theorem k_is_whole (bl : Bl mg) (D : Df K mg "is_whole" ["thing"] (top 7))    : Kn PySem.Challenge.pw_burnrank_k02_ties_reaches_shapes wd K mg base ct 1 "is_whole" 1 f_is_whole :=
  have sc := sc_is_whole
  kn_mk D sc rfl rfl fun f cdv A outer s H E hr =>
  (ss_one (sx_ret (se_and (sb_is1 (by decide) bl (se_var (pv 0)) (ty_int bl)) (se_one (se_not (sb_is1 (by decide) bl (se_var (pv 0)) (ty_bool bl)))))))
theorem sc_is_row : FnScope ["thing", "many", "part"] ["thing", "many"] (defScope (top 8)) := ⟨rfl, rfl, rfl, by decide +kernel, rfl, by decide +kernel, by decide +kernel⟩
theorem k_is_row (bl : Bl mg) (D : Df K mg "is_row" ["thing", "many"] (top 8)) (c_is_whole : Kn PySem.Challenge.pw_burnrank_k02_ties_reaches_shapes wd K mg base ct 1 "is_whole" 1 f_is_whole)   : Kn PySem.Challenge.pw_burnrank_k02_ties_reaches_shapes wd K mg base ct 2 "is_row" 2 f_is_row :=
  have sc := sc_is_row
  kn_mk D sc rfl rfl fun f cdv A outer s H E hr =>
  (ss_one (sx_ret (se_and (sb_is1 (by decide) bl (se_var (pv 0)) (ty_tuple bl)) (se_and (se_cmp (or_eq hr.units) (sb_len bl (sa_cons (se_var (pv 0)) sa_nil)) (se_var (pv 1))) (se_one (sb_all bl (sa_cons (sl_lc1 sc.nd rfl rfl (own := [("part", 2)]) (sc := defScope (top 8)) (by decide +kernel) rfl (si_val (se_var (pv 0))) (fun _ _ _ _ _ => (sw_var (by decide) (pg_name sc.nd rfl (Or.inl rfl)))) (fun _ _ _ _ _ => sts_nil) (fun _ _ _ _ _ => (se_call c_is_whole f_is_whole_bad hr (by decide) rfl (sa_cons (se_var (pv 2)) sa_nil)))) sa_nil)))))))
theorem sc_is_web : FnScope ["thing", "n", "row", "u", "v"] ["thing"] (defScope (top 10)) := ⟨rfl, rfl, rfl, by decide +kernel, rfl, by decide +kernel, by decide +kernel⟩
theorem k_is_web (bl : Bl mg) (D : Df K mg "is_web" ["thing"] (top 10)) (c_is_row : Kn PySem.Challenge.pw_burnrank_k02_ties_reaches_shapes wd K mg base ct 2 "is_row" 2 f_is_row) (c_joined_places : Kn PySem.Challenge.pw_burnrank_k02_ties_reaches_shapes wd K mg base ct 1 "joined_places" 1 f_joined_places) (gi_MOST_PLACES : ∃ t, mg "MOST_PLACES" = some (.int 10 t)) (gi_MOST_TIES : ∃ t, mg "MOST_TIES" = some (.int 12 t))  : Kn PySem.Challenge.pw_burnrank_k02_ties_reaches_shapes wd K mg base ct 3 "is_web" 1 f_is_web :=
  have sc := sc_is_web
  kn_mk D sc rfl rfl fun f cdv A outer s H E hr =>
  (ss_cons (sx_if (st_w (sw_or (st_not (st_val (sb_is1 (by decide) bl (se_var (pv 0)) (ty_tuple bl)))) (sw_or1 (st_not (st_chain or_le or_le se_int (sb_len bl (sa_cons (se_var (pv 0)) sa_nil)) (se_gi gi_MOST_PLACES)))))) (ss_one (sx_ret se_bl)) ss_nil)
  (ss_cons (sx_asg (sb_len bl (sa_cons (se_var (pv 0)) sa_nil)) (sg_var (pg_name sc.nd rfl (Or.inr rfl))))
  (ss_cons (sx_if (st_not (st_val (sb_all bl (sa_cons (sl_lc1 sc.nd rfl rfl (own := [("row", 2)]) (sc := defScope (top 10)) (by decide +kernel) rfl (si_val (se_var (pv 0))) (fun _ _ _ _ _ => (sw_var (by decide) (pg_name sc.nd rfl (Or.inl rfl)))) (fun _ _ _ _ _ => sts_nil) (fun _ _ _ _ _ => (se_and (se_call c_is_row f_is_row_bad hr (by decide) rfl (sa_cons (se_var (pv 2)) (sa_cons (se_var (pv 1)) sa_nil))) (se_one (se_cmp or_ge (sb_min bl (sa_cons (se_var (pv 2)) sa_nil)) se_int))))) sa_nil)))) (ss_one (sx_ret se_bl)) ss_nil)
  (ss_cons (sx_if (st_not (st_val (sb_all bl (sa_cons (sl_lc2 sc.nd rfl rfl (own := [("u", 3), ("v", 4)]) (sc := defScope (top 10)) (by decide +kernel) rfl (by decide) (sb_rg1 bl (sa_cons (se_var (pv 1)) sa_nil)) (fun _ _ _ _ _ => (sw_var (by decide) (pg_name sc.nd rfl (Or.inl rfl)))) (fun _ _ _ _ _ => sts_nil) (fun _ _ _ _ _ => (sb_rg1 bl (sa_cons (se_var (pv 1)) sa_nil))) (fun _ _ _ _ _ => (sw_var (by decide) (pg_name sc.nd rfl (Or.inl rfl)))) (fun _ _ _ _ _ => sts_nil) (fun _ _ _ _ _ => (se_and (se_cmp (or_eq hr.units) (se_ix ix_ok (se_ix ix_ok (se_var (pv 0)) (se_var (pv 3))) (se_var (pv 4))) (se_ix ix_ok (se_ix ix_ok (se_var (pv 0)) (se_var (pv 4))) (se_var (pv 3)))) (se_one (se_cmp (or_eq hr.units) (se_ix ix_ok (se_ix ix_ok (se_var (pv 0)) (se_var (pv 3))) (se_var (pv 3))) se_int))))) sa_nil)))) (ss_one (sx_ret se_bl)) ss_nil)
  (ss_one (sx_ret (se_and (se_cmp or_le (sb_sum bl (sa_cons (sl_lc1 sc.nd rfl rfl (own := [("row", 2)]) (sc := defScope (top 10)) (by decide +kernel) rfl (si_val (se_var (pv 0))) (fun _ _ _ _ _ => (sw_var (by decide) (pg_name sc.nd rfl (Or.inl rfl)))) (fun _ _ _ _ _ => sts_nil) (fun _ _ _ _ _ => (sb_sum bl (sa_cons (se_var (pv 2)) sa_nil)))) sa_nil)) (se_op or_mul se_int (se_gi gi_MOST_TIES))) (se_one (se_cmp (or_eq hr.units) (sb_len bl (sa_cons (se_call c_joined_places f_joined_places_bad hr (by decide) rfl (sa_cons (se_var (pv 0)) sa_nil)) sa_nil)) (se_var (pv 1)))))))))))
theorem sc_need_web : FnScope ["thing"] ["thing"] (defScope (top 11)) := ⟨rfl, rfl, rfl, by decide +kernel, rfl, by decide +kernel, by decide +kernel⟩
theorem k_need_web (bl : Bl mg) (D : Df K mg "need_web" ["thing"] (top 11)) (c_is_web : Kn PySem.Challenge.pw_burnrank_k02_ties_reaches_shapes wd K mg base ct 3 "is_web" 1 f_is_web)   : Kn PySem.Challenge.pw_burnrank_k02_ties_reaches_shapes wd K mg base ct 4 "need_web" 1 f_need_web :=
  have sc := sc_need_web
  kn_mk D sc rfl rfl fun f cdv A outer s H E hr =>
  (ss_one (sx_if (st_not (st_val (se_call c_is_web f_is_web_bad hr (by decide) rfl (sa_cons (se_var (pv 0)) sa_nil)))) (ss_one sx_raise) ss_nil))
theorem k_need_web_x (bl : Bl mg) (D : Df K mg "need_web" ["thing"] (top 11)) (c_is_web : Kn PySem.Challenge.pw_burnrank_k02_ties_reaches_shapes wd K mg base ct 3 "is_web" 1 f_is_web)  (E_NoWeb : ExcAt K mg ct 0 "NoWeb") : KnX PySem.Challenge.pw_burnrank_k02_ties_reaches_shapes wd K mg base ct 4 "need_web" 1 f_need_web_x :=
  have sc := sc_need_web
  kn_mkX D sc rfl rfl fun f cdv A outer s H E hr tk =>
  (qss_one (qs_if (st_not (st_val (se_call c_is_web f_is_web_bad hr (by decide) rfl (sa_cons (se_var (pv 0)) sa_nil)))) (qss_one (qs_rse E_NoWeb rfl tk rfl)) (qss_v ss_nil)))
theorem sc_ties_of : FnScope ["web", "n", "u", "v", "turn"] ["web"] (defScope (top 13)) := ⟨rfl, rfl, rfl, by decide +kernel, rfl, by decide +kernel, by decide +kernel⟩
theorem k_ties_of (bl : Bl mg) (D : Df K mg "ties_of" ["web"] (top 13)) (c_need_web : Kn PySem.Challenge.pw_burnrank_k02_ties_reaches_shapes wd K mg base ct 4 "need_web" 1 f_need_web)   : Kn PySem.Challenge.pw_burnrank_k02_ties_reaches_shapes wd K mg base ct 5 "ties_of" 1 f_ties_of :=
  have sc := sc_ties_of
  kn_mkK D sc rfl rfl fun f cdv A outer s H E hr =>
  (ss_cons (sx_ex (se_call c_need_web f_need_web_bad hr (by decide) rfl (sa_cons (se_var (pv 0)) sa_nil)))
  (ss_cons (sx_asg (sb_len bl (sa_cons (se_var (pv 0)) sa_nil)) (sg_var (pg_name sc.nd rfl (Or.inr rfl))))
  (ss_one (sx_ret (sl_lc3 sc.nd rfl rfl (own := [("u", 2), ("v", 3), ("turn", 4)]) (sc := defScope (top 13)) (by decide +kernel) rfl (by decide) (by decide) (sb_rg1 bl (sa_cons (se_var (pv 1)) sa_nil)) (fun _ _ _ _ _ => (sw_var (by decide) (pg_name sc.nd rfl (Or.inl rfl)))) (fun _ _ _ _ _ => sts_nil) (fun _ _ _ _ _ => (sb_rg2 bl (sa_cons (se_op or_add (se_var (pv 2)) se_int) (sa_cons (se_var (pv 1)) sa_nil)))) (fun _ _ _ _ _ => (sw_var (by decide) (pg_name sc.nd rfl (Or.inl rfl)))) (fun _ _ _ _ _ => sts_nil) (fun _ _ _ _ _ => (sb_rg1 bl (sa_cons (se_ix ix_ok (se_ix ix_ok (se_var (pv 0)) (se_var (pv 2))) (se_var (pv 3))) sa_nil))) (fun _ _ _ _ _ => (sw_var (by decide) (pg_name sc.nd rfl (Or.inl rfl)))) (fun _ _ _ _ _ => sts_nil) (fun _ _ _ _ _ => (sd_tup (sa_cons (se_var (pv 2)) (sa_cons (se_var (pv 3)) sa_nil)))))))))
theorem k_ties_of_x (bl : Bl mg) (D : Df K mg "ties_of" ["web"] (top 13)) (c_need_web_x : KnX PySem.Challenge.pw_burnrank_k02_ties_reaches_shapes wd K mg base ct 4 "need_web" 1 f_need_web_x)   : KnX PySem.Challenge.pw_burnrank_k02_ties_reaches_shapes wd K mg base ct 5 "ties_of" 1 f_ties_of_x :=
  have sc := sc_ties_of
  kn_mkX D sc rfl rfl fun f cdv A outer s H E hr tk =>
  (qss_cons noLook_fn (qs_ex (qe_call tk c_need_web_x f_need_web_x_bad hr (by decide) rfl (sa_cons (se_var (pv 0)) sa_nil)))
  (qss_v (ss_cons (sx_asg (sb_len bl (sa_cons (se_var (pv 0)) sa_nil)) (sg_var (pg_name sc.nd rfl (Or.inr rfl))))
  (ss_one (sx_ret (sl_lc3 sc.nd rfl rfl (own := [("u", 2), ("v", 3), ("turn", 4)]) (sc := defScope (top 13)) (by decide +kernel) rfl (by decide) (by decide) (sb_rg1 bl (sa_cons (se_var (pv 1)) sa_nil)) (fun _ _ _ _ _ => (sw_var (by decide) (pg_name sc.nd rfl (Or.inl rfl)))) (fun _ _ _ _ _ => sts_nil) (fun _ _ _ _ _ => (sb_rg2 bl (sa_cons (se_op or_add (se_var (pv 2)) se_int) (sa_cons (se_var (pv 1)) sa_nil)))) (fun _ _ _ _ _ => (sw_var (by decide) (pg_name sc.nd rfl (Or.inl rfl)))) (fun _ _ _ _ _ => sts_nil) (fun _ _ _ _ _ => (sb_rg1 bl (sa_cons (se_ix ix_ok (se_ix ix_ok (se_var (pv 0)) (se_var (pv 2))) (se_var (pv 3))) sa_nil))) (fun _ _ _ _ _ => (sw_var (by decide) (pg_name sc.nd rfl (Or.inl rfl)))) (fun _ _ _ _ _ => sts_nil) (fun _ _ _ _ _ => (sd_tup (sa_cons (se_var (pv 2)) (sa_cons (se_var (pv 3)) sa_nil))))))))))
theorem sc__law_same : FnScope ["_law_found", "_law_due", "_law_one", "_law_other"] ["_law_found", "_law_due"] (defScope (top 22)) := ⟨rfl, rfl, rfl, by decide +kernel, rfl, by decide +kernel, by decide +kernel⟩
theorem k1__law_same {F : EF} {k : Nat} (hF : ∀ (ds : List D) (h : Hd), ds.length ≠ 2 → F ds h = .bad) (bl : Bl mg) (D : Df K mg "_law_same" ["_law_found", "_law_due"] (top 22)) (c__law_same : Kn PySem.Challenge.pw_burnrank_k02_ties_reaches_shapes wd K mg base ct (0 + k) "_law_same" 2 F)    : Kn PySem.Challenge.pw_burnrank_k02_ties_reaches_shapes wd K mg base ct (0 + k + 1) "_law_same" 2 (f_law_same_B F) :=
  have sc := sc__law_same
  kn_mk D sc rfl rfl fun f cdv A outer s H E hr =>
  (ss_cons (sx_if (st_w (sw_or (st_isN (se_var (pv 1))) (sw_or1 (st_isN (se_var (pv 0)))))) (ss_one (sx_ret (se_and (se_isN (se_var (pv 1))) (se_one (se_isN (se_var (pv 0))))))) ss_nil)
  (ss_cons (sx_if (st_w (sw_or (st_val (sb_is1 (by decide) bl (se_var (pv 1)) (ty_bool bl))) (sw_or1 (st_val (sb_is1 (by decide) bl (se_var (pv 0)) (ty_bool bl)))))) (ss_one (sx_ret (se_and (sb_is1 (by decide) bl (se_var (pv 1)) (ty_bool bl)) (se_and (sb_is1 (by decide) bl (se_var (pv 0)) (ty_bool bl)) (se_one (se_cmp (or_eq hr.units) (se_var (pv 0)) (se_var (pv 1)))))))) ss_nil)
  (ss_cons (sx_if (st_val (sb_is2 (by decide) (by decide) bl (se_var (pv 1)) (ty_int bl) (ty_str bl))) (ss_cons (sx_if (st_cmp (or_ne hr.units) (sb_is1 (by decide) bl (se_var (pv 0)) (ty_int bl)) (sb_is1 (by decide) bl (se_var (pv 1)) (ty_int bl))) (ss_one (sx_ret se_bl)) ss_nil)
  (ss_one (sx_ret (se_and (sb_is2 (by decide) (by decide) bl (se_var (pv 0)) (ty_int bl) (ty_str bl)) (se_one (se_cmp (or_eq hr.units) (se_var (pv 0)) (se_var (pv 1)))))))) ss_nil)
  (ss_cons (sx_if (st_w (sw_or (st_cmp (or_ne hr.units) (sb_is1 (by decide) bl (se_var (pv 1)) (ty_tuple bl)) (sb_is1 (by decide) bl (se_var (pv 0)) (ty_tuple bl))) (sw_or1 (st_cmp (or_ne hr.units) (sb_is1 (by decide) bl (se_var (pv 1)) (ty_list bl)) (sb_is1 (by decide) bl (se_var (pv 0)) (ty_list bl)))))) (ss_one (sx_ret se_bl)) ss_nil)
  (ss_cons (sx_if (st_cmp (or_ne hr.units) (sb_len bl (sa_cons (se_var (pv 0)) sa_nil)) (sb_len bl (sa_cons (se_var (pv 1)) sa_nil))) (ss_one (sx_ret se_bl)) ss_nil)
  (ss_one (sx_ret (se_cmp or_nin se_bl (sl_lc1 sc.nd rfl rfl (own := [("_law_one", 2), ("_law_other", 3)]) (sc := defScope (top 22)) (by decide +kernel) rfl (sb_zipN bl (sa_cons (se_var (pv 0)) (sa_cons (se_var (pv 1)) sa_nil))) (fun _ _ _ _ _ => (sw_tup rfl (sws_cons (sw_var (by decide) (pg_name sc.nd rfl (Or.inl rfl))) (sws_cons (sw_var (by decide) (pg_name sc.nd rfl (Or.inl rfl))) sws_nil)))) (fun _ _ _ _ _ => sts_nil) (fun _ _ _ _ _ => (se_call c__law_same hF hr (by omega) rfl (sa_cons (se_var (pv 2)) (sa_cons (se_var (pv 3)) sa_nil)))))))))))))
theorem kF__law_same (bl : Bl mg) (D : Df K mg "_law_same" ["_law_found", "_law_due"] (top 22))    : ∀ k : Nat, Kn PySem.Challenge.pw_burnrank_k02_ties_reaches_shapes wd K mg base ct (0 + k) "_law_same" 2 (f_law_same_F k)
  | 0 => kn_zero D
  | k + 1 => k1__law_same (f_law_same_Fbad k) bl D (kF__law_same bl D  k) 
theorem k__law_same (bl : Bl mg) (D : Df K mg "_law_same" ["_law_found", "_law_due"] (top 22))    : Kn PySem.Challenge.pw_burnrank_k02_ties_reaches_shapes wd K mg base ct 6 "_law_same" 2 f_law_same := kF__law_same bl D  6
theorem sc__law_refused : FnScope ["_law_caught_here", "_law_no_web"] ["_law_caught_here", "_law_no_web"] (defScope (top 30)) := ⟨rfl, rfl, rfl, by decide +kernel, rfl, by decide +kernel, by decide +kernel⟩
theorem k__law_refused (bl : Bl mg) (D : Df K mg "_law_refused" ["_law_caught_here", "_law_no_web"] (top 30))   (E_NoPlace : ExcAt K mg ct 4 "NoPlace") (E_NoWeb : ExcAt K mg ct 0 "NoWeb") (xE : ∀ c, ExcC K (ct c).1) (mV : mg "ValueError" = none) (xkV : ∀ c, PySem.W.kitOne K (.ref (ct c).1) (.type "ValueError") = some true) (xnV : PySem.W.kitOne K (.type "NoneType") (.type "ValueError") = some false) (xn_NoPlace : PySem.W.kitOne K (.type "NoneType") (.ref (ct 4).1) = some false) (xn_NoWeb : PySem.W.kitOne K (.type "NoneType") (.ref (ct 0).1) = some false) (xk_NoPlace : ∀ c, PySem.W.kitOne K (.ref (ct c).1) (.ref (ct 4).1) = some (subP [0, 4] 4 c)) (xk_NoWeb : ∀ c, PySem.W.kitOne K (.ref (ct c).1) (.ref (ct 0).1) = some (subP [0, 4] 0 c)) : Kn PySem.Challenge.pw_burnrank_k02_ties_reaches_shapes wd K mg base ct 1 "_law_refused" 2 f_law_refused :=
  have sc := sc__law_refused
  kn_mk D sc rfl rfl fun f cdv A outer s H E hr =>
  (ss_cons (sx_if (st_w (sw_or (st_isN (se_var (pv 0))) (sw_or1 (st_not (st_val (se_isT xE xkV xnV bl (se_var (pv 0)) rfl mV boot_VE)))))) (ss_one (sx_ret se_bl)) ss_nil)
  (ss_one (sx_ret (se_and (se_cmp (or_eq hr.units) (se_isX xE xk_NoWeb xn_NoWeb bl (se_var (pv 0)) rfl E_NoWeb.gC) (se_var (pv 1))) (se_one (se_cmp (or_ne hr.units) (se_isX xE xk_NoPlace xn_NoPlace bl (se_var (pv 0)) rfl E_NoPlace.gC) (se_var (pv 1))))))))
theorem sc_shape : FnScope ["web"] ["web"] (defScope (top 15)) := ⟨rfl, rfl, rfl, by decide +kernel, rfl, by decide +kernel, by decide +kernel⟩
theorem k_shape (bl : Bl mg) (D : Df K mg "shape" ["web"] (top 15)) (c_ties_of : Kn PySem.Challenge.pw_burnrank_k02_ties_reaches_shapes wd K mg base ct 5 "ties_of" 1 f_ties_of)   : Kn PySem.Challenge.pw_burnrank_k02_ties_reaches_shapes wd K mg base ct 6 "shape" 1 f_shape :=
  have sc := sc_shape
  kn_mk D sc rfl rfl fun f cdv A outer s H E hr =>
  (ss_one (sx_ret (se_op or_add (se_op or_sub (sb_len bl (sa_cons (se_call c_ties_of f_ties_of_bad hr (by decide) rfl (sa_cons (se_var (pv 0)) sa_nil)) sa_nil)) (sb_len bl (sa_cons (se_var (pv 0)) sa_nil))) se_int)))
theorem k_shape_x (bl : Bl mg) (D : Df K mg "shape" ["web"] (top 15)) (c_ties_of_x : KnX PySem.Challenge.pw_burnrank_k02_ties_reaches_shapes wd K mg base ct 5 "ties_of" 1 f_ties_of_x)   : KnX PySem.Challenge.pw_burnrank_k02_ties_reaches_shapes wd K mg base ct 6 "shape" 1 f_shape_x :=
  have sc := sc_shape
  kn_mkX D sc rfl rfl fun f cdv A outer s H E hr tk =>
  (qss_one (qs_ret (qe_op or_add (qe_op or_sub (qe_len bl (qe_call tk c_ties_of_x f_ties_of_x_bad hr (by decide) rfl (sa_cons (se_var (pv 0)) sa_nil))) (sb_len bl (sa_cons (se_var (pv 0)) sa_nil))) se_int)))
theorem sc_own_heap : FnScope ["web", "row"] ["web"] (defScope (top 16)) := ⟨rfl, rfl, rfl, by decide +kernel, rfl, by decide +kernel, by decide +kernel⟩
theorem k_own_heap (bl : Bl mg) (D : Df K mg "own_heap" ["web"] (top 16)) (c_need_web : Kn PySem.Challenge.pw_burnrank_k02_ties_reaches_shapes wd K mg base ct 4 "need_web" 1 f_need_web)   : Kn PySem.Challenge.pw_burnrank_k02_ties_reaches_shapes wd K mg base ct 5 "own_heap" 1 f_own_heap :=
  have sc := sc_own_heap
  kn_mk D sc rfl rfl fun f cdv A outer s H E hr =>
  (ss_cons (sx_ex (se_call c_need_web f_need_web_bad hr (by decide) rfl (sa_cons (se_var (pv 0)) sa_nil)))
  (ss_one (sx_ret (sb_tuple bl (sa_cons (sl_lc1 sc.nd rfl rfl (own := [("row", 1)]) (sc := defScope (top 16)) (by decide +kernel) rfl (si_val (se_var (pv 0))) (fun _ _ _ _ _ => (sw_var (by decide) (pg_name sc.nd rfl (Or.inl rfl)))) (fun _ _ _ _ _ => sts_nil) (fun _ _ _ _ _ => (se_op or_sub (sb_sum bl (sa_cons (se_var (pv 1)) sa_nil)) se_int))) sa_nil)))))
theorem k_own_heap_x (bl : Bl mg) (D : Df K mg "own_heap" ["web"] (top 16)) (c_need_web_x : KnX PySem.Challenge.pw_burnrank_k02_ties_reaches_shapes wd K mg base ct 4 "need_web" 1 f_need_web_x)   : KnX PySem.Challenge.pw_burnrank_k02_ties_reaches_shapes wd K mg base ct 5 "own_heap" 1 f_own_heap_x :=
  have sc := sc_own_heap
  kn_mkX D sc rfl rfl fun f cdv A outer s H E hr tk =>
  (qss_cons noLook_fn (qs_ex (qe_call tk c_need_web_x f_need_web_x_bad hr (by decide) rfl (sa_cons (se_var (pv 0)) sa_nil)))
  (qss_v (ss_one (sx_ret (sb_tuple bl (sa_cons (sl_lc1 sc.nd rfl rfl (own := [("row", 1)]) (sc := defScope (top 16)) (by decide +kernel) rfl (si_val (se_var (pv 0))) (fun _ _ _ _ _ => (sw_var (by decide) (pg_name sc.nd rfl (Or.inl rfl)))) (fun _ _ _ _ _ => sts_nil) (fun _ _ _ _ _ => (se_op or_sub (sb_sum bl (sa_cons (se_var (pv 1)) sa_nil)) se_int))) sa_nil))))))
theorem sc_need_place : FnScope ["web", "thing"] ["web", "thing"] (defScope (top 12)) := ⟨rfl, rfl, rfl, by decide +kernel, rfl, by decide +kernel, by decide +kernel⟩
theorem k_need_place (bl : Bl mg) (D : Df K mg "need_place" ["web", "thing"] (top 12)) (c_is_whole : Kn PySem.Challenge.pw_burnrank_k02_ties_reaches_shapes wd K mg base ct 1 "is_whole" 1 f_is_whole)   : Kn PySem.Challenge.pw_burnrank_k02_ties_reaches_shapes wd K mg base ct 2 "need_place" 2 f_need_place :=
  have sc := sc_need_place
  kn_mk D sc rfl rfl fun f cdv A outer s H E hr =>
  (ss_one (sx_if (st_w (sw_or (st_not (st_val (se_call c_is_whole f_is_whole_bad hr (by decide) rfl (sa_cons (se_var (pv 1)) sa_nil)))) (sw_or1 (st_not (st_chain or_le or_lt se_int (se_var (pv 1)) (sb_len bl (sa_cons (se_var (pv 0)) sa_nil))))))) (ss_one sx_raise) ss_nil))
theorem k_need_place_x (bl : Bl mg) (D : Df K mg "need_place" ["web", "thing"] (top 12)) (c_is_whole : Kn PySem.Challenge.pw_burnrank_k02_ties_reaches_shapes wd K mg base ct 1 "is_whole" 1 f_is_whole)  (E_NoPlace : ExcAt K mg ct 4 "NoPlace") : KnX PySem.Challenge.pw_burnrank_k02_ties_reaches_shapes wd K mg base ct 2 "need_place" 2 f_need_place_x :=
  have sc := sc_need_place
  kn_mkX D sc rfl rfl fun f cdv A outer s H E hr tk =>
  (qss_one (qs_if (st_w (sw_or (st_not (st_val (se_call c_is_whole f_is_whole_bad hr (by decide) rfl (sa_cons (se_var (pv 1)) sa_nil)))) (sw_or1 (st_not (st_chain or_le or_lt se_int (se_var (pv 1)) (sb_len bl (sa_cons (se_var (pv 0)) sa_nil))))))) (qss_one (qs_rse E_NoPlace rfl tk rfl)) (qss_v ss_nil)))
theorem sc_reach : FnScope ["web", "place"] ["web", "place"] (defScope (top 14)) := ⟨rfl, rfl, rfl, by decide +kernel, rfl, by decide +kernel, by decide +kernel⟩
theorem k_reach (bl : Bl mg) (D : Df K mg "reach" ["web", "place"] (top 14)) (c_need_web : Kn PySem.Challenge.pw_burnrank_k02_ties_reaches_shapes wd K mg base ct 4 "need_web" 1 f_need_web) (c_need_place : Kn PySem.Challenge.pw_burnrank_k02_ties_reaches_shapes wd K mg base ct 2 "need_place" 2 f_need_place)   : Kn PySem.Challenge.pw_burnrank_k02_ties_reaches_shapes wd K mg base ct 5 "reach" 2 f_reach :=
  have sc := sc_reach
  kn_mk D sc rfl rfl fun f cdv A outer s H E hr =>
  (ss_cons (sx_ex (se_call c_need_web f_need_web_bad hr (by decide) rfl (sa_cons (se_var (pv 0)) sa_nil)))
  (ss_cons (sx_ex (se_call c_need_place f_need_place_bad hr (by decide) rfl (sa_cons (se_var (pv 0)) (sa_cons (se_var (pv 1)) sa_nil))))
  (ss_one (sx_ret (sb_sum bl (sa_cons (se_ix ix_ok (se_var (pv 0)) (se_var (pv 1))) sa_nil))))))
theorem k_reach_x (bl : Bl mg) (D : Df K mg "reach" ["web", "place"] (top 14)) (c_need_web_x : KnX PySem.Challenge.pw_burnrank_k02_ties_reaches_shapes wd K mg base ct 4 "need_web" 1 f_need_web_x) (c_need_place_x : KnX PySem.Challenge.pw_burnrank_k02_ties_reaches_shapes wd K mg base ct 2 "need_place" 2 f_need_place_x)   : KnX PySem.Challenge.pw_burnrank_k02_ties_reaches_shapes wd K mg base ct 5 "reach" 2 f_reach_x :=
  have sc := sc_reach
  kn_mkX D sc rfl rfl fun f cdv A outer s H E hr tk =>
  (qss_cons noLook_fn (qs_ex (qe_call tk c_need_web_x f_need_web_x_bad hr (by decide) rfl (sa_cons (se_var (pv 0)) sa_nil)))
  (qss_cons noLook_fn (qs_ex (qe_call tk c_need_place_x f_need_place_x_bad hr (by decide) rfl (sa_cons (se_var (pv 0)) (sa_cons (se_var (pv 1)) sa_nil))))
  (qss_v (ss_one (sx_ret (sb_sum bl (sa_cons (se_ix ix_ok (se_var (pv 0)) (se_var (pv 1))) sa_nil)))))))
theorem sc__law_caught : FnScope ["_law_word", "_law_web", "_law_place", "_law_caught_here", "e"] ["_law_word", "_law_web", "_law_place"] (defScope (top 29)) := ⟨rfl, rfl, rfl, by decide +kernel, rfl, by decide +kernel, by decide +kernel⟩
theorem k__law_caught {CB : Addr} (bl : Bl mg) (D : Df K mg "_law_caught" ["_law_word", "_law_web", "_law_place"] (top 29)) (c_ties_of_x : KnX PySem.Challenge.pw_burnrank_k02_ties_reaches_shapes wd K mg base ct 5 "ties_of" 1 f_ties_of_x) (c_reach_x : KnX PySem.Challenge.pw_burnrank_k02_ties_reaches_shapes wd K mg base ct 5 "reach" 2 f_reach_x) (c_shape_x : KnX PySem.Challenge.pw_burnrank_k02_ties_reaches_shapes wd K mg base ct 6 "shape" 1 f_shape_x) (c_own_heap_x : KnX PySem.Challenge.pw_burnrank_k02_ties_reaches_shapes wd K mg base ct 5 "own_heap" 1 f_own_heap_x)  (xeB : ∀ c, PySem.W.exmOne K (.ref (ct c).1) (.ref CB) = some true) (mB : mg "BurnError" = some (.ref CB)) : Kn PySem.Challenge.pw_burnrank_k02_ties_reaches_shapes wd K mg base ct 7 "_law_caught" 3 f_law_caught :=
  have sc := sc__law_caught
  kn_mkK D sc rfl rfl fun f cdv A outer s H E hr =>
  (ss_cons (sx_asg se_non (sg_var (pg_name sc.nd rfl (Or.inl rfl))))
  (ss_cons (sx_tryS rfl rfl sc.nd rfl rfl ⟨rfl, by decide, .inl mB⟩ rfl (by decide) (fun Wi pn xe tk po => (qss_one (qs_if (st_cmp (or_eq hr.units) (se_var (pv 0)) se_str) (qss_one (qs_ex (qe_call tk c_ties_of_x f_ties_of_x_bad hr (by decide) rfl (sa_cons (se_var (pv 1)) sa_nil)))) (qss_one (qs_if (st_cmp (or_eq hr.units) (se_var (pv 0)) se_str) (qss_one (qs_ex (qe_call tk c_reach_x f_reach_x_bad hr (by decide) rfl (sa_cons (se_var (pv 1)) (sa_cons (se_var (pv 2)) sa_nil))))) (qss_one (qs_if (st_cmp (or_eq hr.units) (se_var (pv 0)) se_str) (qss_one (qs_ex (qe_call tk c_shape_x f_shape_x_bad hr (by decide) rfl (sa_cons (se_var (pv 1)) sa_nil)))) (qss_one (qs_ex (qe_call tk c_own_heap_x f_own_heap_x_bad hr (by decide) rfl (sa_cons (se_var (pv 1)) sa_nil))))))))))) (fun c _ => xeB c) (fun a o cls d pn hz hv => ps_asg (pv 4) (pg_name sc.nd rfl (Or.inl rfl))))
  (ss_one (sx_ret (se_var (pv 3))))))
theorem sc_law : FnScope ["_law_script", "_law_pen", "_law_turn", "_law_web", "_law_n", "_law_due", "_law_again", "_law_told", "_law_reaches", "_law_wrong", "_law_place", "_law_seen", "_law_word", "_law_v", "_law_tie", "_law_many"] ["_law_script"] (defScope (top 31)) := ⟨rfl, rfl, rfl, by decide +kernel, rfl, by decide +kernel, by decide +kernel⟩
theorem k_law (bl : Bl mg) (D : Df K mg "law" ["_law_script"] (top 31)) (c__law_open : ∀ base : Heap, Kn PySem.Challenge.pw_burnrank_k02_ties_reaches_shapes wd K mg base ct 1 "_law_open" 1 f_law_open) (c__law_any_web : ∀ base : Heap, Kn PySem.Challenge.pw_burnrank_k02_ties_reaches_shapes wd K mg base ct 4 "_law_any_web" 3 f_law_any_web) (c__law_all_ties : ∀ base : Heap, Kn PySem.Challenge.pw_burnrank_k02_ties_reaches_shapes wd K mg base ct 1 "_law_all_ties" 1 f_law_all_ties) (c_ties_of : ∀ base : Heap, Kn PySem.Challenge.pw_burnrank_k02_ties_reaches_shapes wd K mg base ct 5 "ties_of" 1 f_ties_of) (c__law_same : ∀ base : Heap, Kn PySem.Challenge.pw_burnrank_k02_ties_reaches_shapes wd K mg base ct 6 "_law_same" 2 f_law_same) (c_shape : ∀ base : Heap, Kn PySem.Challenge.pw_burnrank_k02_ties_reaches_shapes wd K mg base ct 6 "shape" 1 f_shape) (c_reach : ∀ base : Heap, Kn PySem.Challenge.pw_burnrank_k02_ties_reaches_shapes wd K mg base ct 5 "reach" 2 f_reach) (c_own_heap : ∀ base : Heap, Kn PySem.Challenge.pw_burnrank_k02_ties_reaches_shapes wd K mg base ct 5 "own_heap" 1 f_own_heap) (c__law_wrong_web : ∀ base : Heap, Kn PySem.Challenge.pw_burnrank_k02_ties_reaches_shapes wd K mg base ct 3 "_law_wrong_web" 2 f_law_wrong_web) (c__law_take : ∀ base : Heap, Kn PySem.Challenge.pw_burnrank_k02_ties_reaches_shapes wd K mg base ct 2 "_law_take" 2 f_law_take) (c__law_refused : ∀ base : Heap, Kn PySem.Challenge.pw_burnrank_k02_ties_reaches_shapes wd K mg base ct 1 "_law_refused" 2 f_law_refused) (c__law_caught : ∀ base : Heap, Kn PySem.Challenge.pw_burnrank_k02_ties_reaches_shapes wd K mg base ct 7 "_law_caught" 3 f_law_caught)   : LawAt PySem.Challenge.pw_burnrank_k02_ties_reaches_shapes wd K mg ct 8 "law" "_law_script" f_law02 :=
  have sc := sc_law
  law_mk D sc rfl fun base f cdv A outer s H E hr =>
  have c__law_open := c__law_open base; have c__law_any_web := c__law_any_web base; have c__law_all_ties := c__law_all_ties base; have c_ties_of := c_ties_of base; have c__law_same := c__law_same base; have c_shape := c_shape base; have c_reach := c_reach base; have c_own_heap := c_own_heap base; have c__law_wrong_web := c__law_wrong_web base; have c__law_take := c__law_take base; have c__law_refused := c__law_refused base; have c__law_caught := c__law_caught base;
  (ss_cons (sx_asg (se_call c__law_open f_law_open_bad hr (by decide) rfl (sa_cons (se_var (pv 0)) sa_nil)) (sg_var (pg_name sc.nd rfl (Or.inl rfl))))
  (ss_cons (sx_for PassesOwn.never rfl (sb_rg1 bl (sa_cons se_int sa_nil)) (sg_var (pg_name sc.nd rfl (Or.inl rfl))) (ss_cons (sx_asg (se_call c__law_any_web f_law_any_web_bad hr (by decide) rfl (sa_cons (se_var (pv 1)) (sa_cons se_int (sa_cons se_int sa_nil)))) (sg_var (pg_name sc.nd rfl (Or.inr rfl))))
  (ss_cons (sx_asg (sd_tup (sa_cons (sb_len bl (sa_cons (se_var (pv 3)) sa_nil)) (sa_cons (se_call c__law_all_ties f_law_all_ties_bad hr (by decide) rfl (sa_cons (se_var (pv 3)) sa_nil)) sa_nil))) (sg_tup rfl (sgs_cons (sg_var (pg_name sc.nd rfl (Or.inl rfl))) (sgs_cons (sg_var (pg_name sc.nd rfl (Or.inr rfl))) sgs_nil))))
  (ss_cons (sx_for PassesOwn.never rfl (sb_rg1 bl (sa_cons se_int sa_nil)) (sg_var (pg_name sc.nd rfl (Or.inl rfl))) (ss_cons (sx_asg (se_call c_ties_of f_ties_of_bad hr (by decide) rfl (sa_cons (se_var (pv 3)) sa_nil)) (sg_var (pg_name sc.nd rfl (Or.inl rfl))))
  (ss_cons (sx_if (st_not (st_val (se_call c__law_same f_law_same_bad hr (by decide) rfl (sa_cons (se_var (pv 7)) (sa_cons (se_var (pv 5)) sa_nil))))) (ss_one (sx_ret se_bl)) ss_nil)
  (ss_one (sx_ex (se_mt F.slot_list_append (by kernel_rfl) mm_append (se_var (pv 7)) (sa_cons (sd_tup (sa_cons se_int (sa_cons se_int sa_nil))) sa_nil)))))))
  (ss_cons (sx_if (st_not (st_val (se_call c__law_same f_law_same_bad hr (by decide) rfl (sa_cons (se_call c_shape f_shape_bad hr (by decide) rfl (sa_cons (se_var (pv 3)) sa_nil)) (sa_cons (se_op or_add (se_op or_sub (sb_len bl (sa_cons (se_var (pv 5)) sa_nil)) (se_var (pv 4))) se_int) sa_nil))))) (ss_one (sx_ret se_bl)) ss_nil)
  (ss_cons (sx_lc1 sc.nd rfl rfl (own := [("_law_v", 13)]) (sc := defScope (top 31)) (by decide +kernel) rfl (sb_rg1 bl (sa_cons (se_var (pv 4)) sa_nil)) (fun _ _ _ _ _ => (sw_var (by decide) (pg_name sc.nd rfl (Or.inr rfl)))) (fun _ _ _ _ _ => sts_nil) (fun _ _ _ _ _ => (sb_len bl (sa_cons (sl_lc1 sc.nd rfl rfl (own := [("_law_tie", 14)]) (by kernel_rfl) rfl (si_val (se_var (pv 5))) (fun _ _ _ _ _ => (sw_var (by decide) (pg_name sc.nd rfl (Or.inl rfl)))) (fun _ _ _ _ _ => (sts_one (st_cmp or_in (se_var (pv 13)) (se_var (pv 14))))) (fun _ _ _ _ _ => (se_var (pv 14)))) sa_nil))))
  (ss_cons (sx_if (st_not (st_val (se_call c__law_same f_law_same_bad hr (by decide) rfl (sa_cons (sl_lc1 sc.nd rfl rfl (own := [("_law_v", 13)]) (sc := defScope (top 31)) (by decide +kernel) rfl (sb_rg1 bl (sa_cons (se_var (pv 4)) sa_nil)) (fun _ _ _ _ _ => (sw_var (by decide) (pg_name sc.nd rfl (Or.inl rfl)))) (fun _ _ _ _ _ => sts_nil) (fun _ _ _ _ _ => (se_call c_reach f_reach_bad hr (by decide) rfl (sa_cons (se_var (pv 3)) (sa_cons (se_var (pv 13)) sa_nil))))) (sa_cons (se_var (pv 8)) sa_nil))))) (ss_one (sx_ret se_bl)) ss_nil)
  (ss_cons (sx_if (st_not (st_val (se_call c__law_same f_law_same_bad hr (by decide) rfl (sa_cons (se_call c_own_heap f_own_heap_bad hr (by decide) rfl (sa_cons (se_var (pv 3)) sa_nil)) (sa_cons (sb_tuple bl (sa_cons (sl_lc1 sc.nd rfl rfl (own := [("_law_many", 15)]) (sc := defScope (top 31)) (by decide +kernel) rfl (si_val (se_var (pv 8))) (fun _ _ _ _ _ => (sw_var (by decide) (pg_name sc.nd rfl (Or.inl rfl)))) (fun _ _ _ _ _ => sts_nil) (fun _ _ _ _ _ => (se_op or_sub (se_var (pv 15)) se_int))) sa_nil)) sa_nil))))) (ss_one (sx_ret se_bl)) ss_nil)
  (ss_cons (sx_asg (se_call c__law_wrong_web f_law_wrong_web_bad hr (by decide) rfl (sa_cons (se_var (pv 1)) (sa_cons (se_var (pv 3)) sa_nil))) (sg_var (pg_name sc.nd rfl (Or.inl rfl))))
  (ss_cons (sx_asg (se_ix ix_ok (sd_lst (sa_cons (se_var (pv 4)) (sa_cons (se_un ur_neg se_int) (sa_cons se_bl (sa_cons se_bl (sa_cons se_non (sa_cons se_str (sa_cons (sd_tup (sa_cons se_int sa_nil)) (sa_cons (sd_lst (sa_cons se_int (sa_cons se_int sa_nil))) (sa_cons (se_op or_pow se_int se_int) sa_nil)))))))))) (se_call c__law_take f_law_take_bad hr (by decide) rfl (sa_cons (se_var (pv 1)) (sa_cons se_int sa_nil)))) (sg_var (pg_name sc.nd rfl (Or.inl rfl))))
  (ss_cons (sx_asg (sb_repr bl hr (sa_cons (sd_tup (sa_cons (se_var (pv 9)) (sa_cons (se_var (pv 10)) sa_nil))) sa_nil)) (sg_var (pg_name sc.nd rfl (Or.inl rfl))))
  (ss_cons (sx_asg (se_ix ix_ok (sd_lst (sa_cons se_str (sa_cons se_str (sa_cons se_str (sa_cons se_str sa_nil))))) (se_call c__law_take f_law_take_bad hr (by decide) rfl (sa_cons (se_var (pv 1)) (sa_cons se_int sa_nil)))) (sg_var (pg_name sc.nd rfl (Or.inl rfl))))
  (ss_cons (sx_if (st_not (st_val (se_call c__law_refused f_law_refused_bad hr (by decide) rfl (sa_cons (se_call c__law_caught f_law_caught_bad hr (by decide) rfl (sa_cons (se_var (pv 12)) (sa_cons (se_var (pv 9)) (sa_cons (se_ix ix_ok (sd_lst (sa_cons se_int (sa_cons (se_var (pv 10)) sa_nil))) (se_call c__law_take f_law_take_bad hr (by decide) rfl (sa_cons (se_var (pv 1)) (sa_cons se_int sa_nil)))) sa_nil)))) (sa_cons se_bl sa_nil))))) (ss_one (sx_ret se_bl)) ss_nil)
  (ss_one (sx_if (st_w (sw_or (st_not (st_val (se_call c__law_refused f_law_refused_bad hr (by decide) rfl (sa_cons (se_call c__law_caught f_law_caught_bad hr (by decide) rfl (sa_cons se_str (sa_cons (se_var (pv 3)) (sa_cons (se_var (pv 10)) sa_nil)))) (sa_cons se_bl sa_nil))))) (sw_or1 (st_cmp (or_ne hr.units) (sb_repr bl hr (sa_cons (sd_tup (sa_cons (se_var (pv 9)) (sa_cons (se_var (pv 10)) sa_nil))) sa_nil)) (se_var (pv 11)))))) (ss_one (sx_ret se_bl)) ss_nil)))))))))))))))
  (ss_one (sx_ret se_bl))))
theorem all_law {h : Heap} {fa : Addr} (X : K.In h) (G : h.Ns mainGlobals mg) (hfa : mg "law" = some (.ref fa)) (hg : ∀ ns : List Int, ns.length ≤ 63 → ∃ h', f_law02 [.scr ns] [] = .ok (.bl true) h')
    {f0 : Addr} {od0 an0 : Option Addr} {sl0 : Array (Option Value)} {oc0 kV0 dc0 pm0 cd0 ct0 : Value} {f1 : Addr} {od1 an1 : Option Addr} {sl1 : Array (Option Value)} {oc1 kV1 dc1 pm1 cd1 ct1 : Value} {f2 : Addr} {od2 an2 : Option Addr} {sl2 : Array (Option Value)} {oc2 kV2 dc2 pm2 cd2 ct2 : Value} {f3 : Addr} {od3 an3 : Option Addr} {sl3 : Array (Option Value)} {oc3 kV3 dc3 pm3 cd3 ct3 : Value} {f4 : Addr} {od4 an4 : Option Addr} {sl4 : Array (Option Value)} {oc4 kV4 dc4 pm4 cd4 ct4 : Value} {f5 : Addr} {od5 an5 : Option Addr} {sl5 : Array (Option Value)} {oc5 kV5 dc5 pm5 cd5 ct5 : Value} {f6 : Addr} {od6 an6 : Option Addr} {sl6 : Array (Option Value)} {oc6 kV6 dc6 pm6 cd6 ct6 : Value} {f7 : Addr} {od7 an7 : Option Addr} {sl7 : Array (Option Value)} {oc7 kV7 dc7 pm7 cd7 ct7 : Value} {f8 : Addr} {od8 an8 : Option Addr} {sl8 : Array (Option Value)} {oc8 kV8 dc8 pm8 cd8 ct8 : Value} {f9 : Addr} {od9 an9 : Option Addr} {sl9 : Array (Option Value)} {oc9 kV9 dc9 pm9 cd9 ct9 : Value} {f10 : Addr} {od10 an10 : Option Addr} {sl10 : Array (Option Value)} {oc10 kV10 dc10 pm10 cd10 ct10 : Value} {f11 : Addr} {od11 an11 : Option Addr} {sl11 : Array (Option Value)} {oc11 kV11 dc11 pm11 cd11 ct11 : Value} {f12 : Addr} {od12 an12 : Option Addr} {sl12 : Array (Option Value)} {oc12 kV12 dc12 pm12 cd12 ct12 : Value} {f13 : Addr} {od13 an13 : Option Addr} {sl13 : Array (Option Value)} {oc13 kV13 dc13 pm13 cd13 ct13 : Value} {f14 : Addr} {od14 an14 : Option Addr} {sl14 : Array (Option Value)} {oc14 kV14 dc14 pm14 cd14 ct14 : Value} {f15 : Addr} {od15 an15 : Option Addr} {sl15 : Array (Option Value)} {oc15 kV15 dc15 pm15 cd15 ct15 : Value} {f16 : Addr} {od16 an16 : Option Addr} {sl16 : Array (Option Value)} {oc16 kV16 dc16 pm16 cd16 ct16 : Value} {f17 : Addr} {od17 an17 : Option Addr} {sl17 : Array (Option Value)} {oc17 kV17 dc17 pm17 cd17 ct17 : Value} {f18 : Addr} {od18 an18 : Option Addr} {sl18 : Array (Option Value)} {oc18 kV18 dc18 pm18 cd18 ct18 : Value} {f19 : Addr} {od19 an19 : Option Addr} {sl19 : Array (Option Value)} {oc19 kV19 dc19 pm19 cd19 ct19 : Value} {f20 : Addr} {od20 an20 : Option Addr} {sl20 : Array (Option Value)} {oc20 kV20 dc20 pm20 cd20 ct20 : Value} {t0 : Tok} {t1 : Tok} {C0 C4 CB : Addr}
    (a0 : PySem.W.nsIn K mainGlobals "_law_open" = some (some (.ref f0))) (l0 : K.lookup f0 = some ⟨oc0, od0, .func (PySem.W.fnOf "_law_open" "_law_open" (defArgs (top 18)) (defBody (top 18)) (defScope (top 18)) .none kV0 dc0 pm0 an0 cd0 ct0), sl0⟩) (c0 : PySem.W.codeIn K cd0 "_law_open" = true) (k0 : PySem.W.keepIn K (.ref f0) = true)
    (a1 : PySem.W.nsIn K mainGlobals "_law_spread" = some (some (.ref f1))) (l1 : K.lookup f1 = some ⟨oc1, od1, .func (PySem.W.fnOf "_law_spread" "_law_spread" (defArgs (top 19)) (defBody (top 19)) (defScope (top 19)) .none kV1 dc1 pm1 an1 cd1 ct1), sl1⟩) (c1 : PySem.W.codeIn K cd1 "_law_spread" = true) (k1 : PySem.W.keepIn K (.ref f1) = true)
    (a2 : PySem.W.nsIn K mainGlobals "_law_take" = some (some (.ref f2))) (l2 : K.lookup f2 = some ⟨oc2, od2, .func (PySem.W.fnOf "_law_take" "_law_take" (defArgs (top 20)) (defBody (top 20)) (defScope (top 20)) .none kV2 dc2 pm2 an2 cd2 ct2), sl2⟩) (c2 : PySem.W.codeIn K cd2 "_law_take" = true) (k2 : PySem.W.keepIn K (.ref f2) = true)
    (a3 : PySem.W.nsIn K mainGlobals "_law_any_order" = some (some (.ref f3))) (l3 : K.lookup f3 = some ⟨oc3, od3, .func (PySem.W.fnOf "_law_any_order" "_law_any_order" (defArgs (top 23)) (defBody (top 23)) (defScope (top 23)) .none kV3 dc3 pm3 an3 cd3 ct3), sl3⟩) (c3 : PySem.W.codeIn K cd3 "_law_any_order" = true) (k3 : PySem.W.keepIn K (.ref f3) = true)
    (a4 : PySem.W.nsIn K mainGlobals "_law_any_web" = some (some (.ref f4))) (l4 : K.lookup f4 = some ⟨oc4, od4, .func (PySem.W.fnOf "_law_any_web" "_law_any_web" (defArgs (top 24)) (defBody (top 24)) (defScope (top 24)) .none kV4 dc4 pm4 an4 cd4 ct4), sl4⟩) (c4 : PySem.W.codeIn K cd4 "_law_any_web" = true) (k4 : PySem.W.keepIn K (.ref f4) = true)
    (a5 : PySem.W.nsIn K mainGlobals "_law_wrong_web" = some (some (.ref f5))) (l5 : K.lookup f5 = some ⟨oc5, od5, .func (PySem.W.fnOf "_law_wrong_web" "_law_wrong_web" (defArgs (top 28)) (defBody (top 28)) (defScope (top 28)) .none kV5 dc5 pm5 an5 cd5 ct5), sl5⟩) (c5 : PySem.W.codeIn K cd5 "_law_wrong_web" = true) (k5 : PySem.W.keepIn K (.ref f5) = true)
    (a6 : PySem.W.nsIn K mainGlobals "_law_all_ties" = some (some (.ref f6))) (l6 : K.lookup f6 = some ⟨oc6, od6, .func (PySem.W.fnOf "_law_all_ties" "_law_all_ties" (defArgs (top 27)) (defBody (top 27)) (defScope (top 27)) .none kV6 dc6 pm6 an6 cd6 ct6), sl6⟩) (c6 : PySem.W.codeIn K cd6 "_law_all_ties" = true) (k6 : PySem.W.keepIn K (.ref f6) = true)
    (a7 : PySem.W.nsIn K mainGlobals "joined_places" = some (some (.ref f7))) (l7 : K.lookup f7 = some ⟨oc7, od7, .func (PySem.W.fnOf "joined_places" "joined_places" (defArgs (top 9)) (defBody (top 9)) (defScope (top 9)) .none kV7 dc7 pm7 an7 cd7 ct7), sl7⟩) (c7 : PySem.W.codeIn K cd7 "joined_places" = true) (k7 : PySem.W.keepIn K (.ref f7) = true)
    (a8 : PySem.W.nsIn K mainGlobals "is_whole" = some (some (.ref f8))) (l8 : K.lookup f8 = some ⟨oc8, od8, .func (PySem.W.fnOf "is_whole" "is_whole" (defArgs (top 7)) (defBody (top 7)) (defScope (top 7)) .none kV8 dc8 pm8 an8 cd8 ct8), sl8⟩) (c8 : PySem.W.codeIn K cd8 "is_whole" = true) (k8 : PySem.W.keepIn K (.ref f8) = true)
    (a9 : PySem.W.nsIn K mainGlobals "is_row" = some (some (.ref f9))) (l9 : K.lookup f9 = some ⟨oc9, od9, .func (PySem.W.fnOf "is_row" "is_row" (defArgs (top 8)) (defBody (top 8)) (defScope (top 8)) .none kV9 dc9 pm9 an9 cd9 ct9), sl9⟩) (c9 : PySem.W.codeIn K cd9 "is_row" = true) (k9 : PySem.W.keepIn K (.ref f9) = true)
    (a10 : PySem.W.nsIn K mainGlobals "is_web" = some (some (.ref f10))) (l10 : K.lookup f10 = some ⟨oc10, od10, .func (PySem.W.fnOf "is_web" "is_web" (defArgs (top 10)) (defBody (top 10)) (defScope (top 10)) .none kV10 dc10 pm10 an10 cd10 ct10), sl10⟩) (c10 : PySem.W.codeIn K cd10 "is_web" = true) (k10 : PySem.W.keepIn K (.ref f10) = true)
    (a11 : PySem.W.nsIn K mainGlobals "need_web" = some (some (.ref f11))) (l11 : K.lookup f11 = some ⟨oc11, od11, .func (PySem.W.fnOf "need_web" "need_web" (defArgs (top 11)) (defBody (top 11)) (defScope (top 11)) .none kV11 dc11 pm11 an11 cd11 ct11), sl11⟩) (c11 : PySem.W.codeIn K cd11 "need_web" = true) (k11 : PySem.W.keepIn K (.ref f11) = true)
    (a12 : PySem.W.nsIn K mainGlobals "ties_of" = some (some (.ref f12))) (l12 : K.lookup f12 = some ⟨oc12, od12, .func (PySem.W.fnOf "ties_of" "ties_of" (defArgs (top 13)) (defBody (top 13)) (defScope (top 13)) .none kV12 dc12 pm12 an12 cd12 ct12), sl12⟩) (c12 : PySem.W.codeIn K cd12 "ties_of" = true) (k12 : PySem.W.keepIn K (.ref f12) = true)
    (a13 : PySem.W.nsIn K mainGlobals "_law_same" = some (some (.ref f13))) (l13 : K.lookup f13 = some ⟨oc13, od13, .func (PySem.W.fnOf "_law_same" "_law_same" (defArgs (top 22)) (defBody (top 22)) (defScope (top 22)) .none kV13 dc13 pm13 an13 cd13 ct13), sl13⟩) (c13 : PySem.W.codeIn K cd13 "_law_same" = true) (k13 : PySem.W.keepIn K (.ref f13) = true)
    (a14 : PySem.W.nsIn K mainGlobals "_law_refused" = some (some (.ref f14))) (l14 : K.lookup f14 = some ⟨oc14, od14, .func (PySem.W.fnOf "_law_refused" "_law_refused" (defArgs (top 30)) (defBody (top 30)) (defScope (top 30)) .none kV14 dc14 pm14 an14 cd14 ct14), sl14⟩) (c14 : PySem.W.codeIn K cd14 "_law_refused" = true) (k14 : PySem.W.keepIn K (.ref f14) = true)
    (a15 : PySem.W.nsIn K mainGlobals "shape" = some (some (.ref f15))) (l15 : K.lookup f15 = some ⟨oc15, od15, .func (PySem.W.fnOf "shape" "shape" (defArgs (top 15)) (defBody (top 15)) (defScope (top 15)) .none kV15 dc15 pm15 an15 cd15 ct15), sl15⟩) (c15 : PySem.W.codeIn K cd15 "shape" = true) (k15 : PySem.W.keepIn K (.ref f15) = true)
    (a16 : PySem.W.nsIn K mainGlobals "own_heap" = some (some (.ref f16))) (l16 : K.lookup f16 = some ⟨oc16, od16, .func (PySem.W.fnOf "own_heap" "own_heap" (defArgs (top 16)) (defBody (top 16)) (defScope (top 16)) .none kV16 dc16 pm16 an16 cd16 ct16), sl16⟩) (c16 : PySem.W.codeIn K cd16 "own_heap" = true) (k16 : PySem.W.keepIn K (.ref f16) = true)
    (a17 : PySem.W.nsIn K mainGlobals "need_place" = some (some (.ref f17))) (l17 : K.lookup f17 = some ⟨oc17, od17, .func (PySem.W.fnOf "need_place" "need_place" (defArgs (top 12)) (defBody (top 12)) (defScope (top 12)) .none kV17 dc17 pm17 an17 cd17 ct17), sl17⟩) (c17 : PySem.W.codeIn K cd17 "need_place" = true) (k17 : PySem.W.keepIn K (.ref f17) = true)
    (a18 : PySem.W.nsIn K mainGlobals "reach" = some (some (.ref f18))) (l18 : K.lookup f18 = some ⟨oc18, od18, .func (PySem.W.fnOf "reach" "reach" (defArgs (top 14)) (defBody (top 14)) (defScope (top 14)) .none kV18 dc18 pm18 an18 cd18 ct18), sl18⟩) (c18 : PySem.W.codeIn K cd18 "reach" = true) (k18 : PySem.W.keepIn K (.ref f18) = true)
    (a19 : PySem.W.nsIn K mainGlobals "_law_caught" = some (some (.ref f19))) (l19 : K.lookup f19 = some ⟨oc19, od19, .func (PySem.W.fnOf "_law_caught" "_law_caught" (defArgs (top 29)) (defBody (top 29)) (defScope (top 29)) .none kV19 dc19 pm19 an19 cd19 ct19), sl19⟩) (c19 : PySem.W.codeIn K cd19 "_law_caught" = true) (k19 : PySem.W.keepIn K (.ref f19) = true)
    (a20 : PySem.W.nsIn K mainGlobals "law" = some (some (.ref f20))) (l20 : K.lookup f20 = some ⟨oc20, od20, .func (PySem.W.fnOf "law" "law" (defArgs (top 31)) (defBody (top 31)) (defScope (top 31)) .none kV20 dc20 pm20 an20 cd20 ct20), sl20⟩) (c20 : PySem.W.codeIn K cd20 "law" = true) (k20 : PySem.W.keepIn K (.ref f20) = true)
    (z0 : PySem.W.nsIn K mainGlobals "len" = some none)
    (z1 : PySem.W.nsIn K mainGlobals "isinstance" = some none)
    (z2 : PySem.W.nsIn K mainGlobals "all" = some none)
    (z3 : PySem.W.nsIn K mainGlobals "any" = some none)
    (z4 : PySem.W.nsIn K mainGlobals "sum" = some none)
    (z5 : PySem.W.nsIn K mainGlobals "min" = some none)
    (z6 : PySem.W.nsIn K mainGlobals "max" = some none)
    (z7 : PySem.W.nsIn K mainGlobals "tuple" = some none)
    (z8 : PySem.W.nsIn K mainGlobals "list" = some none)
    (z9 : PySem.W.nsIn K mainGlobals "int" = some none)
    (z10 : PySem.W.nsIn K mainGlobals "bool" = some none)
    (z11 : PySem.W.nsIn K mainGlobals "str" = some none)
    (z12 : PySem.W.nsIn K mainGlobals "range" = some none)
    (z13 : PySem.W.nsIn K mainGlobals "enumerate" = some none)
    (z14 : PySem.W.nsIn K mainGlobals "zip" = some none)
    (z15 : PySem.W.nsIn K mainGlobals "sorted" = some none)
    (z16 : PySem.W.nsIn K mainGlobals "abs" = some none)
    (z17 : PySem.W.nsIn K mainGlobals "repr" = some none)
    (g0 : PySem.W.nsIn K mainGlobals "MOST_PLACES" = some (some (.int 10 t0)))
    (g1 : PySem.W.nsIn K mainGlobals "MOST_TIES" = some (some (.int 12 t1)))
    (xaB : PySem.W.nsIn K mainGlobals "BurnError" = some (some (.ref CB)))
    (xa0 : PySem.W.nsIn K mainGlobals "NoWeb" = some (some (.ref C0)))
    (xa4 : PySem.W.nsIn K mainGlobals "NoPlace" = some (some (.ref C4)))
    (xq0 : PySem.W.excIn K C0 [.type "ValueError", .type "Exception", .type "BaseException", .type "object"] "ValueError.__new__" = true)
    (xp0 : PySem.W.keepIn K (.ref C0) = true)
    (xs0 : PySem.W.subIn K (.ref C0) (.type "BaseException") = some true)
    (xt0 : PySem.W.typeIn K (.ref C0) = some (.type "type"))
    (xg0 : PySem.W.findIn K (.ref C0) "__getattribute__" = some (some (.builtin "BaseException.__getattribute__")))
    (xh0 : PySem.W.findIn K (.ref C0) "__getattr__" = some none)
    (xd0 : PySem.W.hasDictIn K C0 = true)
    (xc0 : PySem.W.findIn K (.ref C0) "__class__" = some (some (.builtin "object.__class__")))
    (xm0 : PySem.W.mroIn K C0 (.type "object") = some true)
    (xe0 : PySem.W.exmOne K (.ref C0) (.ref CB) = some true)
    (xkv0 : PySem.W.kitOne K (.ref C0) (.type "ValueError") = some true)
    (xq4 : PySem.W.excIn K C4 [.type "ValueError", .type "Exception", .type "BaseException", .type "object"] "ValueError.__new__" = true)
    (xp4 : PySem.W.keepIn K (.ref C4) = true)
    (xs4 : PySem.W.subIn K (.ref C4) (.type "BaseException") = some true)
    (xt4 : PySem.W.typeIn K (.ref C4) = some (.type "type"))
    (xg4 : PySem.W.findIn K (.ref C4) "__getattribute__" = some (some (.builtin "BaseException.__getattribute__")))
    (xh4 : PySem.W.findIn K (.ref C4) "__getattr__" = some none)
    (xd4 : PySem.W.hasDictIn K C4 = true)
    (xc4 : PySem.W.findIn K (.ref C4) "__class__" = some (some (.builtin "object.__class__")))
    (xm4 : PySem.W.mroIn K C4 (.type "object") = some true)
    (xe4 : PySem.W.exmOne K (.ref C4) (.ref CB) = some true)
    (xkv4 : PySem.W.kitOne K (.ref C4) (.type "ValueError") = some true)
    (xnv : PySem.W.kitOne K (.type "NoneType") (.type "ValueError") = some false)
    (xzv : PySem.W.nsIn K mainGlobals "ValueError" = some none)
    (xcn : PySem.W.specialIn K (.builtin "object.__class__") "__get__" = some (some (.builtin "getset_descriptor.__get__")))
    (xct : PySem.W.takesIn K (.builtin "object.__class__") = some true)
    (xw0_0 : PySem.W.kitOne K (.ref C0) (.ref C0) = some true)
    (xw4_0 : PySem.W.kitOne K (.ref C4) (.ref C0) = some false)
    (xv0 : PySem.W.kitOne K (.type "NoneType") (.ref C0) = some false)
    (xw0_4 : PySem.W.kitOne K (.ref C0) (.ref C4) = some false)
    (xw4_4 : PySem.W.kitOne K (.ref C4) (.ref C4) = some true)
    (xv4 : PySem.W.kitOne K (.type "NoneType") (.ref C4) = some false) :
    ∃ fd : FuncData, (∀ (s : Shared) (u : Value), BindsTo s fd ⟨[u], []⟩ [("_law_script", u)]) ∧ ∀ base : Heap, K.In base → base.Ns mainGlobals mg → FnG PySem.Challenge.pw_burnrank_k02_ties_reaches_shapes wd K mg base CX0 8 fa fd ["_law_script"] (spLaw K) := by
  have bl : Bl mg := ⟨PySem.W.mg_none_of X G z0, PySem.W.mg_none_of X G z1, PySem.W.mg_none_of X G z2, PySem.W.mg_none_of X G z3, PySem.W.mg_none_of X G z4, PySem.W.mg_none_of X G z5, PySem.W.mg_none_of X G z6, PySem.W.mg_none_of X G z7, PySem.W.mg_none_of X G z8, PySem.W.mg_none_of X G z9, PySem.W.mg_none_of X G z10, PySem.W.mg_none_of X G z11, PySem.W.mg_none_of X G z12, PySem.W.mg_none_of X G z13, PySem.W.mg_none_of X G z14, PySem.W.mg_none_of X G z15, PySem.W.mg_none_of X G z16, PySem.W.mg_none_of X G z17⟩
  have E_NoWeb : ExcAt K mg (ctP [(0, C0), (4, C4)]) 0 "NoWeb" := excAt X G rfl xa0 xq0 xp0 xs0 xt0
  have E_NoPlace : ExcAt K mg (ctP [(0, C0), (4, C4)]) 4 "NoPlace" := excAt X G rfl xa4 xq4 xp4 xs4 xt4
  have xE : ∀ c, ExcC K ((ctP [(0, C0), (4, C4)]) c).1 := ctP_all (P := fun _ a => ExcC K a) (by simp) (fun p hp => by
    simp only [List.mem_cons, List.not_mem_nil, or_false] at hp
    rcases hp with rfl | rfl
    · exact ⟨xg0, xh0, xs0, xd0, xc0, xcn, xct, xm0⟩
    · exact ⟨xg4, xh4, xs4, xd4, xc4, xcn, xct, xm4⟩)
  have mB := PySem.W.mg_of X G xaB
  have xeB : ∀ c, PySem.W.exmOne K (.ref ((ctP [(0, C0), (4, C4)]) c).1) (.ref CB) = some true := ctP_all (P := fun _ a => PySem.W.exmOne K (.ref a) (.ref CB) = some true) (by simp) (fun p hp => by
    simp only [List.mem_cons, List.not_mem_nil, or_false] at hp
    rcases hp with rfl | rfl
    · exact xe0
    · exact xe4)
  have xkV : ∀ c, PySem.W.kitOne K (.ref ((ctP [(0, C0), (4, C4)]) c).1) (.type "ValueError") = some true := ctP_all (P := fun _ a => PySem.W.kitOne K (.ref a) (.type "ValueError") = some true) (by simp) (fun p hp => by
    simp only [List.mem_cons, List.not_mem_nil, or_false] at hp
    rcases hp with rfl | rfl
    · exact xkv0
    · exact xkv4)
  have xnV := xnv
  have mV := PySem.W.mg_none_of X G xzv
  have xk_NoWeb : ∀ c, PySem.W.kitOne K (.ref ((ctP [(0, C0), (4, C4)]) c).1) (.ref ((ctP [(0, C0), (4, C4)]) 0).1) = some (subP [0, 4] 0 c) := ctP_all (P := fun n a => PySem.W.kitOne K (.ref a) (.ref C0) = some (decide (n = 0))) (l := [(0, C0), (4, C4)]) (by simp) (fun p hp => by
    simp only [List.mem_cons, List.not_mem_nil, or_false] at hp
    rcases hp with rfl | rfl
    · exact xw0_0
    · exact xw4_0)
  have xn_NoWeb : PySem.W.kitOne K (.type "NoneType") (.ref ((ctP [(0, C0), (4, C4)]) 0).1) = some false := xv0
  have xk_NoPlace : ∀ c, PySem.W.kitOne K (.ref ((ctP [(0, C0), (4, C4)]) c).1) (.ref ((ctP [(0, C0), (4, C4)]) 4).1) = some (subP [0, 4] 4 c) := ctP_all (P := fun n a => PySem.W.kitOne K (.ref a) (.ref C4) = some (decide (n = 4))) (l := [(0, C0), (4, C4)]) (by simp) (fun p hp => by
    simp only [List.mem_cons, List.not_mem_nil, or_false] at hp
    rcases hp with rfl | rfl
    · exact xw0_4
    · exact xw4_4)
  have xn_NoPlace : PySem.W.kitOne K (.type "NoneType") (.ref ((ctP [(0, C0), (4, C4)]) 4).1) = some false := xv4
  have gi_MOST_PLACES := gi_mk X G g0
  have gi_MOST_TIES := gi_mk X G g1
  have D0 : Df K mg "_law_open" ["_law_script"] (top 18) := df_mk X G a0 l0 c0 k0 fun _ _ _ _ _ _ us hl => match us, hl with | [_], _ => rfl
  have D1 : Df K mg "_law_spread" ["_law_cell", "_law_at"] (top 19) := df_mk X G a1 l1 c1 k1 fun _ _ _ _ _ _ us hl => match us, hl with | [_, _], _ => rfl
  have D2 : Df K mg "_law_take" ["_law_pen", "_law_many"] (top 20) := df_mk X G a2 l2 c2 k2 fun _ _ _ _ _ _ us hl => match us, hl with | [_, _], _ => rfl
  have D3 : Df K mg "_law_any_order" ["_law_pen", "_law_many"] (top 23) := df_mk X G a3 l3 c3 k3 fun _ _ _ _ _ _ us hl => match us, hl with | [_, _], _ => rfl
  have D4 : Df K mg "_law_any_web" ["_law_pen", "_law_places", "_law_ties"] (top 24) := df_mk X G a4 l4 c4 k4 fun _ _ _ _ _ _ us hl => match us, hl with | [_, _, _], _ => rfl
  have D5 : Df K mg "_law_wrong_web" ["_law_pen", "_law_web"] (top 28) := df_mk X G a5 l5 c5 k5 fun _ _ _ _ _ _ us hl => match us, hl with | [_, _], _ => rfl
  have D6 : Df K mg "_law_all_ties" ["_law_web"] (top 27) := df_mk X G a6 l6 c6 k6 fun _ _ _ _ _ _ us hl => match us, hl with | [_], _ => rfl
  have D7 : Df K mg "joined_places" ["web"] (top 9) := df_mk X G a7 l7 c7 k7 fun _ _ _ _ _ _ us hl => match us, hl with | [_], _ => rfl
  have D8 : Df K mg "is_whole" ["thing"] (top 7) := df_mk X G a8 l8 c8 k8 fun _ _ _ _ _ _ us hl => match us, hl with | [_], _ => rfl
  have D9 : Df K mg "is_row" ["thing", "many"] (top 8) := df_mk X G a9 l9 c9 k9 fun _ _ _ _ _ _ us hl => match us, hl with | [_, _], _ => rfl
  have D10 : Df K mg "is_web" ["thing"] (top 10) := df_mk X G a10 l10 c10 k10 fun _ _ _ _ _ _ us hl => match us, hl with | [_], _ => rfl
  have D11 : Df K mg "need_web" ["thing"] (top 11) := df_mk X G a11 l11 c11 k11 fun _ _ _ _ _ _ us hl => match us, hl with | [_], _ => rfl
  have D12 : Df K mg "ties_of" ["web"] (top 13) := df_mk X G a12 l12 c12 k12 fun _ _ _ _ _ _ us hl => match us, hl with | [_], _ => rfl
  have D13 : Df K mg "_law_same" ["_law_found", "_law_due"] (top 22) := df_mk X G a13 l13 c13 k13 fun _ _ _ _ _ _ us hl => match us, hl with | [_, _], _ => rfl
  have D14 : Df K mg "_law_refused" ["_law_caught_here", "_law_no_web"] (top 30) := df_mk X G a14 l14 c14 k14 fun _ _ _ _ _ _ us hl => match us, hl with | [_, _], _ => rfl
  have D15 : Df K mg "shape" ["web"] (top 15) := df_mk X G a15 l15 c15 k15 fun _ _ _ _ _ _ us hl => match us, hl with | [_], _ => rfl
  have D16 : Df K mg "own_heap" ["web"] (top 16) := df_mk X G a16 l16 c16 k16 fun _ _ _ _ _ _ us hl => match us, hl with | [_], _ => rfl
  have D17 : Df K mg "need_place" ["web", "thing"] (top 12) := df_mk X G a17 l17 c17 k17 fun _ _ _ _ _ _ us hl => match us, hl with | [_, _], _ => rfl
  have D18 : Df K mg "reach" ["web", "place"] (top 14) := df_mk X G a18 l18 c18 k18 fun _ _ _ _ _ _ us hl => match us, hl with | [_, _], _ => rfl
  have D19 : Df K mg "_law_caught" ["_law_word", "_law_web", "_law_place"] (top 29) := df_mk X G a19 l19 c19 k19 fun _ _ _ _ _ _ us hl => match us, hl with | [_, _, _], _ => rfl
  have D20 : Df K mg "law" ["_law_script"] (top 31) := df_mk X G a20 l20 c20 k20 fun _ _ _ _ _ _ us hl => match us, hl with | [_], _ => rfl
  have c__law_open : ∀ base : Heap, Kn PySem.Challenge.pw_burnrank_k02_ties_reaches_shapes wd K mg base (ctP [(0, C0), (4, C4)]) 1 "_law_open" 1 f_law_open := fun base => k__law_open bl D0 
  have c__law_spread : ∀ base : Heap, Kn PySem.Challenge.pw_burnrank_k02_ties_reaches_shapes wd K mg base (ctP [(0, C0), (4, C4)]) 1 "_law_spread" 2 f_law_spread := fun base => k__law_spread bl D1 
  have c__law_take : ∀ base : Heap, Kn PySem.Challenge.pw_burnrank_k02_ties_reaches_shapes wd K mg base (ctP [(0, C0), (4, C4)]) 2 "_law_take" 2 f_law_take := fun base => k__law_take bl D2 (c__law_spread base)
  have c__law_any_order : ∀ base : Heap, Kn PySem.Challenge.pw_burnrank_k02_ties_reaches_shapes wd K mg base (ctP [(0, C0), (4, C4)]) 3 "_law_any_order" 2 f_law_any_order := fun base => k__law_any_order bl D3 (c__law_take base)
  have c__law_any_web : ∀ base : Heap, Kn PySem.Challenge.pw_burnrank_k02_ties_reaches_shapes wd K mg base (ctP [(0, C0), (4, C4)]) 4 "_law_any_web" 3 f_law_any_web := fun base => k__law_any_web bl D4 (c__law_take base) (c__law_any_order base)
  have c__law_wrong_web : ∀ base : Heap, Kn PySem.Challenge.pw_burnrank_k02_ties_reaches_shapes wd K mg base (ctP [(0, C0), (4, C4)]) 3 "_law_wrong_web" 2 f_law_wrong_web := fun base => k__law_wrong_web bl D5 (c__law_take base)
  have c__law_all_ties : ∀ base : Heap, Kn PySem.Challenge.pw_burnrank_k02_ties_reaches_shapes wd K mg base (ctP [(0, C0), (4, C4)]) 1 "_law_all_ties" 1 f_law_all_ties := fun base => k__law_all_ties bl D6 
  have c_joined_places : ∀ base : Heap, Kn PySem.Challenge.pw_burnrank_k02_ties_reaches_shapes wd K mg base (ctP [(0, C0), (4, C4)]) 1 "joined_places" 1 f_joined_places := fun base => k_joined_places bl D7 
  have c_is_whole : ∀ base : Heap, Kn PySem.Challenge.pw_burnrank_k02_ties_reaches_shapes wd K mg base (ctP [(0, C0), (4, C4)]) 1 "is_whole" 1 f_is_whole := fun base => k_is_whole bl D8 
  have c_is_row : ∀ base : Heap, Kn PySem.Challenge.pw_burnrank_k02_ties_reaches_shapes wd K mg base (ctP [(0, C0), (4, C4)]) 2 "is_row" 2 f_is_row := fun base => k_is_row bl D9 (c_is_whole base)
  have c_is_web : ∀ base : Heap, Kn PySem.Challenge.pw_burnrank_k02_ties_reaches_shapes wd K mg base (ctP [(0, C0), (4, C4)]) 3 "is_web" 1 f_is_web := fun base => k_is_web bl D10 (c_is_row base) (c_joined_places base) gi_MOST_PLACES gi_MOST_TIES
  have c_need_web : ∀ base : Heap, Kn PySem.Challenge.pw_burnrank_k02_ties_reaches_shapes wd K mg base (ctP [(0, C0), (4, C4)]) 4 "need_web" 1 f_need_web := fun base => k_need_web bl D11 (c_is_web base)
  have c_need_web_x : ∀ base : Heap, KnX PySem.Challenge.pw_burnrank_k02_ties_reaches_shapes wd K mg base (ctP [(0, C0), (4, C4)]) 4 "need_web" 1 f_need_web_x := fun base => k_need_web_x bl D11 (c_is_web base) E_NoWeb
  have c_ties_of : ∀ base : Heap, Kn PySem.Challenge.pw_burnrank_k02_ties_reaches_shapes wd K mg base (ctP [(0, C0), (4, C4)]) 5 "ties_of" 1 f_ties_of := fun base => k_ties_of bl D12 (c_need_web base)
  have c_ties_of_x : ∀ base : Heap, KnX PySem.Challenge.pw_burnrank_k02_ties_reaches_shapes wd K mg base (ctP [(0, C0), (4, C4)]) 5 "ties_of" 1 f_ties_of_x := fun base => k_ties_of_x bl D12 (c_need_web_x base)
  have c__law_same : ∀ base : Heap, Kn PySem.Challenge.pw_burnrank_k02_ties_reaches_shapes wd K mg base (ctP [(0, C0), (4, C4)]) 6 "_law_same" 2 f_law_same := fun base => k__law_same bl D13 
  have c__law_refused : ∀ base : Heap, Kn PySem.Challenge.pw_burnrank_k02_ties_reaches_shapes wd K mg base (ctP [(0, C0), (4, C4)]) 1 "_law_refused" 2 f_law_refused := fun base => k__law_refused bl D14 E_NoPlace E_NoWeb xE mV xkV xnV xn_NoPlace xn_NoWeb xk_NoPlace xk_NoWeb
  have c_shape : ∀ base : Heap, Kn PySem.Challenge.pw_burnrank_k02_ties_reaches_shapes wd K mg base (ctP [(0, C0), (4, C4)]) 6 "shape" 1 f_shape := fun base => k_shape bl D15 (c_ties_of base)
  have c_shape_x : ∀ base : Heap, KnX PySem.Challenge.pw_burnrank_k02_ties_reaches_shapes wd K mg base (ctP [(0, C0), (4, C4)]) 6 "shape" 1 f_shape_x := fun base => k_shape_x bl D15 (c_ties_of_x base)
  have c_own_heap : ∀ base : Heap, Kn PySem.Challenge.pw_burnrank_k02_ties_reaches_shapes wd K mg base (ctP [(0, C0), (4, C4)]) 5 "own_heap" 1 f_own_heap := fun base => k_own_heap bl D16 (c_need_web base)
  have c_own_heap_x : ∀ base : Heap, KnX PySem.Challenge.pw_burnrank_k02_ties_reaches_shapes wd K mg base (ctP [(0, C0), (4, C4)]) 5 "own_heap" 1 f_own_heap_x := fun base => k_own_heap_x bl D16 (c_need_web_x base)
  have c_need_place : ∀ base : Heap, Kn PySem.Challenge.pw_burnrank_k02_ties_reaches_shapes wd K mg base (ctP [(0, C0), (4, C4)]) 2 "need_place" 2 f_need_place := fun base => k_need_place bl D17 (c_is_whole base)
  have c_need_place_x : ∀ base : Heap, KnX PySem.Challenge.pw_burnrank_k02_ties_reaches_shapes wd K mg base (ctP [(0, C0), (4, C4)]) 2 "need_place" 2 f_need_place_x := fun base => k_need_place_x bl D17 (c_is_whole base) E_NoPlace
  have c_reach : ∀ base : Heap, Kn PySem.Challenge.pw_burnrank_k02_ties_reaches_shapes wd K mg base (ctP [(0, C0), (4, C4)]) 5 "reach" 2 f_reach := fun base => k_reach bl D18 (c_need_web base) (c_need_place base)
  have c_reach_x : ∀ base : Heap, KnX PySem.Challenge.pw_burnrank_k02_ties_reaches_shapes wd K mg base (ctP [(0, C0), (4, C4)]) 5 "reach" 2 f_reach_x := fun base => k_reach_x bl D18 (c_need_web_x base) (c_need_place_x base)
  have c__law_caught : ∀ base : Heap, Kn PySem.Challenge.pw_burnrank_k02_ties_reaches_shapes wd K mg base (ctP [(0, C0), (4, C4)]) 7 "_law_caught" 3 f_law_caught := fun base => k__law_caught bl D19 (c_ties_of_x base) (c_reach_x base) (c_shape_x base) (c_own_heap_x base) xeB mB
  exact law_fin (k_law (ct := (ctP [(0, C0), (4, C4)])) bl D20 (fun base => c__law_open base) (fun base => c__law_any_web base) (fun base => c__law_all_ties base) (fun base => c_ties_of base) (fun base => c__law_same base) (fun base => c_shape base) (fun base => c_reach base) (fun base => c_own_heap base) (fun base => c__law_wrong_web base) (fun base => c__law_take base) (fun base => c__law_refused base) (fun base => c__law_caught base)) hfa hg
end
end BR

namespace BR
open PySem
theorem eTup_eq (a : EA) (σ : Sg) (h : Hd) : eTup a σ h = (a σ h).bind fun ds h => if ds.length ≤ LIM then .ok (.tup ds) h else .bad := rfl
theorem eLst_eq (a : EA) (σ : Sg) (h : Hd) : eLst a σ h = (a σ h).bind fun ds h => if ds.length ≤ LIM then .ok (.lst ds) h else .bad := rfl
theorem eLstR_eq (a : EA) (σ : Sg) (h : Hd) : eLstR a σ h = (a σ h).bind fun ds h => if ds.length ≤ LIM then .ok (.ref h.length) (h ++ [.lst ds]) else .bad := rfl
/-- a tuple of ints, a tuple of rows -/
def dI (xs : List Int) : D := .tup (xs.map .int)
def dW (m : List (List Int)) : D := .tup (m.map dI)
theorem noRef_ints (n : Nat) : ∀ xs : List Int, noRef.go n (xs.map D.int) = true
  | [] => rfl
  | x :: xs => noRef_ints n xs
theorem noRef_dI (n : Nat) (xs : List Int) : noRef n (dI xs) = true := noRef_ints n xs
theorem noRef_dW (n : Nat) : ∀ m : List (List Int), noRef n (dW m) = true := by
  intro m
  show noRef.go n (m.map dI) = true
  induction m with
  | nil => rfl
  | cons r m ih =>
    show (noRef n (dI r) && noRef.go n (m.map dI)) = true
    rw [noRef_dI, ih]; rfl
theorem okOld_refl (h : Hd) : okOld h h := fun a ha => ⟨h[a], by simp [ha], .inl (by simp [ha])⟩
theorem fin_same {h : Hd} {d : D} (e : noRef h.length d = true) : fin h d h = .ok d h := by
  unfold fin
  rw [if_pos (okOld_refl h)]
  unfold frz
  rw [if_pos e, List.take_length]
theorem fin_bl (h : Hd) (b : Bool) : fin h (.bl b) h = .ok (.bl b) h := fin_same rfl
theorem fin_int (h : Hd) (i : Int) : fin h (.int i) h = .ok (.int i) h := fin_same rfl
theorem fin_non (h : Hd) : fin h .non h = .ok .non h := fin_same rfl
/-- a clause whose parts leave the heap as it is -/
theorem lcF_map {g : EG} {c : ET} {e : Sg → Hd → Res (List D)} {σ : Sg} {h : Hd} {α : Type} (k : α → D) (v : α → List D) : ∀ xs : List α,
    (∀ x ∈ xs, ∃ σ1, g (k x) σ h = .ok σ1 h ∧ c σ1 h = .ok true h ∧ e σ1 h = .ok (v x) h) → lcF g c e [] σ (xs.map k) h = .ok ((xs.map v).flatten) h
  | [], _ => by
    unfold lcF
    rw [List.map_nil]
    simp
  | x :: xs, H => by
    obtain ⟨σ1, h1, h2, h3⟩ := H x List.mem_cons_self
    have ih := lcF_map k v xs fun y hy => H y (List.mem_cons_of_mem _ hy)
    rw [List.map_cons]
    unfold lcF
    rw [if_pos (okChk_nil h), h1]
    simp only [Res.bind_ok, h2, if_true, h3, ih, List.map_cons, List.flatten_cons]
theorem lcF_one {g : EG} {c : ET} {e : EE} {σ : Sg} {h : Hd} {α : Type} (k v : α → D) (xs : List α)
    (H : ∀ x ∈ xs, ∃ σ1, g (k x) σ h = .ok σ1 h ∧ c σ1 h = .ok true h ∧ e σ1 h = .ok (v x) h) : lcF g c (lcOne e) [] σ (xs.map k) h = .ok (xs.map v) h := by
  have := lcF_map (g := g) (c := c) (e := lcOne e) (σ := σ) (h := h) k (fun x => [v x]) xs fun x hx => by
    obtain ⟨σ1, h1, h2, h3⟩ := H x hx
    exact ⟨σ1, h1, h2, by simp [lcOne, h3]⟩
  rw [this]
  congr 1
  clear this H
  induction xs with
  | nil => rfl
  | cons x xs ih => simp [ih]
theorem toPys_ints (h : Hd) : ∀ xs : List Int, toPys h (xs.map D.int) = some (xs.map PyData.int)
  | [] => rfl
  | x :: xs => by
    rw [List.map_cons]
    unfold toPys
    rw [toPys_ints h xs]; rfl
theorem lay_ints : ∀ xs : List Int, PyData.canLayAll0 (xs.map PyData.int) = true ∧ PyData.depthAll (xs.map PyData.int) = 0
  | [] => ⟨rfl, rfl⟩
  | x :: xs => by
    obtain ⟨a, b⟩ := lay_ints xs
    rw [List.map_cons]
    constructor
    · unfold PyData.canLayAll0; rw [a]; rfl
    · unfold PyData.depthAll; rw [b]; rfl
theorem eqv_ints : ∀ xs ys : List Int, PyData.eqvAll (xs.map PyData.int) (ys.map PyData.int) = decide (xs = ys)
  | [], [] => by unfold PyData.eqvAll; simp
  | [], y :: ys => by simp [PyData.eqvAll]
  | x :: xs, [] => by simp [PyData.eqvAll]
  | x :: xs, y :: ys => by
    rw [List.map_cons, List.map_cons]
    unfold PyData.eqvAll
    rw [eqv_ints xs ys]
    simp [PyData.eqv]
    by_cases h1 : x = y <;> by_cases h2 : xs = ys <;> simp [h1, h2]
theorem shaped_ints (xs : List Int) : SeqAt.shaped (.tuple (xs.map PyData.int)) = true := by
  obtain ⟨a, b⟩ := lay_ints xs
  unfold SeqAt.shaped
  have h1 : PyData.canLay0 (.tuple (xs.map PyData.int)) = true := by unfold PyData.canLay0; exact a
  have h2 : PyData.depth (.tuple (xs.map PyData.int)) = 1 := by
    unfold PyData.depth
    rw [b]
  rw [h1, h2]; rfl
theorem gEq_int (a b : Int) (h : Hd) : gEq [.int a, .int b] h = .ok (.bl (decide (a = b))) h := by
  simp [gEq, eqD, strOf, toPyR, toPy, SeqAt.shaped, PyData.canLay0, PyData.depth, PyData.eqv]
  by_cases e : a = b <;> simp [e]
theorem gNe_int (a b : Int) (h : Hd) : gNe [.int a, .int b] h = .ok (.bl (!decide (a = b))) h := by
  simp [gNe, eqD, strOf, toPyR, toPy, SeqAt.shaped, PyData.canLay0, PyData.depth, PyData.eqv]
  by_cases e : a = b <;> simp [e]
theorem gEq_dI (a b : List Int) (h : Hd) : gEq [dI a, dI b] h = .ok (.bl (decide (a = b))) h := by
  have e : ∀ xs, toPyR h (dI xs) = some (.tuple (xs.map PyData.int)) := fun xs => by
    show (toPys h (xs.map D.int)).map PyData.tuple = _
    rw [toPys_ints]; rfl
  have z : PyData.eqv (.tuple (a.map PyData.int)) (.tuple (b.map PyData.int)) = decide (a = b) := by
    unfold PyData.eqv
    exact eqv_ints a b
  have zs : ∀ xs, strOf (dI xs) = none := fun _ => rfl
  unfold gEq eqD
  simp only [zs, e, shaped_ints, z, and_self, if_true]
theorem blsOf_map {α : Type} (f : α → Bool) : ∀ xs : List α, blsOf (xs.map fun x => .bl (f x)) = some (xs.map f)
  | [] => rfl
  | x :: xs => by
    rw [List.map_cons]
    unfold blsOf
    rw [blsOf_map f xs]; rfl
theorem gEvery_map {α : Type} (f : α → Bool) (xs : List α) (h : Hd) : gEvery [.lst (xs.map fun x => .bl (f x))] h = .ok (.bl (xs.all f)) h := by
  unfold gEvery
  simp only [blsOf_map]
  congr 2
  rw [List.all_map]; rfl
theorem is_whole_int (i : Int) (h : Hd) : f_is_whole [.int i] h = .ok (.bl true) h := by
  simp [f_is_whole, fn, fnK, sNop, sSeq, sEx, sRet, sIf, sBrk, sCnt, sAsg, gVar, gAll, gTup, gSub, sAug, sAugS, sPar2, sPar3, eVar, eC, aNil, aCons, eAp, eAp1_eq, eAp2_eq, tB, tAnd, tOr, tNot, tTT, eT, eIf, eAnd, eOr, eNot, eCh, oNo, oP, eSl, eMtL, eTup_eq, eLst_eq, eLstR_eq, Res.bind_ok, Res.bind_bad, Res.bind_exc, List.map_cons, List.map_nil, List.length_cons, List.length_nil, List.replicate, List.cons_append, List.nil_append, List.getElem?_cons_zero, List.getElem?_cons_succ, List.set_cons_zero, List.set_cons_succ, if_true, if_false, Nat.reduceAdd, Nat.reduceSub, Nat.reduceEqDiff, reduceIte, Bool.false_eq_true, eIs, tyOf, subTy, fin_bl]
theorem is_row_eq (xs : List Int) (n : Int) (h : Hd) (hl : xs.length ≤ LIM) : f_is_row [dI xs, .int n] h = .ok (.bl (decide ((xs.length : Int) = n))) h := by
  have hc : eLc false [2] (iVal (eVar 0)) (gVar 2) tTT (lcOne (eAp f_is_whole (aCons (eVar 2) aNil))) [some (dI xs), some (.int n), none] h = .ok (.lst (xs.map fun _ => .bl true)) h := by
    simp only [eLc, lcIn, iVal, dI, seqOf, chkOf, wipe, fn, fnK, sNop, sSeq, sEx, sRet, sIf, sBrk, sCnt, sAsg, gVar, gAll, gTup, gSub, sAug, sAugS, sPar2, sPar3, eVar, eC, aNil, aCons, eAp, eAp1_eq, eAp2_eq, tB, tAnd, tOr, tNot, tTT, eT, eIf, eAnd, eOr, eNot, eCh, oNo, oP, eSl, eMtL, eTup_eq, eLst_eq, eLstR_eq, Res.bind_ok, Res.bind_bad, Res.bind_exc, List.map_cons, List.map_nil, List.length_cons, List.length_nil, List.replicate, List.cons_append, List.nil_append, List.getElem?_cons_zero, List.getElem?_cons_succ, List.set_cons_zero, List.set_cons_succ, if_true, if_false, Nat.reduceAdd, Nat.reduceSub, Nat.reduceEqDiff, reduceIte, Bool.false_eq_true]
    rw [lcF_one (fun i => D.int i) (fun _ => .bl true) xs fun i _ => ⟨_, rfl, rfl, by simp [fn, fnK, sNop, sSeq, sEx, sRet, sIf, sBrk, sCnt, sAsg, gVar, gAll, gTup, gSub, sAug, sAugS, sPar2, sPar3, eVar, eC, aNil, aCons, eAp, eAp1_eq, eAp2_eq, tB, tAnd, tOr, tNot, tTT, eT, eIf, eAnd, eOr, eNot, eCh, oNo, oP, eSl, eMtL, eTup_eq, eLst_eq, eLstR_eq, Res.bind_ok, Res.bind_bad, Res.bind_exc, List.map_cons, List.map_nil, List.length_cons, List.length_nil, List.replicate, List.cons_append, List.nil_append, List.getElem?_cons_zero, List.getElem?_cons_succ, List.set_cons_zero, List.set_cons_succ, if_true, if_false, Nat.reduceAdd, Nat.reduceSub, Nat.reduceEqDiff, reduceIte, Bool.false_eq_true, is_whole_int]⟩]
    simp [lcEnd, hl]
  have h1 : gLen [dI xs] h = .ok (.int xs.length) h := by simp [gLen, dI]
  simp only [f_is_row, fn, fnK, sNop, sSeq, sEx, sRet, sIf, sBrk, sCnt, sAsg, gVar, gAll, gTup, gSub, sAug, sAugS, sPar2, sPar3, eVar, eC, aNil, aCons, eAp, eAp1_eq, eAp2_eq, tB, tAnd, tOr, tNot, tTT, eT, eIf, eAnd, eOr, eNot, eCh, oNo, oP, eSl, eMtL, eTup_eq, eLst_eq, eLstR_eq, Res.bind_ok, Res.bind_bad, Res.bind_exc, List.map_cons, List.map_nil, List.length_cons, List.length_nil, List.replicate, List.cons_append, List.nil_append, List.getElem?_cons_zero, List.getElem?_cons_succ, List.set_cons_zero, List.set_cons_succ, if_true, if_false, Nat.reduceAdd, Nat.reduceSub, Nat.reduceEqDiff, reduceIte, Bool.false_eq_true, hc, eIs, tyOf, dI]
  simp only [show D.tup (xs.map D.int) = dI xs from rfl, h1, Res.bind_ok, gEq_int]
  have h2 : gEvery [.lst (xs.map fun _ => D.bl true)] h = .ok (.bl true) h := by
    have := gEvery_map (fun _ => true) xs h
    rw [this]
    congr 2
    simp
  by_cases e : (xs.length : Int) = n
  · simp [e, h2, hc, fn, fnK, sNop, sSeq, sEx, sRet, sIf, sBrk, sCnt, sAsg, gVar, gAll, gTup, gSub, sAug, sAugS, sPar2, sPar3, eVar, eC, aNil, aCons, eAp, eAp1_eq, eAp2_eq, tB, tAnd, tOr, tNot, tTT, eT, eIf, eAnd, eOr, eNot, eCh, oNo, oP, eSl, eMtL, eTup_eq, eLst_eq, eLstR_eq, Res.bind_ok, Res.bind_bad, Res.bind_exc, List.map_cons, List.map_nil, List.length_cons, List.length_nil, List.replicate, List.cons_append, List.nil_append, List.getElem?_cons_zero, List.getElem?_cons_succ, List.set_cons_zero, List.set_cons_succ, if_true, if_false, Nat.reduceAdd, Nat.reduceSub, Nat.reduceEqDiff, reduceIte, Bool.false_eq_true, subTy, fin_bl]
  · simp [e, fn, fnK, sNop, sSeq, sEx, sRet, sIf, sBrk, sCnt, sAsg, gVar, gAll, gTup, gSub, sAug, sAugS, sPar2, sPar3, eVar, eC, aNil, aCons, eAp, eAp1_eq, eAp2_eq, tB, tAnd, tOr, tNot, tTT, eT, eIf, eAnd, eOr, eNot, eCh, oNo, oP, eSl, eMtL, eTup_eq, eLst_eq, eLstR_eq, Res.bind_ok, Res.bind_bad, Res.bind_exc, List.map_cons, List.map_nil, List.length_cons, List.length_nil, List.replicate, List.cons_append, List.nil_append, List.getElem?_cons_zero, List.getElem?_cons_succ, List.set_cons_zero, List.set_cons_succ, if_true, if_false, Nat.reduceAdd, Nat.reduceSub, Nat.reduceEqDiff, reduceIte, Bool.false_eq_true, subTy, fin_bl]
end BR

namespace BR
open PySem
theorem forF_inv {g : EG} {body : SS} {chk : List (Nat × List D)} {α : Type} (k : α → D) (I : List α → Sg → Hd → Prop) (xs : List α) (hchk : ∀ done σ h, I done σ h → okChk chk h)
    (H : ∀ done x rest σ h, xs = done ++ x :: rest → I done σ h → ∃ σ1 h1 σ2 h2, g (k x) σ h = .ok σ1 h1 ∧ (body σ1 h1 = .ok (.nx σ2) h2 ∨ body σ1 h1 = .ok (.ct σ2) h2) ∧ I (done ++ [x]) σ2 h2) :
    ∀ (rest done : List α) (σ : Sg) (h : Hd), xs = done ++ rest → I done σ h → ∃ σ' h', forF g body chk (rest.map k) σ h = .ok (.nx σ') h' ∧ I xs σ' h'
  | [], done, σ, h, e, i => by
    rw [List.append_nil] at e
    subst e
    exact ⟨σ, h, by rw [List.map_nil]; unfold forF; rw [if_pos (hchk _ _ _ i)], i⟩
  | x :: rest, done, σ, h, e, i => by
    obtain ⟨σ1, h1, σ2, h2, e1, e2, i2⟩ := H done x rest σ h e i
    obtain ⟨σ', h', e3, i3⟩ := forF_inv k I xs hchk H rest (done ++ [x]) σ2 h2 (by rw [e]; simp) i2
    refine ⟨σ', h', ?_, i3⟩
    rw [List.map_cons]
    unfold forF
    rw [if_pos (hchk _ _ _ i), e1]
    simp only [Res.bind_ok]
    rcases e2 with e2 | e2 <;> (rw [e2]; exact e3)
theorem forF_inv0 {g : EG} {body : SS} {chk : List (Nat × List D)} {α : Type} (k : α → D) (I : List α → Sg → Hd → Prop) (xs : List α) (hchk : ∀ done σ h, I done σ h → okChk chk h)
    (H : ∀ done x rest σ h, xs = done ++ x :: rest → I done σ h → ∃ σ1 h1 σ2 h2, g (k x) σ h = .ok σ1 h1 ∧ (body σ1 h1 = .ok (.nx σ2) h2 ∨ body σ1 h1 = .ok (.ct σ2) h2) ∧ I (done ++ [x]) σ2 h2) {σ : Sg} {h : Hd} (i : I [] σ h) :
    ∃ σ' h', forF g body chk (xs.map k) σ h = .ok (.nx σ') h' ∧ I xs σ' h' := forF_inv k I xs hchk H xs [] σ h rfl i
theorem enumFrom_map : ∀ (k : Nat) (xs : List D), enumFrom k xs = (List.range xs.length).map fun i => .tup [.int ((k + i : Nat) : Int), (xs.getD i .non)]
  | k, [] => rfl
  | k, x :: xs => by
    rw [enumFrom, enumFrom_map (k + 1) xs, List.length_cons, List.range_succ_eq_map, List.map_cons, List.map_map]
    congr 1
    apply List.map_congr_left
    intro i _
    simp
    omega
theorem hg0 (h : Hd) (a : Ob) (r : Hd) : (h ++ a :: r)[h.length]? = some a := by simp
theorem hg1 (h : Hd) (a b : Ob) (r : Hd) : (h ++ a :: b :: r)[h.length + 1]? = some b := by
  rw [List.getElem?_append_right (by omega)]
  have : h.length + 1 - h.length = 1 := by omega
  rw [this]; rfl
theorem hs0 (h : Hd) (a x : Ob) (r : Hd) : (h ++ a :: r).set h.length x = h ++ x :: r := by simp
theorem hs1 (h : Hd) (a b x : Ob) (r : Hd) : (h ++ a :: b :: r).set (h.length + 1) x = h ++ a :: x :: r := by
  rw [List.set_append, if_neg (by omega)]
  have : h.length + 1 - h.length = 1 := by omega
  rw [this]; rfl
theorem okOld_app (h r : Hd) : okOld h (h ++ r) := fun a ha => ⟨h[a], by rw [List.getElem?_append_left ha]; simp [ha], .inl (by simp [ha])⟩
theorem fin_app {h r : Hd} {d : D} (e : noRef h.length d = true) : fin h d (h ++ r) = .ok d h := by
  unfold fin
  rw [if_pos (okOld_app h r)]
  unfold frz
  rw [if_pos e]
  simp
theorem fin_dct {h r : Hd} {ks vs : List D} (e1 : ks.all (noRef h.length) = true) (e2 : vs.all (noRef h.length) = true) : fin h (.ref h.length) (h ++ .dct ks vs :: r) = .ok (.dct ks vs) h := by
  unfold fin
  rw [if_pos (okOld_app h _)]
  unfold frz
  rw [if_neg (by simp [noRef])]
  simp only [hg0, e1, e2, Bool.and_self, if_true]
  simp
theorem ixN_nat {n i : Nat} (h : i < n) : L2.ixN n (i : Int) = some i := by
  unfold L2.ixN
  rw [if_pos (by omega), if_pos (by omega)]
  simp
theorem atI_nat {α : Type} {xs : List α} {i : Nat} (h : i < xs.length) : L2.atI xs (i : Int) = some xs[i] := by
  unfold L2.atI
  rw [ixN_nat h]
  simp [h]
/-- the entry -/
def ent (m : List (List Int)) (u v : Nat) : Int := (m.getD u []).getD v 0
theorem gIx_tup {xs : List D} {i : Nat} (hi : i < xs.length) (h : Hd) : gIx [.tup xs, .int (i : Int)] h = .ok xs[i] h := by
  unfold gIx
  simp only [seqOf, atI_nat hi]
theorem gIx_dI {xs : List Int} {i : Nat} (hi : i < xs.length) (h : Hd) : gIx [dI xs, .int (i : Int)] h = .ok (.int (xs.getD i 0)) h := by
  unfold dI
  rw [gIx_tup (by simpa using hi)]
  simp [hi]
theorem gIx_dW {m : List (List Int)} {i : Nat} (hi : i < m.length) (h : Hd) : gIx [dW m, .int (i : Int)] h = .ok (dI (m.getD i [])) h := by
  unfold dW
  rw [gIx_tup (by simpa using hi)]
  simp [hi]
theorem gMin_dI {xs : List Int} {a : Int} (e : xs.min? = some a) (h : Hd) : gMin [dI xs] h = .ok (.int a) h := by
  unfold gMin gInts dI
  simp only [seqOf, intsOf_map, e]
theorem gSum_dI (xs : List Int) (h : Hd) : gSum [dI xs] h = .ok (.int xs.sum) h := by
  unfold gSum gInts dI
  simp only [seqOf, intsOf_map]
theorem gSum_lst (xs : List Int) (h : Hd) : gSum [.lst (xs.map D.int)] h = .ok (.int xs.sum) h := by
  unfold gSum gInts
  simp only [seqOf, intsOf_map]
end BR

namespace BR
open PySem
theorem nd_sub {α : Type} [DecidableEq α] : ∀ (a b : List α), a.Nodup → (∀ x ∈ a, x ∈ b) → a.length ≤ b.length
  | [], b, _, _ => Nat.zero_le _
  | x :: a, b, nd, h => by
    obtain ⟨n1, n2⟩ := List.nodup_cons.mp nd
    have hx : x ∈ b := h x List.mem_cons_self
    have ih := nd_sub a (b.erase x) n2 fun y hy => by
      have ne : y ≠ x := fun e => n1 (e ▸ hy)
      exact (List.mem_erase_of_ne ne).mpr (h y (List.mem_cons_of_mem _ hy))
    rw [List.length_erase_of_mem hx] at ih
    have : 0 < b.length := List.length_pos_of_mem hx
    simp only [List.length_cons]
    omega
/-- what is a web -/
structure IsWeb (m : List (List Int)) : Prop where
  n1 : 1 ≤ m.length
  n10 : m.length ≤ 10
  row : ∀ r ∈ m, r.length = m.length ∧ ∀ x ∈ r, 0 ≤ x
  sym : ∀ u v, u < m.length → v < m.length → ent m u v = ent m v u
  nul : ∀ u, u < m.length → ent m u u = 0
  sum : (m.map List.sum).sum ≤ 24
  con : ∀ S : Nat → Prop, S 0 → (∀ u v, u < m.length → v < m.length → S u → 0 < ent m u v → S v) → ∀ v, v < m.length → S v
def pN (ks : List Nat) : List D := ks.map fun (k : Nat) => D.int (k : Int)
def pT (ks : List Nat) : List D := ks.map fun _ => D.bl true
theorem intsOf_pN (ks : List Nat) : intsOf (pN ks) = some (ks.map fun (k : Nat) => (k : Int)) := by
  have : pN ks = (ks.map fun (k : Nat) => (k : Int)).map D.int := by unfold pN; rw [List.map_map]; rfl
  rw [this, intsOf_map]
theorem mem_pN {ks : List Nat} {v : Nat} : ((v : Int) ∈ ks.map fun (k : Nat) => (k : Int)) ↔ v ∈ ks := by
  rw [List.mem_map]
  constructor
  · rintro ⟨k, hk, e⟩
    have : k = v := by omega
    exact this ▸ hk
  · exact fun h => ⟨v, h, rfl⟩
def jpC : ET := tB (eAp2 gNe (eVar 2) (eLst aNil))
def jpI : SS := sIf (tAnd (tB (eAp2 gGt (eVar 5) (eC (.int 0)))) (tB (eAp2 (inDc true) (eVar 4) (eVar 1)))) (sSeq (sAsg (eC (.bl true)) (gSub (eVar 1) (eVar 4) gSet)) (sEx (eMtL mAppend (eVar 2) (aCons (eVar 4) aNil)))) sNop
noncomputable def jpB : SS := sSeq (sAsg (eMtL mPop (eVar 2) aNil) (gVar 3)) (sFor (gTup [(gVar 4), (gVar 5)]) (iEn (aCons (eAp2 gIx (eVar 0) (eVar 3)) aNil)) jpI)
def jpH (h : Hd) (ks left : List Nat) : Hd := h ++ .dct (pN ks) (pT ks) :: .lst (pN left) :: []
theorem jpI_step (m : List (List Int)) (h : Hd) (ks left : List Nat) (u v : Nat) (x : Int) (hk : ks.length < LIM) (hl : left.length < LIM) :
    ∃ ks' left', jpI [some (dW m), some (.ref h.length), some (.ref (h.length + 1)), some (.int (u : Int)), some (.int (v : Int)), some (.int x)] (jpH h ks left) =
      .ok (.nx [some (dW m), some (.ref h.length), some (.ref (h.length + 1)), some (.int (u : Int)), some (.int (v : Int)), some (.int x)]) (jpH h ks' left') ∧
      ((ks' = ks ∧ left' = left ∧ (0 < x → v ∈ ks)) ∨ (0 < x ∧ v ∉ ks ∧ ks' = ks ++ [v] ∧ left' = left ++ [v])) := by
  unfold jpI jpH
  simp only [fn, fnK, sNop, sSeq, sEx, sRet, sIf, sBrk, sCnt, sAsg, gVar, gAll, gTup, gSub, sAug, sAugS, sPar2, sPar3, eVar, eC, aNil, aCons, eAp, eAp1_eq, eAp2_eq, tB, tAnd, tOr, tNot, tTT, eT, eIf, eAnd, eOr, eNot, eCh, oNo, oP, eSl, eMtL, eTup_eq, eLst_eq, eLstR_eq, Res.bind_ok, Res.bind_bad, Res.bind_exc, List.map_cons, List.map_nil, List.length_cons, List.length_nil, List.replicate, List.cons_append, List.nil_append, List.getElem?_cons_zero, List.getElem?_cons_succ, List.set_cons_zero, List.set_cons_succ, if_true, if_false, Nat.reduceAdd, Nat.reduceSub, Nat.reduceEqDiff, reduceIte, Bool.false_eq_true, gGt]
  by_cases hx : 0 < x
  · simp only [hx, decide_true, if_true, inDc, dctOf, hg0, intsOf_pN, Res.bind_ok]
    by_cases hm : v ∈ ks
    · refine ⟨ks, left, ?_, .inl ⟨rfl, rfl, fun _ => hm⟩⟩
      simp only [mem_pN, hm, decide_true, Bool.not_true, fn, fnK, sNop, sSeq, sEx, sRet, sIf, sBrk, sCnt, sAsg, gVar, gAll, gTup, gSub, sAug, sAugS, sPar2, sPar3, eVar, eC, aNil, aCons, eAp, eAp1_eq, eAp2_eq, tB, tAnd, tOr, tNot, tTT, eT, eIf, eAnd, eOr, eNot, eCh, oNo, oP, eSl, eMtL, eTup_eq, eLst_eq, eLstR_eq, Res.bind_ok, Res.bind_bad, Res.bind_exc, List.map_cons, List.map_nil, List.length_cons, List.length_nil, List.replicate, List.cons_append, List.nil_append, List.getElem?_cons_zero, List.getElem?_cons_succ, List.set_cons_zero, List.set_cons_succ, if_true, if_false, Nat.reduceAdd, Nat.reduceSub, Nat.reduceEqDiff, reduceIte, Bool.false_eq_true]
    · refine ⟨ks ++ [v], left ++ [v], ?_, .inr ⟨by first | exact hx | trivial, hm, rfl, rfl⟩⟩
      simp only [mem_pN, hm, decide_false, Bool.not_false, fn, fnK, sNop, sSeq, sEx, sRet, sIf, sBrk, sCnt, sAsg, gVar, gAll, gTup, gSub, sAug, sAugS, sPar2, sPar3, eVar, eC, aNil, aCons, eAp, eAp1_eq, eAp2_eq, tB, tAnd, tOr, tNot, tTT, eT, eIf, eAnd, eOr, eNot, eCh, oNo, oP, eSl, eMtL, eTup_eq, eLst_eq, eLstR_eq, Res.bind_ok, Res.bind_bad, Res.bind_exc, List.map_cons, List.map_nil, List.length_cons, List.length_nil, List.replicate, List.cons_append, List.nil_append, List.getElem?_cons_zero, List.getElem?_cons_succ, List.set_cons_zero, List.set_cons_succ, if_true, if_false, Nat.reduceAdd, Nat.reduceSub, Nat.reduceEqDiff, reduceIte, Bool.false_eq_true, gSet, hg0, intsOf_pN, List.length_map, hk, hs0, lstOf, hg1, Option.isSome_some, mAppend]
      have e1 : (pN left).length < LIM := by unfold pN; simpa using hl
      simp only [e1, if_true, hs1, Res.bind_ok]
      simp [pN, pT]
  · refine ⟨ks, left, ?_, .inl ⟨rfl, rfl, fun z => absurd z hx⟩⟩
    simp only [hx, decide_false, fn, fnK, sNop, sSeq, sEx, sRet, sIf, sBrk, sCnt, sAsg, gVar, gAll, gTup, gSub, sAug, sAugS, sPar2, sPar3, eVar, eC, aNil, aCons, eAp, eAp1_eq, eAp2_eq, tB, tAnd, tOr, tNot, tTT, eT, eIf, eAnd, eOr, eNot, eCh, oNo, oP, eSl, eMtL, eTup_eq, eLst_eq, eLstR_eq, Res.bind_ok, Res.bind_bad, Res.bind_exc, List.map_cons, List.map_nil, List.length_cons, List.length_nil, List.replicate, List.cons_append, List.nil_append, List.getElem?_cons_zero, List.getElem?_cons_succ, List.set_cons_zero, List.set_cons_succ, if_true, if_false, Nat.reduceAdd, Nat.reduceSub, Nat.reduceEqDiff, reduceIte, Bool.false_eq_true]
/-- what stands between two turns of the walk -/
structure JP (m : List (List Int)) (ks left : List Nat) : Prop where
  nd : ks.Nodup
  lt : ∀ k ∈ ks, k < m.length
  z : 0 ∈ ks
  sub : ∀ k ∈ left, k ∈ ks
  cl : ∀ k ∈ ks, k ∉ left → ∀ v, v < m.length → 0 < ent m k v → v ∈ ks
theorem JP.len {m : List (List Int)} {ks left : List Nat} (j : JP m ks left) : ks.length ≤ m.length := by
  have := nd_sub ks (List.range m.length) j.nd fun x hx => List.mem_range.mpr (j.lt x hx)
  simpa using this
theorem enum_ints (xs : List Int) : enumFrom 0 (xs.map D.int) = (List.range xs.length).map fun (i : Nat) => .tup [.int (i : Int), .int (xs.getD i 0)] := by
  rw [enumFrom_map, List.length_map]
  apply List.map_congr_left
  intro i hi
  have hi := List.mem_range.mp hi
  simp [hi]
theorem range_split {n : Nat} {done : List Nat} {x : Nat} {rest : List Nat} (e : List.range n = done ++ x :: rest) : done = List.range x ∧ x < n := by
  have hl := congrArg List.length e
  simp at hl
  have hx : x < n := by
    have : x ∈ List.range n := by rw [e]; simp
    simpa using this
  have h1 : (List.range n)[done.length]? = some x := by rw [e]; simp
  rw [List.getElem?_range (by omega)] at h1
  have h2 : done.length = x := by simpa using h1
  refine ⟨?_, hx⟩
  have h3 : (List.range n).take done.length = done := by rw [e]; simp
  rw [← h3, h2, List.take_range]
  congr 1
  omega
/-- a turn of the walk -/
theorem jpB_step {m : List (List Int)} (hm : IsWeb m) (h : Hd) (ks left : List Nat) (j : JP m ks left) (hne : left ≠ []) (hmz : 2 * (m.length - ks.length) + left.length ≤ 1000) (a b c : Option D) :
    ∃ ks' left' a' b' c', jpB [some (dW m), some (.ref h.length), some (.ref (h.length + 1)), a, b, c] (jpH h ks left) =
      .ok (.nx [some (dW m), some (.ref h.length), some (.ref (h.length + 1)), a', b', c']) (jpH h ks' left') ∧ JP m ks' left' ∧
      2 * (m.length - ks'.length) + left'.length < 2 * (m.length - ks.length) + left.length := by
  have hlen : (pN left).length = left.length := by unfold pN; simp
  obtain ⟨u, hu⟩ : ∃ u, left[left.length - 1]? = some u := by
    have : left.length - 1 < left.length := by
      have := List.length_pos_iff.mpr hne
      omega
    exact ⟨_, List.getElem?_eq_getElem this⟩
  have hum : u ∈ left := List.mem_of_getElem? hu
  have huk : u ∈ ks := j.sub u hum
  have hul : u < m.length := j.lt u huk
  have hrow := hm.row (m.getD u []) (by simp [hul])
  have e0 : (pN left)[(pN left).length - 1]? = some (D.int (u : Int)) := by
    rw [hlen]
    unfold pN
    rw [List.getElem?_map, hu]; rfl
  have ed : (pN left).dropLast = pN left.dropLast := by unfold pN; rw [List.map_dropLast]
  -- the inner loop
  have inner : ∀ (b c : Option D), ∃ σ' h', forF (gTup [gVar 4, gVar 5]) jpI [] ((List.range (m.getD u []).length).map fun (i : Nat) => .tup [.int (i : Int), .int ((m.getD u []).getD i 0)]) [some (dW m), some (.ref h.length), some (.ref (h.length + 1)), some (.int (u : Int)), b, c] (jpH h ks left.dropLast) = .ok (.nx σ') h' ∧
      ∃ ks' left' b' c', σ' = [some (dW m), some (.ref h.length), some (.ref (h.length + 1)), some (.int (u : Int)), b', c'] ∧ h' = jpH h ks' left' ∧ ks'.Nodup ∧ (∀ k ∈ ks', k < m.length) ∧ (∀ k ∈ ks, k ∈ ks') ∧ (∀ k ∈ left', k ∈ ks') ∧ (∀ k ∈ left.dropLast, k ∈ left') ∧
        (∀ k ∈ ks', k ∉ left' → k ∈ ks ∧ k ∉ left.dropLast) ∧ (∀ v, v < (m.getD u []).length → 0 < ent m u v → v ∈ ks') ∧ 2 * (m.length - ks'.length) + left'.length ≤ 2 * (m.length - ks.length) + left.dropLast.length := by
    intro b c
    obtain ⟨σ', h', e1, ks', left', b', c', e2, e3, i1, i2, i3, i4, i5, i6, i7, i8⟩ := forF_inv0 (g := gTup [gVar 4, gVar 5]) (body := jpI) (chk := []) (fun (i : Nat) => D.tup [.int (i : Int), .int ((m.getD u []).getD i 0)])
      (fun done σ hh => ∃ ks' left' b' c', σ = [some (dW m), some (.ref h.length), some (.ref (h.length + 1)), some (.int (u : Int)), b', c'] ∧ hh = jpH h ks' left' ∧ ks'.Nodup ∧ (∀ k ∈ ks', k < m.length) ∧ (∀ k ∈ ks, k ∈ ks') ∧ (∀ k ∈ left', k ∈ ks') ∧ (∀ k ∈ left.dropLast, k ∈ left') ∧
        (∀ k ∈ ks', k ∉ left' → k ∈ ks ∧ k ∉ left.dropLast) ∧ (∀ v, v ∈ done → 0 < ent m u v → v ∈ ks') ∧ 2 * (m.length - ks'.length) + left'.length ≤ 2 * (m.length - ks.length) + left.dropLast.length)
      (List.range (m.getD u []).length) (fun _ _ _ _ => okChk_nil _) (fun done x rest σ hh e i => by
        obtain ⟨ks', left', b', c', rfl, rfl, i1, i2, i3, i4, i5, i6, i7, i8⟩ := i
        have hx : x < m.length := by rw [← hrow.1]; exact (range_split e).2
        have l1 : ks'.length ≤ m.length := by
          have := nd_sub ks' (List.range m.length) i1 fun x hx => List.mem_range.mpr (i2 x hx)
          simpa using this
        have l2 := hm.n10
        obtain ⟨ks2, left2, e2, alt⟩ := jpI_step m h ks' left' u x ((m.getD u []).getD x 0) (by unfold LIM; omega) (by
          unfold LIM
          rw [List.length_dropLast] at i8
          omega)
        refine ⟨_, _, _, _, rfl, .inl e2, ?_⟩
        rcases alt with ⟨rfl, rfl, z⟩ | ⟨z, zn, rfl, rfl⟩
        · refine ⟨ks2, left2, _, _, rfl, rfl, i1, i2, i3, i4, i5, i6, fun v hv pv => ?_, i8⟩
          rcases List.mem_append.mp hv with hv | hv
          · exact i7 v hv pv
          · have : v = x := by simpa using hv
            subst this
            exact z pv
        · refine ⟨_, _, _, _, rfl, rfl, ?_, ?_, ?_, ?_, ?_, ?_, ?_, ?_⟩
          · rw [List.nodup_append]
            exact ⟨i1, by simp, fun a ha b hb e => zn (by
              have : b = x := by simpa using hb
              rw [← this, ← e]; exact ha)⟩
          · intro k hk
            rcases List.mem_append.mp hk with hk | hk
            · exact i2 k hk
            · have : k = x := by simpa using hk
              omega
          · exact fun k hk => List.mem_append_left _ (i3 k hk)
          · intro k hk
            rcases List.mem_append.mp hk with hk | hk
            · exact List.mem_append_left _ (i4 k hk)
            · exact List.mem_append_right _ hk
          · exact fun k hk => List.mem_append_left _ (i5 k hk)
          · intro k hk hn
            rw [List.mem_append, not_or] at hn
            rcases List.mem_append.mp hk with hk | hk
            · exact i6 k hk hn.1
            · exact absurd hk hn.2
          · intro v hv pv
            rcases List.mem_append.mp hv with hv | hv
            · exact List.mem_append_left _ (i7 v hv pv)
            · exact List.mem_append_right _ hv
          · have l3 : ks'.length + 1 ≤ m.length := by
              have := nd_sub (x :: ks') (List.range m.length) (List.nodup_cons.mpr ⟨zn, i1⟩) fun y hy => List.mem_range.mpr (by
                rcases List.mem_cons.mp hy with rfl | hy
                · exact hx
                · exact i2 y hy)
              simpa using this
            simp only [List.length_append, List.length_cons, List.length_nil]
            omega)
      ⟨ks, left.dropLast, b, c, rfl, rfl, j.nd, j.lt, fun _ z => z, fun k hk => j.sub k (List.dropLast_subset _ hk), fun _ z => z, fun _ z1 z2 => ⟨z1, z2⟩, fun v hv => by simp at hv, Nat.le_refl _⟩
    exact ⟨σ', h', e1, ks', left', b', c', e2, e3, i1, i2, i3, i4, i5, i6, fun v hv => i7 v (List.mem_range.mpr hv), i8⟩
  obtain ⟨σ', h', e1, ks', left', b', c', rfl, rfl, i1, i2, i3, i4, i5, i6, i7, i8⟩ := inner b c
  refine ⟨ks', left', some (.int (u : Int)), b', c', ?_, ⟨i1, i2, i3 0 j.z, i4, fun k hk hn v hv pv => ?_⟩, ?_⟩
  · unfold jpB
    have e2 : (jpH h ks left)[h.length + 1]? = some (.lst (pN left)) := by unfold jpH; exact hg1 ..
    have e3 : (jpH h ks left).set (h.length + 1) (.lst (pN left).dropLast) = jpH h ks left.dropLast := by unfold jpH; rw [hs1, ed]
    simp only [fn, fnK, sNop, sSeq, sEx, sRet, sIf, sBrk, sCnt, sAsg, gVar, gAll, gTup, gSub, sAug, sAugS, sPar2, sPar3, eVar, eC, aNil, aCons, eAp, eAp1_eq, eAp2_eq, tB, tAnd, tOr, tNot, tTT, eT, eIf, eAnd, eOr, eNot, eCh, oNo, oP, eSl, eMtL, eTup_eq, eLst_eq, eLstR_eq, Res.bind_ok, Res.bind_bad, Res.bind_exc, List.map_cons, List.map_nil, List.length_cons, List.length_nil, List.replicate, List.cons_append, List.nil_append, List.getElem?_cons_zero, List.getElem?_cons_succ, List.set_cons_zero, List.set_cons_succ, if_true, if_false, Nat.reduceAdd, Nat.reduceSub, Nat.reduceEqDiff, reduceIte, Bool.false_eq_true, lstOf, e2, Option.isSome_some, mPop, e0, e3, sFor, iEn, gIx_dW hul, dI, seqOf, chkOf, enum_ints, e1]
  · by_cases hku : k = u
    · subst hku
      exact i7 v (by rw [hrow.1]; exact hv) pv
    · obtain ⟨z1, z2⟩ := i6 k hk hn
      refine i3 v (j.cl k z1 (fun z => ?_) v hv pv)
      -- k is in left but not in what is left of it: it is the last
      have hl : left = left.dropLast ++ [u] := by
        have h1 := List.dropLast_concat_getLast hne
        have h2 : left.getLast hne = u := by
          rw [List.getLast_eq_getElem]
          have := (List.getElem?_eq_some_iff.mp hu).2
          exact this
        rw [← h2]; exact h1.symm
      rw [hl, List.mem_append] at z
      rcases z with z | z
      · exact z2 z
      · exact hku (by simpa using z)
  · rw [List.length_dropLast] at i8
    have := List.length_pos_iff.mpr hne
    omega
theorem jpC_eq (h : Hd) (ks left : List Nat) (w a b c : Option D) : jpC [w, some (.ref h.length), some (.ref (h.length + 1)), a, b, c] (jpH h ks left) = .ok (decide (left ≠ [])) (jpH h ks left) := by
  have e2 : (jpH h ks left)[h.length + 1]? = some (.lst (pN left)) := by unfold jpH; exact hg1 ..
  unfold jpC
  have e3 : pN left = (left.map fun (k : Nat) => (k : Int)).map D.int := by unfold pN; rw [List.map_map]; rfl
  have e4 : LIM = 1000000 := rfl
  simp only [fn, fnK, sNop, sSeq, sEx, sRet, sIf, sBrk, sCnt, sAsg, gVar, gAll, gTup, gSub, sAug, sAugS, sPar2, sPar3, eVar, eC, aNil, aCons, eAp, eAp1_eq, eAp2_eq, tB, tAnd, tOr, tNot, tTT, eT, eIf, eAnd, eOr, eNot, eCh, oNo, oP, eSl, eMtL, eTup_eq, eLst_eq, eLstR_eq, Res.bind_ok, Res.bind_bad, Res.bind_exc, List.map_cons, List.map_nil, List.length_cons, List.length_nil, List.replicate, List.cons_append, List.nil_append, List.getElem?_cons_zero, List.getElem?_cons_succ, List.set_cons_zero, List.set_cons_succ, if_true, if_false, Nat.reduceAdd, Nat.reduceSub, Nat.reduceEqDiff, reduceIte, Bool.false_eq_true, gNe, eqD, strOf, toPyR, e2, e3, toPys_ints, Option.map_some, toPy, toPys, Nat.zero_le]
  have s1 : SeqAt.shaped (.list ((left.map fun (k : Nat) => (k : Int)).map PyData.int)) = true := by
    obtain ⟨a, b⟩ := lay_ints (left.map fun (k : Nat) => (k : Int))
    unfold SeqAt.shaped
    have h1 : PyData.canLay0 (.list ((left.map fun (k : Nat) => (k : Int)).map PyData.int)) = true := by unfold PyData.canLay0; exact a
    have h2 : PyData.depth (.list ((left.map fun (k : Nat) => (k : Int)).map PyData.int)) = 1 := by
      unfold PyData.depth
      rw [b]
    rw [h1, h2]; rfl
  have s2 : SeqAt.shaped (.list []) = true := by
    unfold SeqAt.shaped
    simp [PyData.canLay0, PyData.canLayAll0, PyData.depth, PyData.depthAll]
  simp only [s1, s2, and_self, if_true]
  cases left with
  | nil => simp [PyData.eqv, PyData.eqvAll]
  | cons a b => simp [PyData.eqv, PyData.eqvAll]
theorem jp_loop {m : List (List Int)} (hm : IsWeb m) (h : Hd) : ∀ (M : Nat) (ks left : List Nat) (a b c : Option D), JP m ks left → 2 * (m.length - ks.length) + left.length ≤ M → M ≤ 1000 →
    ∃ ks' a' b' c', sWh jpC jpB [some (dW m), some (.ref h.length), some (.ref (h.length + 1)), a, b, c] (jpH h ks left) = .ok (.nx [some (dW m), some (.ref h.length), some (.ref (h.length + 1)), a', b', c']) (jpH h ks' []) ∧ JP m ks' []
  | M, ks, [], a, b, c, j, _, _ => ⟨ks, a, b, c, by rw [sWh_eq, jpC_eq]; simp, j⟩
  | 0, ks, x :: l, a, b, c, j, hM, _ => by simp at hM
  | M + 1, ks, x :: l, a, b, c, j, hM, hM2 => by
    obtain ⟨ks', left', a', b', c', e, j', lt⟩ := jpB_step hm h ks (x :: l) j (by simp) (by omega) a b c
    obtain ⟨ks2, a2, b2, c2, e2, j2⟩ := jp_loop hm h M ks' left' a' b' c' j' (by omega) (by omega)
    exact ⟨ks2, a2, b2, c2, by rw [sWh_eq, jpC_eq]; simp [e, e2], j2⟩
theorem pN_noRef (n : Nat) (ks : List Nat) : (pN ks).all (noRef n) = true := by
  rw [List.all_eq_true]
  intro x hx
  obtain ⟨k, _, rfl⟩ := List.mem_map.mp hx
  rfl
theorem pT_noRef (n : Nat) (ks : List Nat) : (pT ks).all (noRef n) = true := by
  rw [List.all_eq_true]
  intro x hx
  obtain ⟨k, _, rfl⟩ := List.mem_map.mp hx
  rfl
theorem joined_eq {m : List (List Int)} (hm : IsWeb m) (h : Hd) : ∃ ks vs, f_joined_places [dW m] h = .ok (.dct ks vs) h ∧ ks.length = m.length := by
  have j0 : JP m [0] [0] := ⟨by simp, (fun k hk => by have := hm.n1; simp at hk; omega), by simp, by simp, fun k hk hn => absurd hk hn⟩
  have l10 := hm.n10
  obtain ⟨ks, a, b, c, e, j⟩ := jp_loop hm h 100 [0] [0] none none none j0 (by simp; omega) (by omega)
  refine ⟨pN ks, pT ks, ?_, ?_⟩
  · unfold f_joined_places
    have e1 : ∀ σ, sWh (tB (eAp2 gNe (eVar 2) (eLst aNil))) (sSeq (sAsg (eMtL mPop (eVar 2) aNil) (gVar 3))
  (sFor (gTup [(gVar 4), (gVar 5)]) (iEn (aCons (eAp2 gIx (eVar 0) (eVar 3)) aNil)) (sIf (tAnd (tB (eAp2 gGt (eVar 5) (eC (.int 0)))) (tB (eAp2 (inDc true) (eVar 4) (eVar 1)))) (sSeq (sAsg (eC (.bl true)) (gSub (eVar 1) (eVar 4) gSet))
  (sEx (eMtL mAppend (eVar 2) (aCons (eVar 4) aNil)))) sNop))) σ = sWh jpC jpB σ := fun σ => rfl
    have e2 : h ++ [.dct [.int 0] [.bl true]] ++ [.lst [.int 0]] = jpH h [0] [0] := by simp [jpH, pN, pT]
    have e3 : (h ++ [Ob.dct [.int 0] [.bl true]]).length = h.length + 1 := by simp
    have e4 : (1 : Nat) ≤ LIM := by decide
    simp only [fn, fnK, sNop, sSeq, sEx, sRet, sIf, sBrk, sCnt, sAsg, gVar, gAll, gTup, gSub, sAug, sAugS, sPar2, sPar3, eVar, eC, aNil, aCons, eAp, eAp1_eq, eAp2_eq, tB, tAnd, tOr, tNot, tTT, eT, eIf, eAnd, eOr, eNot, eCh, oNo, oP, eSl, eMtL, eTup_eq, eLst_eq, eLstR_eq, Res.bind_ok, Res.bind_bad, Res.bind_exc, List.map_cons, List.map_nil, List.length_cons, List.length_nil, List.replicate, List.cons_append, List.nil_append, List.getElem?_cons_zero, List.getElem?_cons_succ, List.set_cons_zero, List.set_cons_succ, if_true, if_false, Nat.reduceAdd, Nat.reduceSub, Nat.reduceEqDiff, reduceIte, Bool.false_eq_true, eDsp1, dEnd, e1, e2, e3, e4, e]
    unfold jpH
    exact fin_dct (pN_noRef _ _) (pT_noRef _ _)
  · have hall : ∀ v, v < m.length → v ∈ ks := hm.con (fun v => v ∈ ks) j.z fun u v _ hv hu hp => j.cl u hu (by simp) v hv hp
    have h1 := j.len
    have h2 := nd_sub (List.range m.length) ks List.nodup_range fun x hx => hall x (List.mem_range.mp hx)
    have h3 : (List.range m.length).length = m.length := List.length_range
    have h4 : (pN ks).length = ks.length := by unfold pN; simp
    omega
theorem flat_len {α β : Type} (c : List α) : ∀ l : List β, (l.map fun _ => c).flatten.length = l.length * c.length
  | [] => by simp
  | x :: l => by
    rw [List.map_cons, List.flatten_cons, List.length_append, flat_len c l, List.length_cons, Nat.succ_mul]
    omega
theorem all_same {α : Type} (c : α) : ∀ {a b : List α}, a.length = b.length → (∀ x ∈ a, x = c) → (∀ x ∈ b, x = c) → a = b
  | [], [], _, _, _ => rfl
  | [], y :: b, e, _, _ => by simp at e
  | x :: a, [], e, _, _ => by simp at e
  | x :: a, y :: b, e, h1, h2 => by
    rw [h1 x List.mem_cons_self, h2 y List.mem_cons_self, all_same c (by simpa using e) (fun z hz => h1 z (List.mem_cons_of_mem _ hz)) fun z hz => h2 z (List.mem_cons_of_mem _ hz)]
theorem is_web_eq {m : List (List Int)} (hm : IsWeb m) (h : Hd) : f_is_web [dW m] h = .ok (.bl true) h := by
  have l10 := hm.n10
  have l1 := hm.n1
  have hlim : m.length ≤ LIM := by unfold LIM; omega
  have hlen : gLen [dW m] h = .ok (.int m.length) h := by simp [gLen, dW]
  have hrows : eLc false [2] (iVal (eVar 0)) (gVar 2) tTT (lcOne (eAnd (eAp f_is_row (aCons (eVar 2) (aCons (eVar 1) aNil))) (eAp2 gGe (eAp gMin (aCons (eVar 2) aNil)) (eC (.int 0))))) [some (dW m), some (.int m.length), none, none, none] h = .ok (.lst (m.map fun _ => .bl true)) h := by
    simp only [eLc, lcIn, iVal, dW, seqOf, chkOf, wipe, fn, fnK, sNop, sSeq, sEx, sRet, sIf, sBrk, sCnt, sAsg, gVar, gAll, gTup, gSub, sAug, sAugS, sPar2, sPar3, eVar, eC, aNil, aCons, eAp, eAp1_eq, eAp2_eq, tB, tAnd, tOr, tNot, tTT, eT, eIf, eAnd, eOr, eNot, eCh, oNo, oP, eSl, eMtL, eTup_eq, eLst_eq, eLstR_eq, Res.bind_ok, Res.bind_bad, Res.bind_exc, List.map_cons, List.map_nil, List.length_cons, List.length_nil, List.replicate, List.cons_append, List.nil_append, List.getElem?_cons_zero, List.getElem?_cons_succ, List.set_cons_zero, List.set_cons_succ, if_true, if_false, Nat.reduceAdd, Nat.reduceSub, Nat.reduceEqDiff, reduceIte, Bool.false_eq_true]
    rw [lcF_one (fun r => dI r) (fun _ => .bl true) m fun r hr => ⟨_, rfl, rfl, by
      obtain ⟨e1, e2⟩ := hm.row r hr
      obtain ⟨a, ea⟩ : ∃ a, r.min? = some a := by
        cases r with
        | nil => simp at e1; omega
        | cons x r => exact ⟨_, List.min?_cons' ..⟩
      have ha : 0 ≤ a := e2 a (List.min?_mem ea)
      simp only [fn, fnK, sNop, sSeq, sEx, sRet, sIf, sBrk, sCnt, sAsg, gVar, gAll, gTup, gSub, sAug, sAugS, sPar2, sPar3, eVar, eC, aNil, aCons, eAp, eAp1_eq, eAp2_eq, tB, tAnd, tOr, tNot, tTT, eT, eIf, eAnd, eOr, eNot, eCh, oNo, oP, eSl, eMtL, eTup_eq, eLst_eq, eLstR_eq, Res.bind_ok, Res.bind_bad, Res.bind_exc, List.map_cons, List.map_nil, List.length_cons, List.length_nil, List.replicate, List.cons_append, List.nil_append, List.getElem?_cons_zero, List.getElem?_cons_succ, List.set_cons_zero, List.set_cons_succ, if_true, if_false, Nat.reduceAdd, Nat.reduceSub, Nat.reduceEqDiff, reduceIte, Bool.false_eq_true, is_row_eq r m.length h (by rw [e1]; exact hlim), e1, decide_true, gMin_dI ea, gGe, ha]⟩]
    simp [lcEnd, hlim]
  have hat : ∀ u v, u < m.length → v < m.length → gIx [dI (m.getD u []), .int (v : Int)] h = .ok (.int (ent m u v)) h := fun u v hu hv => by
    have hr := (hm.row (m.getD u []) (by simp [hu])).1
    exact gIx_dI (by rw [hr]; exact hv) h
  have hent : eLc false [3, 4] (iRg1 (aCons (eVar 1) aNil)) (gVar 3) tTT (lcIn [4] (iRg1 (aCons (eVar 1) aNil)) (gVar 4) tTT (lcOne (eAnd (eAp2 gEq (eAp2 gIx (eAp2 gIx (eVar 0) (eVar 3)) (eVar 4)) (eAp2 gIx (eAp2 gIx (eVar 0) (eVar 4)) (eVar 3))) (eAp2 gEq (eAp2 gIx (eAp2 gIx (eVar 0) (eVar 3)) (eVar 3)) (eC (.int 0)))))) [some (dW m), some (.int m.length), none, none, none] h =
      .ok (.lst ((List.range m.length).map fun _ => (List.range m.length).map fun _ => D.bl true).flatten) h := by
    have hb : -BIG ≤ (m.length : Int) ∧ (m.length : Int) ≤ BIG := by unfold BIG; omega
    have hr : rngItems 0 (m.length : Int).toNat = (List.range m.length).map fun (i : Nat) => D.int (i : Int) := by
      unfold rngItems
      simp
    simp only [eLc, lcIn, wipe, fn, fnK, sNop, sSeq, sEx, sRet, sIf, sBrk, sCnt, sAsg, gVar, gAll, gTup, gSub, sAug, sAugS, sPar2, sPar3, eVar, eC, aNil, aCons, eAp, eAp1_eq, eAp2_eq, tB, tAnd, tOr, tNot, tTT, eT, eIf, eAnd, eOr, eNot, eCh, oNo, oP, eSl, eMtL, eTup_eq, eLst_eq, eLstR_eq, Res.bind_ok, Res.bind_bad, Res.bind_exc, List.map_cons, List.map_nil, List.length_cons, List.length_nil, List.replicate, List.cons_append, List.nil_append, List.getElem?_cons_zero, List.getElem?_cons_succ, List.set_cons_zero, List.set_cons_succ, if_true, if_false, Nat.reduceAdd, Nat.reduceSub, Nat.reduceEqDiff, reduceIte, Bool.false_eq_true, iRg1, hb, and_self, hr]
    rw [lcF_map (fun (i : Nat) => D.int (i : Int)) (fun _ => (List.range m.length).map fun _ => D.bl true) (List.range m.length) fun u hu => ⟨_, rfl, rfl, by
      have hu := List.mem_range.mp hu
      simp only [fn, fnK, sNop, sSeq, sEx, sRet, sIf, sBrk, sCnt, sAsg, gVar, gAll, gTup, gSub, sAug, sAugS, sPar2, sPar3, eVar, eC, aNil, aCons, eAp, eAp1_eq, eAp2_eq, tB, tAnd, tOr, tNot, tTT, eT, eIf, eAnd, eOr, eNot, eCh, oNo, oP, eSl, eMtL, eTup_eq, eLst_eq, eLstR_eq, Res.bind_ok, Res.bind_bad, Res.bind_exc, List.map_cons, List.map_nil, List.length_cons, List.length_nil, List.replicate, List.cons_append, List.nil_append, List.getElem?_cons_zero, List.getElem?_cons_succ, List.set_cons_zero, List.set_cons_succ, if_true, if_false, Nat.reduceAdd, Nat.reduceSub, Nat.reduceEqDiff, reduceIte, Bool.false_eq_true, lcIn, iRg1, wipe, hb, and_self, hr]
      rw [lcF_one (fun (i : Nat) => D.int (i : Int)) (fun _ => D.bl true) (List.range m.length) fun v hv => ⟨_, rfl, rfl, by
        have hv := List.mem_range.mp hv
        simp only [fn, fnK, sNop, sSeq, sEx, sRet, sIf, sBrk, sCnt, sAsg, gVar, gAll, gTup, gSub, sAug, sAugS, sPar2, sPar3, eVar, eC, aNil, aCons, eAp, eAp1_eq, eAp2_eq, tB, tAnd, tOr, tNot, tTT, eT, eIf, eAnd, eOr, eNot, eCh, oNo, oP, eSl, eMtL, eTup_eq, eLst_eq, eLstR_eq, Res.bind_ok, Res.bind_bad, Res.bind_exc, List.map_cons, List.map_nil, List.length_cons, List.length_nil, List.replicate, List.cons_append, List.nil_append, List.getElem?_cons_zero, List.getElem?_cons_succ, List.set_cons_zero, List.set_cons_succ, if_true, if_false, Nat.reduceAdd, Nat.reduceSub, Nat.reduceEqDiff, reduceIte, Bool.false_eq_true, gIx_dW hu, gIx_dW hv, hat u v hu hv, hat v u hv hu, hat u u hu hu, gEq_int, hm.sym u v hu hv, hm.nul u hu, decide_true]⟩]⟩]
    have : ((List.range m.length).map fun _ => (List.range m.length).map fun _ => D.bl true).flatten.length ≤ LIM := by
      have e : ((List.range m.length).map fun _ => (List.range m.length).map fun _ => D.bl true).flatten.length = m.length * m.length := by rw [flat_len]; simp
      rw [e]
      unfold LIM
      have : m.length * m.length ≤ 10 * 10 := Nat.mul_le_mul l10 l10
      omega
    simp only [Res.bind_ok, lcEnd, this, if_true, Bool.false_eq_true, if_false]
  have hsum : eLc false [2] (iVal (eVar 0)) (gVar 2) tTT (lcOne (eAp gSum (aCons (eVar 2) aNil))) [some (dW m), some (.int m.length), none, none, none] h = .ok (.lst ((m.map List.sum).map D.int)) h := by
    simp only [eLc, lcIn, iVal, dW, seqOf, chkOf, wipe, fn, fnK, sNop, sSeq, sEx, sRet, sIf, sBrk, sCnt, sAsg, gVar, gAll, gTup, gSub, sAug, sAugS, sPar2, sPar3, eVar, eC, aNil, aCons, eAp, eAp1_eq, eAp2_eq, tB, tAnd, tOr, tNot, tTT, eT, eIf, eAnd, eOr, eNot, eCh, oNo, oP, eSl, eMtL, eTup_eq, eLst_eq, eLstR_eq, Res.bind_ok, Res.bind_bad, Res.bind_exc, List.map_cons, List.map_nil, List.length_cons, List.length_nil, List.replicate, List.cons_append, List.nil_append, List.getElem?_cons_zero, List.getElem?_cons_succ, List.set_cons_zero, List.set_cons_succ, if_true, if_false, Nat.reduceAdd, Nat.reduceSub, Nat.reduceEqDiff, reduceIte, Bool.false_eq_true]
    rw [lcF_one (fun r => dI r) (fun r => .int r.sum) m fun r hr => ⟨_, rfl, rfl, by simp only [fn, fnK, sNop, sSeq, sEx, sRet, sIf, sBrk, sCnt, sAsg, gVar, gAll, gTup, gSub, sAug, sAugS, sPar2, sPar3, eVar, eC, aNil, aCons, eAp, eAp1_eq, eAp2_eq, tB, tAnd, tOr, tNot, tTT, eT, eIf, eAnd, eOr, eNot, eCh, oNo, oP, eSl, eMtL, eTup_eq, eLst_eq, eLstR_eq, Res.bind_ok, Res.bind_bad, Res.bind_exc, List.map_cons, List.map_nil, List.length_cons, List.length_nil, List.replicate, List.cons_append, List.nil_append, List.getElem?_cons_zero, List.getElem?_cons_succ, List.set_cons_zero, List.set_cons_succ, if_true, if_false, Nat.reduceAdd, Nat.reduceSub, Nat.reduceEqDiff, reduceIte, Bool.false_eq_true, gSum_dI]⟩]
    simp [lcEnd, hlim, Function.comp_def]
  have ev1 : gEvery [.lst (m.map fun _ => D.bl true)] h = .ok (.bl true) h := by
    have := gEvery_map (fun _ => true) m h
    rw [this]
    congr 2
    simp
  have ev2 : gEvery [.lst ((List.range m.length).map fun _ => (List.range m.length).map fun _ => D.bl true).flatten] h = .ok (.bl true) h := by
    have : ((List.range m.length).map fun _ => (List.range m.length).map fun _ => D.bl true).flatten = (List.range (m.length * m.length)).map fun _ => D.bl true := by
      apply all_same (D.bl true)
      · rw [flat_len]; simp
      · intro x hx
        obtain ⟨l, hl, hxl⟩ := List.mem_flatten.mp hx
        obtain ⟨_, _, rfl⟩ := List.mem_map.mp hl
        obtain ⟨_, _, rfl⟩ := List.mem_map.mp hxl
        rfl
      · intro x hx
        obtain ⟨_, _, rfl⟩ := List.mem_map.mp hx
        rfl
    rw [this]
    have := gEvery_map (fun _ => true) (List.range (m.length * m.length)) h
    rw [this]
    congr 2
    simp
  obtain ⟨ks, vs, ej, ek⟩ := joined_eq hm h
  have h1 : decide ((1 : Int) ≤ (m.length : Int)) = true := decide_eq_true (by omega)
  have h2 : decide ((m.length : Int) ≤ 10) = true := decide_eq_true (by omega)
  have h3 : (m.map List.sum).sum ≤ 24 := hm.sum
  have h4 : mulOk 2 12 := .inl ⟨by decide, by decide⟩
  have h5 : gLen [.dct ks vs] h = .ok (.int m.length) h := by simp [gLen, ek]
  have h6 : tyOf h (dW m) = some "tuple" := rfl
  have h7 : decide ((m.map List.sum).sum ≤ 2 * 12) = true := decide_eq_true (by omega)
  unfold f_is_web
  simp only [fn, fnK, sNop, sSeq, sEx, sRet, sIf, sBrk, sCnt, sAsg, gVar, gAll, gTup, gSub, sAug, sAugS, sPar2, sPar3, eVar, eC, aNil, aCons, eAp, eAp1_eq, eAp2_eq, tB, tAnd, tOr, tNot, tTT, eT, eIf, eAnd, eOr, eNot, eCh, oNo, oP, eSl, eMtL, eTup_eq, eLst_eq, eLstR_eq, Res.bind_ok, Res.bind_bad, Res.bind_exc, List.map_cons, List.map_nil, List.length_cons, List.length_nil, List.replicate, List.cons_append, List.nil_append, List.getElem?_cons_zero, List.getElem?_cons_succ, List.set_cons_zero, List.set_cons_succ, if_true, if_false, Nat.reduceAdd, Nat.reduceSub, Nat.reduceEqDiff, reduceIte, Bool.false_eq_true, eIs, h6, subTy, hlen, gLe, h1, h2, List.any_cons, List.any_nil, hrows, ev1, hent, ev2, hsum, gSum_lst, gMul, h4, ej, h5, gEq_int, h7, beq_self_eq_true, Bool.true_or, Bool.not_true, decide_true]
  exact fin_bl h true
end BR

namespace BR
open PySem
def sm (n : Nat) (f : Nat → Int) : Int := ((List.range n).map f).sum
theorem sum_app (a b : List Int) : (a ++ b).sum = a.sum + b.sum := by
  induction a with
  | nil => simp
  | cons x a ih => simp [ih]; omega
theorem sm_succ (n : Nat) (f : Nat → Int) : sm (n + 1) f = sm n f + f n := by
  unfold sm
  rw [List.range_succ, List.map_append, sum_app]
  simp
theorem sm_congr {n : Nat} {f g : Nat → Int} (h : ∀ i, i < n → f i = g i) : sm n f = sm n g := by
  unfold sm
  congr 1
  apply List.map_congr_left
  intro i hi
  exact h i (List.mem_range.mp hi)
theorem sm_add (n : Nat) (f g : Nat → Int) : sm n (fun i => f i + g i) = sm n f + sm n g := by
  induction n with
  | zero => rfl
  | succ n ih => rw [sm_succ, sm_succ, sm_succ, ih]; omega
theorem sm_nil (n : Nat) : sm n (fun _ => 0) = 0 := by
  induction n with
  | zero => rfl
  | succ n ih => rw [sm_succ, ih]; rfl
theorem sum_sm (l : List Int) : l.sum = sm l.length fun i => l.getD i 0 := by
  unfold sm
  congr 1
  apply List.ext_getElem
  · simp
  · intro i h1 h2
    simp at h2
    simp [h2]
theorem le_sum {l : List Int} (h : ∀ x ∈ l, 0 ≤ x) : 0 ≤ l.sum ∧ ∀ x ∈ l, x ≤ l.sum := by
  induction l with
  | nil => simp
  | cons y l ih =>
    obtain ⟨h1, h2⟩ := ih fun x hx => h x (List.mem_cons_of_mem _ hx)
    have hy := h y List.mem_cons_self
    rw [List.sum_cons]
    refine ⟨by omega, fun x hx => ?_⟩
    rcases List.mem_cons.mp hx with rfl | hx
    · omega
    · have := h2 x hx; omega
theorem getD_mem {α : Type} {l : List α} {i : Nat} {d : α} (h : i < l.length) : l.getD i d ∈ l := by simp [h]
theorem ent_lo {m : List (List Int)} (hm : IsWeb m) {u v : Nat} (hu : u < m.length) (hv : v < m.length) : 0 ≤ ent m u v := by
  have h1 := hm.row _ (getD_mem (d := []) hu)
  exact h1.2 _ (getD_mem (by rw [h1.1]; exact hv))
theorem ent_hi {m : List (List Int)} (hm : IsWeb m) {u v : Nat} (hu : u < m.length) (hv : v < m.length) : ent m u v ≤ 24 := by
  have h1 := hm.row _ (getD_mem (d := []) hu)
  have h2 := (le_sum (l := m.getD u []) h1.2).2 _ (getD_mem (d := 0) (i := v) (by rw [h1.1]; exact hv))
  have h3 : ∀ x ∈ m.map List.sum, 0 ≤ x := fun x hx => by
    obtain ⟨r, hr, rfl⟩ := List.mem_map.mp hx
    exact (le_sum (hm.row r hr).2).1
  have h4 := (le_sum h3).2 (m.getD u []).sum (List.mem_map.mpr ⟨_, getD_mem hu, rfl⟩)
  have h5 := hm.sum
  unfold ent
  omega
theorem row_sum {m : List (List Int)} (hm : IsWeb m) {u : Nat} (hu : u < m.length) : (m.getD u []).sum = sm m.length (ent m u) := by
  rw [sum_sm, (hm.row _ (getD_mem (d := []) hu)).1]
  rfl
theorem mulOk_l {a b : Int} (h1 : -(2 ^ 64) < a) (h2 : a < 2 ^ 64) : mulOk a b := .inl ⟨h1, h2⟩
theorem mulOk_r {a b : Int} (h1 : -(2 ^ 64) < b) (h2 : b < 2 ^ 64) : mulOk a b := .inr (.inl ⟨h1, h2⟩)
theorem log2_bd {n k : Nat} (h : n < 2 ^ k) (hk : 0 < k) : n.log2 < k := by
  by_cases e : n = 0
  · subst e
    simpa using hk
  · exact (Nat.log2_lt e).mpr h
theorem need_web_eq {m : List (List Int)} (hm : IsWeb m) (h : Hd) : f_need_web [dW m] h = .ok .non h := by
  unfold f_need_web
  simp only [fn, fnK, sNop, sSeq, sEx, sRet, sIf, sBrk, sCnt, sAsg, gVar, gAll, gTup, gSub, sAug, sAugS, sPar2, sPar3, eVar, eC, aNil, aCons, eAp, eAp1_eq, eAp2_eq, tB, tAnd, tOr, tNot, tTT, eT, eIf, eAnd, eOr, eNot, eCh, oNo, oP, eSl, eMtL, eTup_eq, eLst_eq, eLstR_eq, Res.bind_ok, Res.bind_bad, Res.bind_exc, List.map_cons, List.map_nil, List.length_cons, List.length_nil, List.replicate, List.cons_append, List.nil_append, List.getElem?_cons_zero, List.getElem?_cons_succ, List.set_cons_zero, List.set_cons_succ, if_true, if_false, Nat.reduceAdd, Nat.reduceSub, Nat.reduceEqDiff, reduceIte, Bool.false_eq_true, is_web_eq hm, Bool.not_true, fin_non]
theorem gLen_dW (m : List (List Int)) (h : Hd) : gLen [dW m] h = .ok (.int m.length) h := by simp [gLen, dW]
theorem ints_noRef (n : Nat) (xs : List Int) : (xs.map D.int).all (noRef n) = true := by
  rw [List.all_eq_true]
  intro x hx
  obtain ⟨_, _, rfl⟩ := List.mem_map.mp hx
  rfl
end BR

namespace BR
open PySem
/-- the heap: the cells, the pen (t drawn, a left over), the rest -/
def hp (c : List Int) (t a : Int) (r : Hd) : Hd := .lst (c.map D.int) :: .lst [.ref 0, .int t, .int a] :: r
/-- the most cells drawn -/
def TM : Int := 1000000000
theorem fin_pen {c : List Int} {t a t' a' : Int} {r s : Hd} {d : D} (e : noRef (r.length + 2) d = true) : fin (hp c t a r) d (hp c t' a' (r ++ s)) = .ok d (hp c t' a' r) := by
  have ho : okOld (hp c t a r) (hp c t' a' (r ++ s)) := fun i hi => by
    match i, hi with
    | 0, _ => exact ⟨_, rfl, .inl rfl⟩
    | 1, _ => exact ⟨_, rfl, .inr (by simp [obNoRef, noRef, hp])⟩
    | i + 2, hi =>
      have hi : i < r.length := by simp [hp] at hi; omega
      exact ⟨r[i], by
        show (r ++ _)[i]? = some r[i]
        rw [List.getElem?_append_left hi]; simp [hi], .inl (by simp [hp, hi])⟩
  unfold fin
  rw [if_pos ho]
  unfold frz
  have hl : (hp c t a r).length = r.length + 2 := by simp [hp]
  rw [hl, if_pos e]
  simp [hp]
theorem fin_pen0 {c : List Int} {t a t' a' : Int} {r : Hd} {d : D} (e : noRef (r.length + 2) d = true) : fin (hp c t a r) d (hp c t' a' r) = .ok d (hp c t' a' r) := by
  have := fin_pen (c := c) (t := t) (a := a) (t' := t') (a' := a') (r := r) (s := []) e
  rw [List.append_nil] at this
  exact this
theorem fin_penL {c : List Int} {t a t' a' : Int} {r s : Hd} {xs : List D} (e : xs.all (noRef (r.length + 2)) = true) : fin (hp c t a r) (.ref (r.length + 2)) (hp c t' a' (r ++ .lst xs :: s)) = .ok (.lst xs) (hp c t' a' r) := by
  have ho : okOld (hp c t a r) (hp c t' a' (r ++ .lst xs :: s)) := fun i hi => by
    match i, hi with
    | 0, _ => exact ⟨_, rfl, .inl rfl⟩
    | 1, _ => exact ⟨_, rfl, .inr (by simp [obNoRef, noRef, hp])⟩
    | i + 2, hi =>
      have hi : i < r.length := by simp [hp] at hi; omega
      exact ⟨r[i], by
        show (r ++ _)[i]? = some r[i]
        rw [List.getElem?_append_left hi]; simp [hi], .inl (by simp [hp, hi])⟩
  unfold fin
  rw [if_pos ho]
  unfold frz
  have hl : (hp c t a r).length = r.length + 2 := by simp [hp]
  rw [hl, if_neg (by simp [noRef])]
  have : (hp c t' a' (r ++ .lst xs :: s))[r.length + 2]? = some (.lst xs) := by simp [hp]
  simp only [this, e, if_true]
  simp [hp]
theorem fmod_lt {a b : Int} (h : 0 < b) : 0 ≤ a.fmod b ∧ a.fmod b < b := by
  rw [Int.fmod_eq_emod_of_nonneg _ (by omega)]
  exact ⟨Int.emod_nonneg _ (by omega), Int.emod_lt_of_pos _ h⟩
theorem gIx_at {d : D} {xs : List D} {h : Hd} {i : Int} (e : seqOf h d = some xs) (h0 : 0 ≤ i) (h1 : i < xs.length) : gIx [d, .int i] h = .ok (xs.getD i.toNat .non) h := by
  unfold gIx
  have hi : i.toNat < xs.length := by omega
  have e2 := atI_nat (xs := xs) (i := i.toNat) hi
  have : ((i.toNat : Nat) : Int) = i := by omega
  rw [this] at e2
  simp only [e, e2]
  congr 1
  simp [hi]
def PR : List Int := [2147483629, 2147483587, 2147483579, 2147483563, 2147483549, 2147483543, 2147483497, 2147483489, 2147483477, 2147483423, 2147483399, 2147483353, 2147483323]
theorem pr_at (x : Int) (h : Hd) : ∃ q : Int, gIx [.lst (PR.map D.int), .int (x.fmod 13)] h = .ok (.int q) h ∧ 2147483323 ≤ q ∧ q ≤ 2147483629 := by
  obtain ⟨h0, h1⟩ := fmod_lt (a := x) (b := 13) (by decide)
  have hi : (x.fmod 13).toNat < PR.length := by show _ < 13; omega
  refine ⟨PR.getD (x.fmod 13).toNat 0, ?_, ?_⟩
  · rw [gIx_at (xs := PR.map D.int) rfl h0 (by rw [List.length_map]; show x.fmod 13 < (13 : Nat); omega)]
    congr 1
    simp [hi]
  · have := getD_mem (d := (0 : Int)) hi
    have all : ∀ q ∈ PR, 2147483323 ≤ q ∧ q ≤ 2147483629 := by decide
    exact all _ this
theorem gPow_ok {i : Int} {k : Nat} (hk : k ≤ 10) (h1 : 0 ≤ i) (h2 : i < 2 ^ 64) (h : Hd) : gPow [.int i, .int (k : Int)] h = .ok (.int (i ^ k)) h := by
  unfold gPow
  have : 0 ≤ (k : Int) ∧ (k : Int) ≤ 1000000 ∧ i.natAbs < 2 ^ 64 := ⟨by omega, by omega, by omega⟩
  simp only [this, and_self, if_true]
  simp
theorem gPow10 (k : Nat) (hk : k ≤ 100) (h : Hd) : gPow [.int 10, .int (k : Int)] h = .ok (.int (10 ^ k)) h := by
  unfold gPow
  have : 0 ≤ (k : Int) ∧ (k : Int) ≤ 1000000 ∧ (10 : Int).natAbs < 2 ^ 64 := ⟨by omega, by omega, by decide⟩
  simp only [this, and_self, if_true]
  simp
theorem gMod_ok {i j : Int} (hj : j ≠ 0) (h : Hd) : gMod [.int i, .int j] h = .ok (.int (i.fmod j)) h := by
  unfold gMod
  simp only [hj, ne_eq, not_false_eq_true, if_true]
theorem gMul_ok {i j : Int} (e : mulOk i j) (h : Hd) : gMul [.int i, .int j] h = .ok (.int (i * j)) h := by
  unfold gMul
  simp only [e, if_true]
theorem gMul_s {i j : Int} (h1 : -(2 ^ 64) < i) (h2 : i < 2 ^ 64) (h : Hd) : gMul [.int i, .int j] h = .ok (.int (i * j)) h := gMul_ok (mulOk_l h1 h2) h
theorem gMul_r {i j : Int} (h1 : -(2 ^ 64) < j) (h2 : j < 2 ^ 64) (h : Hd) : gMul [.int i, .int j] h = .ok (.int (i * j)) h := gMul_ok (mulOk_r h1 h2) h
theorem gAdd_ii (i j : Int) (h : Hd) : gAdd [.int i, .int j] h = .ok (.int (i + j)) h := rfl
theorem gSubt_ii (i j : Int) (h : Hd) : gSubt [.int i, .int j] h = .ok (.int (i - j)) h := rfl
theorem spread_eq (x t : Int) (h0 : 0 ≤ t) (h1 : t ≤ TM) (h : Hd) : ∃ v, f_law_spread [.int x, .int t] h = .ok (.int v) h := by
  unfold TM at h1
  by_cases hx : 10 ^ 18 ≤ x
  · refine ⟨x, ?_⟩
    have e1 : gPow [.int 10, .int 18] h = .ok (.int (10 ^ 18)) h := gPow10 18 (by decide) h
    unfold f_law_spread
    simp only [fn, fnK, sNop, sSeq, sEx, sRet, sIf, sBrk, sCnt, sAsg, gVar, gAll, gTup, gSub, sAug, sAugS, sPar2, sPar3, eVar, eC, aNil, aCons, eAp, eAp1_eq, eAp2_eq, tB, tAnd, tOr, tNot, tTT, eT, eIf, eAnd, eOr, eNot, eCh, oNo, oP, eSl, eMtL, eTup_eq, eLst_eq, eLstR_eq, Res.bind_ok, Res.bind_bad, Res.bind_exc, List.map_cons, List.map_nil, List.length_cons, List.length_nil, List.replicate, List.cons_append, List.nil_append, List.getElem?_cons_zero, List.getElem?_cons_succ, List.set_cons_zero, List.set_cons_succ, if_true, if_false, Nat.reduceAdd, Nat.reduceSub, Nat.reduceEqDiff, reduceIte, Bool.false_eq_true, e1, gGe, hx, decide_true, fin_int]
  · have e1 : gPow [.int 10, .int 18] h = .ok (.int (10 ^ 18)) h := gPow10 18 (by decide) h
    obtain ⟨q1, p1, b1, c1⟩ := pr_at t h
    obtain ⟨q2, p2, b2, c2⟩ := pr_at (t + 5) h
    obtain ⟨q3, p3, b3, c3⟩ := pr_at (t + 7) h
    obtain ⟨m1, m2⟩ := fmod_lt (a := x) (b := 1000000007) (by decide)
    obtain ⟨m3, m4⟩ := fmod_lt (a := x) (b := 65537) (by decide)
    have z1 : x.fmod 1000000007 * (2 * t + 69069) ≤ 1000000006 * (2 * t + 69069) := Int.mul_le_mul_of_nonneg_right (by omega) (by omega)
    have z2 : 0 ≤ x.fmod 1000000007 * (2 * t + 69069) := Int.mul_nonneg m1 (by omega)
    obtain ⟨n1, n2⟩ := fmod_lt (a := (x.fmod 1000000007 * (2 * t + 69069) + t * 40503 + 977) ^ 3) (b := q1) (by omega)
    generalize ho : ((x.fmod 1000000007 * (2 * t + 69069) + t * 40503 + 977) ^ 3).fmod q1 = one at n1 n2
    have z3 : one * (t + 3) ≤ 2147483629 * (t + 3) := Int.mul_le_mul_of_nonneg_right (by omega) (by omega)
    have z4 : 0 ≤ one * (t + 3) := Int.mul_nonneg n1 (by omega)
    obtain ⟨o1, o2⟩ := fmod_lt (a := (one * (t + 3) + x.fmod 65537 + 5) ^ 5) (b := q2) (by omega)
    generalize hw : ((one * (t + 3) + x.fmod 65537 + 5) ^ 5).fmod q2 = two at o1 o2
    obtain ⟨s1, s2⟩ := fmod_lt (a := one) (b := 1009) (by decide)
    refine ⟨(one * 2147483647 + two) * 2147483647 + ((two + one.fmod 1009 + t) ^ 3).fmod q3, ?_⟩
    have d1 : gMul [.int (x.fmod 1000000007), .int (2 * t + 69069)] h = _ := gMul_s (by omega) (by omega) h
    have d2 : gMul [.int 2, .int t] h = _ := gMul_s (by omega) (by omega) h
    have d3 : gMul [.int t, .int 40503] h = _ := gMul_r (by omega) (by omega) h
    have d4 : gPow [.int (x.fmod 1000000007 * (2 * t + 69069) + t * 40503 + 977), .int 3] h = _ := gPow_ok (k := 3) (by decide) (by omega) (by omega) h
    have d5 : gMul [.int one, .int (t + 3)] h = _ := gMul_s (by omega) (by omega) h
    have d6 : gPow [.int (one * (t + 3) + x.fmod 65537 + 5), .int 5] h = _ := gPow_ok (k := 5) (by decide) (by omega) (by omega) h
    have d7 : gPow [.int (two + one.fmod 1009 + t), .int 3] h = _ := gPow_ok (k := 3) (by decide) (by omega) (by omega) h
    have d8 : gMul [.int one, .int 2147483647] h = _ := gMul_s (by omega) (by omega) h
    have d9 : gMul [.int (one * 2147483647 + two), .int 2147483647] h = _ := gMul_r (by omega) (by omega) h
    have g1 : gMod [.int x, .int 1000000007] h = _ := gMod_ok (by decide) h
    have g2 : gMod [.int x, .int 65537] h = _ := gMod_ok (by decide) h
    have g3 : gMod [.int one, .int 1009] h = _ := gMod_ok (by decide) h
    have g4 : ∀ y : Int, gMod [.int y, .int 13] h = _ := fun y => gMod_ok (by decide) h
    have g5 : ∀ y : Int, gMod [.int y, .int q1] h = _ := fun y => gMod_ok (by omega) h
    have g6 : ∀ y : Int, gMod [.int y, .int q2] h = _ := fun y => gMod_ok (by omega) h
    have g7 : ∀ y : Int, gMod [.int y, .int q3] h = _ := fun y => gMod_ok (by omega) h
    have hx' : decide ((10 : Int) ^ 18 ≤ x) = false := decide_eq_false hx
    have l1 : (8 : Nat) ≤ LIM := by decide
    have l2 : (5 : Nat) ≤ LIM := by decide
    have l3 : (8 : Nat) + 5 ≤ LIM := by decide
    unfold PR at p1 p2 p3
    simp only [List.map_cons, List.map_nil] at p1 p2 p3
    unfold f_law_spread
    simp only [fn, fnK, sNop, sSeq, sEx, sRet, sIf, sBrk, sCnt, sAsg, gVar, gAll, gTup, gSub, sAug, sAugS, sPar2, sPar3, eVar, eC, aNil, aCons, eAp, eAp1_eq, eAp2_eq, tB, tAnd, tOr, tNot, tTT, eT, eIf, eAnd, eOr, eNot, eCh, oNo, oP, eSl, eMtL, eTup_eq, eLst_eq, eLstR_eq, Res.bind_ok, Res.bind_bad, Res.bind_exc, List.map_cons, List.map_nil, List.length_cons, List.length_nil, List.replicate, List.cons_append, List.nil_append, List.getElem?_cons_zero, List.getElem?_cons_succ, List.set_cons_zero, List.set_cons_succ, if_true, if_false, Nat.reduceAdd, Nat.reduceSub, Nat.reduceEqDiff, reduceIte, Bool.false_eq_true, e1, gGe, hx', l1, l2]
    have a1 : gAdd [.lst [.int 2147483629, .int 2147483587, .int 2147483579, .int 2147483563, .int 2147483549, .int 2147483543, .int 2147483497, .int 2147483489], .lst [.int 2147483477, .int 2147483423, .int 2147483399, .int 2147483353, .int 2147483323]] h =
      .ok (.lst [.int 2147483629, .int 2147483587, .int 2147483579, .int 2147483563, .int 2147483549, .int 2147483543, .int 2147483497, .int 2147483489, .int 2147483477, .int 2147483423, .int 2147483399, .int 2147483353, .int 2147483323]) h := by
      unfold gAdd
      simp [LIM]
    have k3 : ((3 : Nat) : Int) = 3 := rfl
    simp only [fn, fnK, sNop, sSeq, sEx, sRet, sIf, sBrk, sCnt, sAsg, gVar, gAll, gTup, gSub, sAug, sAugS, sPar2, sPar3, eVar, eC, aNil, aCons, eAp, eAp1_eq, eAp2_eq, tB, tAnd, tOr, tNot, tTT, eT, eIf, eAnd, eOr, eNot, eCh, oNo, oP, eSl, eMtL, eTup_eq, eLst_eq, eLstR_eq, Res.bind_ok, Res.bind_bad, Res.bind_exc, List.map_cons, List.map_nil, List.length_cons, List.length_nil, List.replicate, List.cons_append, List.nil_append, List.getElem?_cons_zero, List.getElem?_cons_succ, List.set_cons_zero, List.set_cons_succ, if_true, if_false, Nat.reduceAdd, Nat.reduceSub, Nat.reduceEqDiff, reduceIte, Bool.false_eq_true, a1, g1, g2, g4, gAdd_ii, d1, d2, d3, d4, p1, g5, ho, d5, d6, p2, g6, hw, g3, d7, p3, g7, d8, d9, fin_int]
end BR

namespace BR
open PySem
theorem pen0 (c : List Int) (t a : Int) (r : Hd) : gIx [.ref 1, .int 0] (hp c t a r) = .ok (.ref 0) (hp c t a r) := rfl
theorem pen1 (c : List Int) (t a : Int) (r : Hd) : gIx [.ref 1, .int 1] (hp c t a r) = .ok (.int t) (hp c t a r) := rfl
theorem pen2 (c : List Int) (t a : Int) (r : Hd) : gIx [.ref 1, .int 2] (hp c t a r) = .ok (.int a) (hp c t a r) := rfl
theorem pens1 (c : List Int) (t a t' : Int) (r : Hd) : gSet [.ref 1, .int 1, .int t'] (hp c t a r) = .ok .non (hp c t' a r) := rfl
theorem pens2 (c : List Int) (t a a' : Int) (r : Hd) : gSet [.ref 1, .int 2, .int a'] (hp c t a r) = .ok .non (hp c t a' r) := rfl
theorem cell_len (c : List Int) (t a : Int) (r : Hd) : gLen [.ref 0] (hp c t a r) = .ok (.int c.length) (hp c t a r) := by
  simp [gLen, hp]
theorem cell_at (c : List Int) (t a i : Int) (r : Hd) (h0 : 0 ≤ i) (h1 : i < c.length) : gIx [.ref 0, .int i] (hp c t a r) = .ok (.int (c.getD i.toNat 0)) (hp c t a r) := by
  rw [gIx_at (xs := c.map D.int) rfl h0 (by simpa using h1)]
  congr 1
  have : i.toNat < c.length := by omega
  simp [this]
noncomputable def tkM : SS := (sIf (tB (eAp2 gLt (eVar 2) (eAp gLen (aCons (eAp2 gIx (eVar 0) (eC (.int 0))) aNil)))) (sAsg (eAp2 gIx (eAp2 gIx (eVar 0) (eC (.int 0))) (eVar 2)) (gVar 3)) (sIf (tB (eAp2 gGt (eAp gLen (aCons (eAp2 gIx (eVar 0) (eC (.int 0))) aNil)) (eC (.int 0)))) (sAsg (eAp2 gMod (eAp2 gIx (eAp2 gIx (eVar 0) (eC (.int 0))) (eAp2 gMod (eAp2 gAdd (eAp2 gMul (eVar 2) (eC (.int 5))) (eC (.int 3))) (eAp gLen (aCons (eAp2 gIx (eVar 0) (eC (.int 0))) aNil)))) (eAp2 gAdd (eAp2 gPow (eC (.int 10)) (eC (.int 17))) (eVar 2))) (gVar 3)) sNop))
def tkT : SS := (sSeq (sAsg (eAp2 gMod (eAp2 gIx (eVar 0) (eC (.int 2))) (eVar 1)) (gVar 4))
  (sSeq (sAsg (eAp2 gFdv (eAp2 gIx (eVar 0) (eC (.int 2))) (eVar 1)) (gSub (eVar 0) (eC (.int 2)) gSet))
  (sRet (eVar 4))))
theorem take_def : f_law_take = fn 2 5 (sSeq (sIf (tB (eAp2 gLt (eAp2 gIx (eVar 0) (eC (.int 2))) (eVar 1))) (sSeq (sAsg (eAp2 gIx (eVar 0) (eC (.int 1))) (gVar 2))
  (sSeq (sAsg (eC (.int 0)) (gVar 3)) (sSeq tkM
  (sSeq (sAsg (eAp2 gAdd (eVar 2) (eC (.int 1))) (gSub (eVar 0) (eC (.int 1)) gSet))
  (sAsg (eAp f_law_spread (aCons (eVar 3) (aCons (eVar 2) aNil))) (gSub (eVar 0) (eC (.int 2)) gSet)))))) sNop) tkT) := rfl
/-- one drawn number -/
theorem take_eq (c : List Int) (t a m : Int) (r : Hd) (h0 : 0 ≤ t) (h1 : t ≤ TM) (hm : 1 ≤ m) (hm2 : m ≤ 10 ^ 40) :
    ∃ x t' a', f_law_take [.ref 1, .int m] (hp c t a r) = .ok (.int x) (hp c t' a' r) ∧ 0 ≤ x ∧ x < m ∧ t ≤ t' ∧ t' ≤ t + 1 := by
  have fl : ∀ (y : Int) (h : Hd), gFdv [.int y, .int m] h = .ok (.int (y.fdiv m)) h := fun y h => by
    unfold gFdv
    have hz : m ≠ 0 ∧ m.natAbs.log2 < 9000 := by
      refine ⟨by omega, Nat.lt_of_lt_of_le (m := 140) (log2_bd (by omega) (by decide)) (by decide)⟩
    simp only [hz, and_self, ne_eq, not_false_eq_true, if_true]
  have md : ∀ (y : Int) (h : Hd), gMod [.int y, .int m] h = .ok (.int (y.fmod m)) h := fun y h => gMod_ok (by omega) h
  have tail : ∀ (t' a' : Int) (u v : Option D), t ≤ t' → t' ≤ t + 1 → ∃ x t2 a2, (tkT [some (.ref 1), some (.int m), u, v, none] (hp c t' a' r)).bind (fun f h' => match f with
      | .rt d => fin (hp c t a r) d h'
      | .nx _ => fin (hp c t a r) .non h'
      | _ => .bad) = .ok (.int x) (hp c t2 a2 r) ∧ 0 ≤ x ∧ x < m ∧ t ≤ t2 ∧ t2 ≤ t + 1 := by
    intro t' a' u v l1 l2
    obtain ⟨f0, f1⟩ := fmod_lt (a := a') (b := m) (by omega)
    refine ⟨a'.fmod m, t', a'.fdiv m, ?_, f0, f1, l1, l2⟩
    unfold tkT
    simp only [fn, fnK, sNop, sSeq, sEx, sRet, sIf, sBrk, sCnt, sAsg, gVar, gAll, gTup, gSub, sAug, sAugS, sPar2, sPar3, eVar, eC, aNil, aCons, eAp, eAp1_eq, eAp2_eq, tB, tAnd, tOr, tNot, tTT, eT, eIf, eAnd, eOr, eNot, eCh, oNo, oP, eSl, eMtL, eTup_eq, eLst_eq, eLstR_eq, Res.bind_ok, Res.bind_bad, Res.bind_exc, List.map_cons, List.map_nil, List.length_cons, List.length_nil, List.replicate, List.cons_append, List.nil_append, List.getElem?_cons_zero, List.getElem?_cons_succ, List.set_cons_zero, List.set_cons_succ, if_true, if_false, Nat.reduceAdd, Nat.reduceSub, Nat.reduceEqDiff, reduceIte, Bool.false_eq_true, pen2, md, fl, pens2]
    exact fin_pen0 rfl
  rw [take_def]
  by_cases ha : a < m
  · have ha' : decide (a < m) = true := decide_eq_true ha
    obtain ⟨v, hv⟩ : ∃ cell : Int, ∀ (h : Hd) (u : Option D), h = hp c t a r → (tkM
        [some (.ref 1), some (.int m), some (.int t), some (.int 0), none] h) = .ok (.nx [some (.ref 1), some (.int m), some (.int t), some (.int cell), none]) h := by
      unfold TM at h1
      unfold tkM
      by_cases hl : t < c.length
      · refine ⟨c.getD t.toNat 0, fun h u e => ?_⟩
        subst e
        simp only [fn, fnK, sNop, sSeq, sEx, sRet, sIf, sBrk, sCnt, sAsg, gVar, gAll, gTup, gSub, sAug, sAugS, sPar2, sPar3, eVar, eC, aNil, aCons, eAp, eAp1_eq, eAp2_eq, tB, tAnd, tOr, tNot, tTT, eT, eIf, eAnd, eOr, eNot, eCh, oNo, oP, eSl, eMtL, eTup_eq, eLst_eq, eLstR_eq, Res.bind_ok, Res.bind_bad, Res.bind_exc, List.map_cons, List.map_nil, List.length_cons, List.length_nil, List.replicate, List.cons_append, List.nil_append, List.getElem?_cons_zero, List.getElem?_cons_succ, List.set_cons_zero, List.set_cons_succ, if_true, if_false, Nat.reduceAdd, Nat.reduceSub, Nat.reduceEqDiff, reduceIte, Bool.false_eq_true, pen0, cell_len, gLt, hl, decide_true, cell_at c t a t r h0 hl]
      · by_cases hz : 0 < (c.length : Int)
        · obtain ⟨f0, f1⟩ := fmod_lt (a := t * 5 + 3) (b := c.length) hz
          refine ⟨(c.getD ((t * 5 + 3).fmod c.length).toNat 0).fmod (10 ^ 17 + t), fun h u e => ?_⟩
          subst e
          have hl' : decide (t < (c.length : Int)) = false := decide_eq_false hl
          have e1 : gMul [.int t, .int 5] (hp c t a r) = _ := gMul_r (by decide) (by decide) _
          have e2 : gMod [.int (t * 5 + 3), .int c.length] (hp c t a r) = _ := gMod_ok (by omega) _
          have e3 : gPow [.int 10, .int 17] (hp c t a r) = .ok (.int (10 ^ 17)) _ := gPow10 17 (by decide) _
          have e4 : gMod [.int (c.getD ((t * 5 + 3).fmod c.length).toNat 0), .int (10 ^ 17 + t)] (hp c t a r) = _ := gMod_ok (by omega) _
          simp only [fn, fnK, sNop, sSeq, sEx, sRet, sIf, sBrk, sCnt, sAsg, gVar, gAll, gTup, gSub, sAug, sAugS, sPar2, sPar3, eVar, eC, aNil, aCons, eAp, eAp1_eq, eAp2_eq, tB, tAnd, tOr, tNot, tTT, eT, eIf, eAnd, eOr, eNot, eCh, oNo, oP, eSl, eMtL, eTup_eq, eLst_eq, eLstR_eq, Res.bind_ok, Res.bind_bad, Res.bind_exc, List.map_cons, List.map_nil, List.length_cons, List.length_nil, List.replicate, List.cons_append, List.nil_append, List.getElem?_cons_zero, List.getElem?_cons_succ, List.set_cons_zero, List.set_cons_succ, if_true, if_false, Nat.reduceAdd, Nat.reduceSub, Nat.reduceEqDiff, reduceIte, Bool.false_eq_true, pen0, cell_len, gLt, hl', gGt, hz, decide_true, e1, gAdd_ii, e2, cell_at c t a _ r f0 f1, e3, e4]
        · refine ⟨0, fun h u e => ?_⟩
          subst e
          have hl' : decide (t < (c.length : Int)) = false := decide_eq_false hl
          have hz' : decide (0 < (c.length : Int)) = false := decide_eq_false hz
          simp only [fn, fnK, sNop, sSeq, sEx, sRet, sIf, sBrk, sCnt, sAsg, gVar, gAll, gTup, gSub, sAug, sAugS, sPar2, sPar3, eVar, eC, aNil, aCons, eAp, eAp1_eq, eAp2_eq, tB, tAnd, tOr, tNot, tTT, eT, eIf, eAnd, eOr, eNot, eCh, oNo, oP, eSl, eMtL, eTup_eq, eLst_eq, eLstR_eq, Res.bind_ok, Res.bind_bad, Res.bind_exc, List.map_cons, List.map_nil, List.length_cons, List.length_nil, List.replicate, List.cons_append, List.nil_append, List.getElem?_cons_zero, List.getElem?_cons_succ, List.set_cons_zero, List.set_cons_succ, if_true, if_false, Nat.reduceAdd, Nat.reduceSub, Nat.reduceEqDiff, reduceIte, Bool.false_eq_true, pen0, cell_len, gLt, hl', gGt, hz']
    obtain ⟨w, hw⟩ := spread_eq v t h0 h1 (hp c (t + 1) a r)
    obtain ⟨x, t2, a2, e, b1, b2, b3, b4⟩ := tail (t + 1) w (some (.int t)) (some (.int v)) (by omega) (by omega)
    refine ⟨x, t2, a2, ?_, b1, b2, b3, b4⟩
    rw [← e]
    have hv' := hv (hp c t a r) none rfl
    simp only [fn, fnK, sNop, sSeq, sEx, sRet, sIf, sBrk, sCnt, sAsg, gVar, gAll, gTup, gSub, sAug, sAugS, sPar2, sPar3, eVar, eC, aNil, aCons, eAp, eAp1_eq, eAp2_eq, tB, tAnd, tOr, tNot, tTT, eT, eIf, eAnd, eOr, eNot, eCh, oNo, oP, eSl, eMtL, eTup_eq, eLst_eq, eLstR_eq, Res.bind_ok, Res.bind_bad, Res.bind_exc, List.map_cons, List.map_nil, List.length_cons, List.length_nil, List.replicate, List.cons_append, List.nil_append, List.getElem?_cons_zero, List.getElem?_cons_succ, List.set_cons_zero, List.set_cons_succ, if_true, if_false, Nat.reduceAdd, Nat.reduceSub, Nat.reduceEqDiff, reduceIte, Bool.false_eq_true, pen2, gLt, ha', pen1, hv', gAdd_ii, pens1, hw, pens2]
    try rfl
  · have ha' : decide (a < m) = false := decide_eq_false ha
    obtain ⟨x, t2, a2, e, b1, b2, b3, b4⟩ := tail t a none none (by omega) (by omega)
    refine ⟨x, t2, a2, ?_, b1, b2, b3, b4⟩
    rw [← e]
    simp only [fn, fnK, sNop, sSeq, sEx, sRet, sIf, sBrk, sCnt, sAsg, gVar, gAll, gTup, gSub, sAug, sAugS, sPar2, sPar3, eVar, eC, aNil, aCons, eAp, eAp1_eq, eAp2_eq, tB, tAnd, tOr, tNot, tTT, eT, eIf, eAnd, eOr, eNot, eCh, oNo, oP, eSl, eMtL, eTup_eq, eLst_eq, eLstR_eq, Res.bind_ok, Res.bind_bad, Res.bind_exc, List.map_cons, List.map_nil, List.length_cons, List.length_nil, List.replicate, List.cons_append, List.nil_append, List.getElem?_cons_zero, List.getElem?_cons_succ, List.set_cons_zero, List.set_cons_succ, if_true, if_false, Nat.reduceAdd, Nat.reduceSub, Nat.reduceEqDiff, reduceIte, Bool.false_eq_true, pen2, gLt, ha']
    try rfl
/-- what a drawing leaves: at most k cells more -/
def Drew (g : EF) (ds : List D) (d : D) (c : List Int) (t a : Int) (r : Hd) (k : Int) : Prop := ∃ t' a', g ds (hp c t a r) = .ok d (hp c t' a' r) ∧ t ≤ t' ∧ t' ≤ t + k
/-- each within the bound -/
def Bd (b : Int) (xs : List Int) : Prop := ∀ x ∈ xs, -b ≤ x ∧ x ≤ b
theorem Bd.at {b : Int} {xs : List Int} (h : Bd b xs) (hb : 0 ≤ b) (i : Nat) : -b ≤ xs.getD i 0 ∧ xs.getD i 0 ≤ b := by
  by_cases hi : i < xs.length
  · exact h _ (getD_mem hi)
  · have : xs.getD i 0 = 0 := by simp [Nat.le_of_not_lt hi]
    rw [this]; omega
theorem rng_nat (n : Nat) : rngItems 0 (n : Int).toNat = (List.range n).map fun (i : Nat) => D.int (i : Int) := by
  unfold rngItems
  simp
theorem lcF_inv2 {g : EG} {ct : ET} {e : EE} {chk : List (Nat × List D)} {σ : Sg} {α : Type} (k : α → D) (I : List α → List D → Hd → Prop) (xs : List α) (hchk : ∀ done acc h, I done acc h → okChk chk h)
    (H : ∀ done x rest acc h, xs = done ++ x :: rest → I done acc h → ∃ σ1 y h', g (k x) σ h = .ok σ1 h ∧ ct σ1 h = .ok true h ∧ e σ1 h = .ok y h' ∧ I (done ++ [x]) (acc ++ [y]) h') :
    ∀ (rest done : List α) (acc : List D) (h : Hd), xs = done ++ rest → I done acc h → ∃ ys h', lcF g ct (lcOne e) chk σ (rest.map k) h = .ok ys h' ∧ I xs (acc ++ ys) h'
  | [], done, acc, h, ed, i => by
    rw [List.append_nil] at ed
    subst ed
    exact ⟨[], h, by rw [List.map_nil]; unfold lcF; rw [if_pos (hchk _ _ _ i)], by rw [List.append_nil]; exact i⟩
  | x :: rest, done, acc, h, ed, i => by
    obtain ⟨σ1, y, h1, e1, e2, e3, i2⟩ := H done x rest acc h ed i
    obtain ⟨ys, h', e4, i3⟩ := lcF_inv2 k I xs hchk H rest (done ++ [x]) (acc ++ [y]) h1 (by rw [ed]; simp) i2
    refine ⟨y :: ys, h', ?_, by rw [List.append_assoc] at i3; exact i3⟩
    rw [List.map_cons]
    unfold lcF
    rw [if_pos (hchk _ _ _ i), e1]
    simp only [Res.bind_ok, e2, if_true, lcOne, e3, e4]
    rfl
theorem lcF_go {g : EG} {ct : ET} {e : EE} {chk : List (Nat × List D)} {σ : Sg} {α : Type} (k : α → D) (I : List α → List D → Hd → Prop) (xs : List α) (hchk : ∀ done acc h, I done acc h → okChk chk h)
    (H : ∀ done x rest acc h, xs = done ++ x :: rest → I done acc h → ∃ σ1 y h', g (k x) σ h = .ok σ1 h ∧ ct σ1 h = .ok true h ∧ e σ1 h = .ok y h' ∧ I (done ++ [x]) (acc ++ [y]) h') {h : Hd} (i : I [] [] h) :
    ∃ ys h', lcF g ct (lcOne e) chk σ (xs.map k) h = .ok ys h' ∧ I xs ys h' := by
  obtain ⟨ys, h', e, i⟩ := lcF_inv2 (g := g) (ct := ct) (e := e) (chk := chk) (σ := σ) k I xs hchk H xs [] [] h rfl i
  exact ⟨ys, h', e, i⟩
theorem len_lt {α : Type} {xs done rest : List α} {x : α} (e : xs = done ++ x :: rest) : done.length < xs.length := by
  rw [e]; simp
/-- an order of n places -/
def IsOrd (n : Nat) (o : List Int) : Prop := o.Perm ((List.range n).map fun (i : Nat) => (i : Int))
theorem hp_len (c : List Int) (t a : Int) (r : Hd) : (hp c t a r).length = r.length + 2 := rfl
theorem hp_get (c : List Int) (t a : Int) (r s : Hd) (o : Ob) : (hp c t a (r ++ o :: s))[r.length + 2]? = some o := by simp [hp]
theorem hp_set (c : List Int) (t a : Int) (r s : Hd) (o o' : Ob) : (hp c t a (r ++ o :: s)).set (r.length + 2) o' = hp c t a (r ++ o' :: s) := by simp [hp]
theorem order_eq (c : List Int) (t a : Int) (r : Hd) (n : Nat) (hn : n ≤ 1000) (h0 : 0 ≤ t) (h1 : t + 10000 ≤ TM) : ∃ o : List Int, Drew f_law_any_order [.ref 1, .int n] (.lst (o.map D.int)) c t a r n ∧ IsOrd n o := by
  have hb : -BIG ≤ (n : Int) ∧ (n : Int) ≤ BIG := by unfold BIG; omega
  obtain ⟨σ', h', e1, o, t', a', u, eσ, eh, b1, b2, b3⟩ := forF_inv0 (g := gVar 3) (body := sEx (eMtL mInsert (eVar 2) (aCons (eAp f_law_take (aCons (eVar 0) (aCons (eAp2 gAdd (eVar 3) (eC (.int 1))) aNil))) (aCons (eVar 3) aNil)))) (chk := []) (fun (i : Nat) => D.int (i : Int))
    (fun done σ h => ∃ (o : List Int) (t' a' : Int) (u : Option D), σ = [some (.ref 1), some (.int n), some (.ref (r.length + 2)), u] ∧ h = hp c t' a' (r ++ .lst (o.map D.int) :: []) ∧ t ≤ t' ∧ t' ≤ t + done.length ∧ o.Perm (done.map fun (i : Nat) => (i : Int))) (List.range n) (fun _ _ _ _ => okChk_nil _)
    (fun done i rest σ h ed hI => by
      obtain ⟨o, t', a', u, rfl, rfl, b1, b2, b3⟩ := hI
      have hd := len_lt ed
      rw [List.length_range] at hd
      have hi := (range_split ed).2
      have ho : o.length = done.length := by have := b3.length_eq; simpa using this
      have hdl : done.length = i := by rw [(range_split ed).1]; simp
      obtain ⟨x, t2, a2, e2, x0, x1, c1, c2⟩ := take_eq c t' a' ((i : Int) + 1) (r ++ .lst (o.map D.int) :: []) (by omega) (by unfold TM at *; omega) (by omega) (by omega)
      have hl : (o.map D.int).length < LIM := by rw [List.length_map]; unfold LIM; omega
      have hx : (0 : Int) ≤ x ∧ x ≤ BIG := by unfold BIG; omega
      refine ⟨_, _, _, hp c t2 a2 (r ++ .lst ((o.take x.toNat ++ [(i : Int)] ++ o.drop x.toNat).map D.int) :: []), rfl, .inl ?_, _, t2, a2, some (.int (i : Int)), rfl, rfl, by omega, by simp; omega, ?_⟩
      · simp only [fn, fnK, sNop, sSeq, sEx, sRet, sIf, sBrk, sCnt, sAsg, gVar, gAll, gTup, gSub, sAug, sAugS, sPar2, sPar3, eVar, eC, aNil, aCons, eAp, eAp1_eq, eAp2_eq, tB, tAnd, tOr, tNot, tTT, eT, eIf, eAnd, eOr, eNot, eCh, oNo, oP, eSl, eMtL, eTup_eq, eLst_eq, eLstR_eq, Res.bind_ok, Res.bind_bad, Res.bind_exc, List.map_cons, List.map_nil, List.length_cons, List.length_nil, List.replicate, List.cons_append, List.nil_append, List.getElem?_cons_zero, List.getElem?_cons_succ, List.set_cons_zero, List.set_cons_succ, if_true, if_false, Nat.reduceAdd, Nat.reduceSub, Nat.reduceEqDiff, reduceIte, Bool.false_eq_true, lstOf, hp_get, Option.isSome_some, gAdd_ii, e2, mInsert, hl, hx, and_self, hp_set]
        simp
      · rw [List.map_append, List.map_cons, List.map_nil]
        have p1 : (o.take x.toNat ++ [(i : Int)] ++ o.drop x.toNat).Perm (o.take x.toNat ++ o.drop x.toNat ++ [(i : Int)]) := by
          rw [List.append_assoc, List.append_assoc]
          exact List.Perm.append_left _ List.perm_append_comm
        rw [List.take_append_drop] at p1
        exact p1.trans (b3.append_right _))
    (σ := [some (.ref 1), some (.int n), some (.ref (r.length + 2)), none]) (h := hp c t a (r ++ .lst [] :: [])) ⟨[], t, a, none, rfl, rfl, by omega, by simp, .refl _⟩
  subst eσ; subst eh
  rw [List.length_range] at b2
  refine ⟨o, ⟨t', a', ?_, b1, b2⟩, b3⟩
  unfold f_law_any_order
  have e0 : hp c t a r ++ [Ob.lst []] = hp c t a (r ++ .lst [] :: []) := rfl
  simp only [fn, fnK, sNop, sSeq, sEx, sRet, sIf, sBrk, sCnt, sAsg, gVar, gAll, gTup, gSub, sAug, sAugS, sPar2, sPar3, eVar, eC, aNil, aCons, eAp, eAp1_eq, eAp2_eq, tB, tAnd, tOr, tNot, tTT, eT, eIf, eAnd, eOr, eNot, eCh, oNo, oP, eSl, eMtL, eTup_eq, eLst_eq, eLstR_eq, Res.bind_ok, Res.bind_bad, Res.bind_exc, List.map_cons, List.map_nil, List.length_cons, List.length_nil, List.replicate, List.cons_append, List.nil_append, List.getElem?_cons_zero, List.getElem?_cons_succ, List.set_cons_zero, List.set_cons_succ, if_true, if_false, Nat.reduceAdd, Nat.reduceSub, Nat.reduceEqDiff, reduceIte, Bool.false_eq_true, Nat.zero_le, hp_len, e0, sFor, iRg1, hb, and_self, rng_nat, e1]
  exact fin_penL (ints_noRef _ _)
end BR

namespace BR
open PySem
def Sh (n : Nat) (M : List (List Int)) : Prop := M.length = n ∧ ∀ r ∈ M, r.length = n
def inc (M : List (List Int)) (a b : Nat) : List (List Int) := M.set a ((M.getD a []).set b (ent M a b + 1))
theorem Sh.inc {n : Nat} {M : List (List Int)} (s : Sh n M) {a b : Nat} (ha : a < n) : Sh n (inc M a b) := by
  refine ⟨by unfold BR.inc; rw [List.length_set]; exact s.1, fun r hr => ?_⟩
  unfold BR.inc at hr
  rcases List.mem_or_eq_of_mem_set hr with hr | rfl
  · exact s.2 r hr
  · rw [List.length_set]
    exact s.2 _ (getD_mem (by rw [s.1]; exact ha))
theorem ent_inc {n : Nat} {M : List (List Int)} (s : Sh n M) {a b : Nat} (ha : a < n) (hb : b < n) (i j : Nat) : ent (inc M a b) i j = if i = a ∧ j = b then ent M a b + 1 else ent M i j := by
  have hal : a < M.length := by rw [s.1]; exact ha
  have hrl : (M.getD a []).length = n := s.2 _ (getD_mem hal)
  unfold inc
  by_cases hi : i = a
  · subst hi
    have e1 : (M.set i ((M.getD i []).set b (ent M i b + 1))).getD i [] = (M.getD i []).set b (ent M i b + 1) := by simp [hal]
    unfold ent at *
    rw [e1]
    by_cases hj : j = b
    · subst hj
      rw [if_pos ⟨rfl, rfl⟩]
      rw [List.getD_eq_getElem?_getD, List.getElem?_set_self (by rw [hrl]; exact hb)]; rfl
    · rw [if_neg (fun z => hj z.2)]
      rw [List.getD_eq_getElem?_getD, List.getElem?_set_ne (fun z => hj z.symm), ← List.getD_eq_getElem?_getD]
  · rw [if_neg (fun z => hi z.1)]
    unfold ent
    have : (M.set a ((M.getD a []).set b ((M.getD a []).getD b 0 + 1))).getD i [] = M.getD i [] := by
      rw [List.getD_eq_getElem?_getD, List.getElem?_set_ne (fun z => hi z.symm), ← List.getD_eq_getElem?_getD]
    rw [this]
theorem sum_set : ∀ (l : List Int) (i : Nat) (x : Int), i < l.length → (l.set i x).sum = l.sum - l.getD i 0 + x
  | [], _, _, h => by simp at h
  | y :: l, 0, x, _ => by simp; omega
  | y :: l, i + 1, x, h => by
    have := sum_set l i x (by simpa using h)
    simp only [List.set_cons_succ, List.sum_cons, this, List.getD_cons_succ]
    omega
theorem sum_inc {n : Nat} {M : List (List Int)} (s : Sh n M) {a b : Nat} (ha : a < n) (hb : b < n) : ((inc M a b).map List.sum).sum = (M.map List.sum).sum + 1 := by
  have hal : a < M.length := by rw [s.1]; exact ha
  have hrl : (M.getD a []).length = n := s.2 _ (getD_mem hal)
  unfold inc
  rw [List.map_set, sum_set _ _ _ (by simpa using hal), sum_set _ _ _ (by rw [hrl]; exact hb)]
  have : (M.map List.sum).getD a 0 = (M.getD a []).sum := by simp [hal]
  rw [this]
  unfold ent
  omega
/-- what a web in the making keeps -/
structure Mk (n : Nat) (o : Nat → Nat) (E : List (Nat × Nat)) (M : List (List Int)) : Prop where
  sh : Sh n M
  sym : ∀ i j, i < n → j < n → ent M i j = ent M j i
  nul : ∀ i, i < n → ent M i i = 0
  pos : ∀ i j, i < n → j < n → 0 ≤ ent M i j
  sum : (M.map List.sum).sum = 2 * E.length
  edg : ∀ p ∈ E, 0 < ent M (o p.1) (o p.2)
theorem Mk.step {n : Nat} {o : Nat → Nat} {E : List (Nat × Nat)} {M : List (List Int)} (k : Mk n o E M) {u v : Nat} (hu : o u < n) (hv : o v < n) (ne : o u ≠ o v) (hE : ∀ p ∈ E, o p.1 < n ∧ o p.2 < n) : Mk n o (E ++ [(u, v)]) (inc (inc M (o u) (o v)) (o v) (o u)) := by
  have s1 := k.sh.inc (b := o v) hu
  have e : ∀ i j, ent (inc (inc M (o u) (o v)) (o v) (o u)) i j = if (i = o v ∧ j = o u) ∨ (i = o u ∧ j = o v) then ent M i j + 1 else ent M i j := fun i j => by
    rw [ent_inc s1 hv hu, ent_inc k.sh hu hv, ent_inc k.sh hu hv]
    by_cases h1 : i = o v ∧ j = o u
    · obtain ⟨e1, e2⟩ := h1
      subst e1; subst e2
      simp [ne, ne.symm]
    · rw [if_neg h1]
      by_cases h2 : i = o u ∧ j = o v
      · obtain ⟨e1, e2⟩ := h2
        subst e1; subst e2
        simp
      · rw [if_neg h2, if_neg (fun z => z.elim h1 h2)]
  refine ⟨s1.inc hv, fun i j hi hj => ?_, fun i hi => ?_, fun i j hi hj => ?_, ?_, fun p hp => ?_⟩
  · rw [e, e, k.sym i j hi hj]
    by_cases h : (i = o v ∧ j = o u) ∨ (i = o u ∧ j = o v)
    · rw [if_pos h, if_pos (h.elim (fun z => .inr ⟨z.2, z.1⟩) fun z => .inl ⟨z.2, z.1⟩)]
    · rw [if_neg h, if_neg (fun z => h (z.elim (fun z => .inr ⟨z.2, z.1⟩) fun z => .inl ⟨z.2, z.1⟩))]
  · rw [e, if_neg (fun z => z.elim (fun z => ne (z.2.symm.trans z.1)) fun z => ne (z.1.symm.trans z.2))]
    exact k.nul i hi
  · rw [e]
    have := k.pos i j hi hj
    split <;> omega
  · rw [sum_inc s1 hv hu, sum_inc k.sh hu hv, k.sum, List.length_append]
    simp
    omega
  · rw [e]
    rcases List.mem_append.mp hp with hp | hp
    · have := k.edg p hp
      split <;> omega
    · have : p = (u, v) := by simpa using hp
      subst this
      have := k.pos (o u) (o v) hu hv
      rw [if_pos (.inr ⟨rfl, rfl⟩)]
      show 0 < ent M (o u) (o v) + 1
      omega
theorem rep_sum : ∀ n : Nat, (List.replicate n (0 : Int)).sum = 0
  | 0 => rfl
  | n + 1 => by rw [List.replicate_succ, List.sum_cons, rep_sum n]; rfl
theorem Mk.start (n : Nat) (o : Nat → Nat) : Mk n o [] ((List.range n).map fun _ => List.replicate n 0) := by
  have e : ∀ i j, ent ((List.range n).map fun _ => List.replicate n (0 : Int)) i j = 0 := fun i j => by
    unfold ent
    by_cases hi : i < n
    · simp only [List.getD_eq_getElem?_getD, List.getElem?_map, List.getElem?_range hi, Option.map_some, Option.getD_some, List.getElem?_replicate]
      split <;> rfl
    · have : ((List.range n).map fun _ => List.replicate n (0 : Int)).getD i [] = [] := by simp [Nat.le_of_not_lt hi]
      rw [this]; rfl
  refine ⟨⟨by simp, fun r hr => ?_⟩, fun i j _ _ => by rw [e, e], fun i _ => e i i, fun i j _ _ => by rw [e]; exact Int.le_refl _, ?_, fun p hp => by simp at hp⟩
  · obtain ⟨_, _, rfl⟩ := List.mem_map.mp hr
    simp
  · rw [List.map_map]
    have : ((List.range n).map (List.sum ∘ fun _ => List.replicate n (0 : Int))) = (List.range n).map fun _ => (0 : Int) := by
      apply List.map_congr_left
      intro i _
      exact rep_sum n
    rw [this]
    show sm n (fun _ => 0) = _
    rw [sm_nil]; rfl
/-- all its ties laid, it is a web -/
theorem Mk.web {n : Nat} {o : Nat → Nat} {E : List (Nat × Nat)} {M : List (List Int)} (k : Mk n o E M) (h1 : 1 ≤ n) (h2 : n ≤ 10) (hE : E.length ≤ 12) (ho : ∀ w, w < n → ∃ u, u < n ∧ o u = w) (hlt : ∀ u, u < n → o u < n)
    (ht : ∀ v, v < n → 0 < v → ∃ x, x < v ∧ (x, v) ∈ E) : IsWeb M := by
  have hl := k.sh.1
  refine ⟨by omega, by omega, fun r hr => ⟨by rw [hl]; exact k.sh.2 r hr, fun x hx => ?_⟩, fun u v hu hv => k.sym u v (hl ▸ hu) (hl ▸ hv), fun u hu => k.nul u (hl ▸ hu), by rw [k.sum]; omega, fun S s0 cl v hv => ?_⟩
  · obtain ⟨i, hi, rfl⟩ := List.getElem_of_mem hr
    obtain ⟨j, hj, rfl⟩ := List.getElem_of_mem hx
    have := k.pos i j (hl ▸ hi) (by rw [← k.sh.2 _ hr]; exact hj)
    unfold ent at this
    simpa [hi, hj] using this
  · have same : ∀ v, v < n → (S (o v) ↔ S (o 0)) := by
      intro v
      induction v using Nat.strongRecOn with
      | ind v ih =>
        intro hv
        by_cases hz : v = 0
        · subst hz; exact Iff.rfl
        · obtain ⟨x, hx, hm⟩ := ht v hv (by omega)
          have p := k.edg _ hm
          have q : 0 < ent M (o v) (o x) := by rw [k.sym (o v) (o x) (hlt v hv) (hlt x (by omega))]; exact p
          have i := ih x hx (by omega)
          exact ⟨fun z => i.mp (cl (o v) (o x) (by rw [hl]; exact hlt v hv) (by rw [hl]; exact hlt x (by omega)) z q), fun z => cl (o x) (o v) (by rw [hl]; exact hlt x (by omega)) (by rw [hl]; exact hlt v hv) (i.mpr z) p⟩
    obtain ⟨u0, hu0, e0⟩ := ho 0 (by omega)
    obtain ⟨u1, hu1, e1⟩ := ho v (hl ▸ hv)
    rw [← e1]
    exact (same u1 hu1).mpr ((same u0 hu0).mp (e0 ▸ s0))
end BR

namespace BR
open PySem
theorem gIx_lst {xs : List D} {i : Nat} (hi : i < xs.length) (h : Hd) : gIx [.lst xs, .int (i : Int)] h = .ok xs[i] h := by
  unfold gIx
  simp only [seqOf, atI_nat hi]
theorem gIx_ints {xs : List Int} {i : Nat} (hi : i < xs.length) (h : Hd) : gIx [.lst (xs.map D.int), .int (i : Int)] h = .ok (.int (xs.getD i 0)) h := by
  rw [gIx_lst (by simpa using hi)]
  simp [hi]
def oF (ord : List Int) (u : Nat) : Nat := (ord.getD u 0).toNat
theorem IsOrd.len {n : Nat} {o : List Int} (h : IsOrd n o) : o.length = n := by have := h.length_eq; simpa using this
theorem IsOrd.at {n : Nat} {o : List Int} (h : IsOrd n o) {u : Nat} (hu : u < n) : o.getD u 0 = (oF o u : Int) ∧ oF o u < n := by
  have hm : o.getD u 0 ∈ o := getD_mem (by rw [h.len]; exact hu)
  obtain ⟨i, hi, e⟩ := List.mem_map.mp (h.mem_iff.mp hm)
  have hi := List.mem_range.mp hi
  unfold oF
  rw [← e]
  exact ⟨by simp, by simpa using hi⟩
theorem IsOrd.nd {n : Nat} {o : List Int} (h : IsOrd n o) : o.Nodup := by
  refine h.nodup_iff.mpr ?_
  rw [List.Nodup, List.pairwise_map]
  exact List.Pairwise.imp (fun {a b} hab e => hab (by omega)) (List.nodup_range (n := n))
theorem IsOrd.inj {n : Nat} {o : List Int} (h : IsOrd n o) {u v : Nat} (hu : u < n) (hv : v < n) (e : oF o u = oF o v) : u = v := by
  have e1 : o.getD u 0 = o.getD v 0 := by rw [(h.at hu).1, (h.at hv).1, e]
  have hu' : u < o.length := by rw [h.len]; exact hu
  have hv' : v < o.length := by rw [h.len]; exact hv
  simp only [List.getD_eq_getElem?_getD, List.getElem?_eq_getElem hu', List.getElem?_eq_getElem hv', Option.getD_some] at e1
  exact (List.getElem_inj h.nd).mp e1
theorem IsOrd.surj {n : Nat} {o : List Int} (h : IsOrd n o) {w : Nat} (hw : w < n) : ∃ u, u < n ∧ oF o u = w := by
  have hm : (w : Int) ∈ o := h.mem_iff.mpr (List.mem_map.mpr ⟨w, List.mem_range.mpr hw, rfl⟩)
  obtain ⟨u, hu, e⟩ := List.getElem_of_mem hm
  have hu' : u < n := by rw [← h.len]; exact hu
  refine ⟨u, hu', ?_⟩
  unfold oF
  simp [hu, e]
def pD (p : Nat × Nat) : D := .tup [.int (p.1 : Int), .int (p.2 : Int)]
def rO (M : List (List Int)) : Hd := M.map fun r => .lst (r.map D.int)
def rfs (L n : Nat) : List D := (List.range n).map fun i => .ref (L + i)
theorem row_get (c : List Int) (t a : Int) (r : Hd) (e : Ob) (M : List (List Int)) {i : Nat} (hi : i < M.length) : (hp c t a (r ++ e :: rO M))[r.length + 3 + i]? = some (.lst ((M.getD i []).map D.int)) := by
  have : (hp c t a (r ++ e :: rO M))[r.length + 3 + i]? = (r ++ e :: rO M)[r.length + 1 + i]? := by
    have : r.length + 3 + i = (r.length + 1 + i) + 1 + 1 := by omega
    rw [this]; rfl
  rw [this, List.getElem?_append_right (by omega)]
  have : r.length + 1 + i - r.length = i + 1 := by omega
  rw [this, List.getElem?_cons_succ]
  unfold rO
  simp [hi]
theorem row_set (c : List Int) (t a : Int) (r : Hd) (e : Ob) (M : List (List Int)) (i : Nat) (x : List Int) : (hp c t a (r ++ e :: rO M)).set (r.length + 3 + i) (.lst (x.map D.int)) = hp c t a (r ++ e :: rO (M.set i x)) := by
  have : r.length + 3 + i = (r.length + 1 + i) + 1 + 1 := by omega
  rw [this]
  show Ob.lst _ :: Ob.lst _ :: (r ++ e :: rO M).set (r.length + 1 + i) _ = hp c t a _
  rw [List.set_append, if_neg (by omega)]
  have : r.length + 1 + i - r.length = i + 1 := by omega
  rw [this, List.set_cons_succ]
  unfold rO
  rw [List.map_set]
  rfl
theorem aug_eq (c : List Int) (t a : Int) (r : Hd) (e : Ob) {n : Nat} {M : List (List Int)} (s : Sh n M) {ord : List Int} (ho : IsOrd n ord) {u v : Nat} (hu : u < n) (hv : v < n) {σ : Sg} {p q : Nat}
    (h8 : σ[8]? = some (some (.lst (rfs (r.length + 3) n)))) (h7 : σ[7]? = some (some (.lst (ord.map D.int)))) (hp' : σ[p]? = some (some (.int (u : Int)))) (hq : σ[q]? = some (some (.int (v : Int)))) :
    sAugS (eAp2 gIx (eVar 8) (eAp2 gIx (eVar 7) (eVar p))) (eAp2 gIx (eVar 7) (eVar q)) (eC (.int 1)) gIx gIadd gSet σ (hp c t a (r ++ e :: rO M)) = .ok (.nx σ) (hp c t a (r ++ e :: rO (inc M (oF ord u) (oF ord v)))) := by
  obtain ⟨u1, u2⟩ := ho.at hu
  obtain ⟨v1, v2⟩ := ho.at hv
  have hl := ho.len
  have g1 : ∀ h, gIx [.lst (ord.map D.int), .int (u : Int)] h = .ok (.int (oF ord u : Int)) h := fun h => by rw [gIx_ints (by rw [hl]; exact hu), u1]
  have g2 : ∀ h, gIx [.lst (ord.map D.int), .int (v : Int)] h = .ok (.int (oF ord v : Int)) h := fun h => by rw [gIx_ints (by rw [hl]; exact hv), v1]
  have g3 : ∀ h, gIx [.lst (rfs (r.length + 3) n), .int (oF ord u : Int)] h = .ok (.ref (r.length + 3 + oF ord u)) h := fun h => by
    rw [gIx_lst (by unfold rfs; simpa using u2)]
    unfold rfs
    simp
  have hM : oF ord u < M.length := by rw [s.1]; exact u2
  have hrow : (M.getD (oF ord u) []).length = n := s.2 _ (getD_mem hM)
  have g4 := row_get c t a r e M hM
  have g5 : gIx [.ref (r.length + 3 + oF ord u), .int (oF ord v : Int)] (hp c t a (r ++ e :: rO M)) = .ok (.int (ent M (oF ord u) (oF ord v))) (hp c t a (r ++ e :: rO M)) := by
    unfold gIx
    simp only [seqOf, g4]
    rw [atI_nat (by rw [List.length_map, hrow]; exact v2)]
    simp only [List.getElem_map]
    unfold ent
    have : oF ord v < (M.getD (oF ord u) []).length := by rw [hrow]; exact v2
    rw [List.getD_eq_getElem?_getD (l := M.getD (oF ord u) []), List.getElem?_eq_getElem this]
    rfl
  have g6 : gSet [.ref (r.length + 3 + oF ord u), .int (oF ord v : Int), .int (ent M (oF ord u) (oF ord v) + 1)] (hp c t a (r ++ e :: rO M)) = .ok .non (hp c t a (r ++ e :: rO (inc M (oF ord u) (oF ord v)))) := by
    unfold gSet
    simp only [g4]
    rw [ixN_nat (by rw [List.length_map, hrow]; exact v2)]
    simp only [Res.ok.injEq, true_and]
    have : ((M.getD (oF ord u) []).map D.int).set (oF ord v) (.int (ent M (oF ord u) (oF ord v) + 1)) = ((M.getD (oF ord u) []).set (oF ord v) (ent M (oF ord u) (oF ord v) + 1)).map D.int := by rw [List.map_set]
    rw [this, row_set]
    rfl
  simp only [sAugS, eAp2_eq, eVar, h8, h7, hp', hq, eC, Res.bind_ok, g1, g2, g3, g5, gIadd, g6]
end BR

namespace BR
open PySem
theorem take_nat (c : List Int) (t a : Int) (r : Hd) (m : Nat) (h0 : 0 ≤ t) (h1 : t ≤ TM) (hm : 1 ≤ m) (hm2 : m ≤ 1000000) :
    ∃ (x : Nat) (t' a' : Int), f_law_take [.ref 1, .int (m : Int)] (hp c t a r) = .ok (.int (x : Int)) (hp c t' a' r) ∧ x < m ∧ t ≤ t' ∧ t' ≤ t + 1 := by
  obtain ⟨x, t', a', e, x0, x1, b1, b2⟩ := take_eq c t a m r h0 h1 (by omega) (by omega)
  refine ⟨x.toNat, t', a', ?_, by omega, b1, b2⟩
  have : ((x.toNat : Nat) : Int) = x := by omega
  rw [this, e]
theorem pD_noRef (n : Nat) (E : List (Nat × Nat)) : (E.map pD).all (noRef n) = true := by
  rw [List.all_eq_true]
  intro x hx
  obtain ⟨p, _, rfl⟩ := List.mem_map.mp hx
  simp [pD, noRef, noRef.go]
/-- the pairs that are drawn -/
structure Prs (n : Nat) (E : List (Nat × Nat)) : Prop where
  ok : ∀ p ∈ E, p.1 < n ∧ p.2 < n ∧ p.1 ≠ p.2
  tr : ∀ v, v < n → 0 < v → ∃ x, x < v ∧ (x, v) ∈ E
theorem ends_eq (c : List Int) (t a : Int) (r : Hd) (n : Nat) (h1 : 1 ≤ n) (hn : n ≤ 1000) (h0 : 0 ≤ t) (ht : t + 10000 ≤ TM) (w1 w2 : Option D) (w4 w5 w6 w7 w8 w9 w10 : Option D) :
    ∃ E t' a', eLc true [9] (iRg2 (aCons (eC (.int 1)) (aCons (eVar 3) aNil))) (gVar 9) tTT (lcOne (eTup (aCons (eAp f_law_take (aCons (eVar 0) (aCons (eVar 9) aNil))) (aCons (eVar 9) aNil))))
      [some (.ref 1), w1, w2, some (.int (n : Int)), w4, w5, w6, w7, w8, w9, w10] (hp c t a r) = .ok (.ref (r.length + 2)) (hp c t' a' (r ++ .lst (E.map pD) :: [])) ∧ E.length = n - 1 ∧ Prs n E ∧ t ≤ t' ∧ t' ≤ t + n := by
  have hb : (-BIG ≤ (1 : Int) ∧ (1 : Int) ≤ BIG) ∧ -BIG ≤ (n : Int) ∧ (n : Int) ≤ BIG := by unfold BIG; omega
  have hr : rngItems 1 ((n : Int) - 1).toNat = (List.range (n - 1)).map fun (i : Nat) => D.int ((i + 1 : Nat) : Int) := by
    unfold rngItems
    have : ((n : Int) - 1).toNat = n - 1 := by omega
    rw [this]
    apply List.map_congr_left
    intro i _
    congr 1
    omega
  obtain ⟨ys, h', e1, E, t', a', ey, hl, eh, b1, b2, ok, tr⟩ := lcF_go (g := gVar 9) (ct := tTT) (e := eTup (aCons (eAp f_law_take (aCons (eVar 0) (aCons (eVar 9) aNil))) (aCons (eVar 9) aNil))) (chk := []) (σ := [some (.ref 1), w1, w2, some (.int (n : Int)), w4, w5, w6, w7, w8, none, w10]) (fun (i : Nat) => D.int ((i + 1 : Nat) : Int))
    (fun done acc h => ∃ (E : List (Nat × Nat)) (t' a' : Int), acc = E.map pD ∧ E.length = done.length ∧ h = hp c t' a' r ∧ t ≤ t' ∧ t' ≤ t + done.length ∧ (∀ p ∈ E, p.1 < n ∧ p.2 < n ∧ p.1 ≠ p.2) ∧ ∀ v, v < done.length + 1 → 0 < v → ∃ x, x < v ∧ (x, v) ∈ E)
    (List.range (n - 1)) (fun _ _ _ _ => okChk_nil _) (fun done i rest acc h ed hI => by
      obtain ⟨E, t', a', rfl, hl, rfl, b1, b2, ok, tr⟩ := hI
      have hd := len_lt ed
      rw [List.length_range] at hd
      obtain ⟨e3, hi⟩ := range_split ed
      have hdl : done.length = i := by rw [e3]; simp
      obtain ⟨x, t2, a2, e2, x1, c1, c2⟩ := take_nat c t' a' r (i + 1) (by omega) (by unfold TM at *; omega) (by omega) (by omega)
      have l2 : (2 : Nat) ≤ LIM := by decide
      refine ⟨_, pD (x, i + 1), hp c t2 a2 r, rfl, rfl, by simp only [fn, fnK, sNop, sSeq, sEx, sRet, sIf, sBrk, sCnt, sAsg, gVar, gAll, gTup, gSub, sAug, sAugS, sPar2, sPar3, eVar, eC, aNil, aCons, eAp, eAp1_eq, eAp2_eq, tB, tAnd, tOr, tNot, tTT, eT, eIf, eAnd, eOr, eNot, eCh, oNo, oP, eSl, eMtL, eTup_eq, eLst_eq, eLstR_eq, Res.bind_ok, Res.bind_bad, Res.bind_exc, List.map_cons, List.map_nil, List.length_cons, List.length_nil, List.replicate, List.cons_append, List.nil_append, List.getElem?_cons_zero, List.getElem?_cons_succ, List.set_cons_zero, List.set_cons_succ, if_true, if_false, Nat.reduceAdd, Nat.reduceSub, Nat.reduceEqDiff, reduceIte, Bool.false_eq_true, e2, l2, pD], E ++ [(x, i + 1)], t2, a2, by simp, by simp [hl], rfl, by omega, by simp; omega, ?_, ?_⟩
      · intro p hp
        rcases List.mem_append.mp hp with hp | hp
        · exact ok p hp
        · have : p = (x, i + 1) := by simpa using hp
          subst this
          exact ⟨by show x < n; omega, by show i + 1 < n; omega, by show x ≠ i + 1; omega⟩
      · intro v hv hz
        simp only [List.length_append, List.length_cons, List.length_nil] at hv
        by_cases hvi : v = i + 1
        · subst hvi
          exact ⟨x, by omega, by simp⟩
        · obtain ⟨y, hy, hm⟩ := tr v (by omega) hz
          exact ⟨y, hy, List.mem_append_left _ hm⟩) (h := hp c t a r) ⟨[], t, a, rfl, rfl, rfl, by omega, by simp, fun p hp => by simp at hp, fun v hv hz => by simp at hv; omega⟩
  rw [List.length_range] at hl b2 tr
  subst ey; subst eh
  refine ⟨E, t', a', ?_, hl, ⟨ok, fun v hv hz => tr v (by omega) hz⟩, b1, by omega⟩
  have hz : (E.map pD).length ≤ LIM := by rw [List.length_map]; unfold LIM; omega
  simp only [fn, fnK, sNop, sSeq, sEx, sRet, sIf, sBrk, sCnt, sAsg, gVar, gAll, gTup, gSub, sAug, sAugS, sPar2, sPar3, eVar, eC, aNil, aCons, eAp, eAp1_eq, eAp2_eq, tB, tAnd, tOr, tNot, tTT, eT, eIf, eAnd, eOr, eNot, eCh, oNo, oP, eSl, eMtL, eTup_eq, eLst_eq, eLstR_eq, Res.bind_ok, Res.bind_bad, Res.bind_exc, List.map_cons, List.map_nil, List.length_cons, List.length_nil, List.replicate, List.cons_append, List.nil_append, List.getElem?_cons_zero, List.getElem?_cons_succ, List.set_cons_zero, List.set_cons_succ, if_true, if_false, Nat.reduceAdd, Nat.reduceSub, Nat.reduceEqDiff, reduceIte, Bool.false_eq_true, eLc, lcIn, iRg2, hb, and_self, hr, wipe, e1, lcEnd, hz, hp_len]
  rfl
/-- the ties more -/
theorem more_eq (c : List Int) (t a : Int) (r : Hd) (n k : Nat) (hn : n ≤ 1000) (hk : k ≤ 1000) (hnk : k = 0 ∨ 2 ≤ n) (h0 : 0 ≤ t) (ht : t + 10000 ≤ TM) (E0 : List (Nat × Nat)) (p0 : Prs n E0) (hE0 : E0.length ≤ 1000) (w1 w2 : Option D) (w5 w6 w7 w8 w9 w10 : Option D) :
    ∃ σ' E t' a', forF (gVar 5) (sSeq (sAsg (eAp f_law_take (aCons (eVar 0) (aCons (eVar 3) aNil))) (gVar 6))
  (sEx (eMtL mAppend (eVar 4) (aCons (eTup (aCons (eVar 6) (aCons (eAp2 gMod (eAp2 gAdd (eAp2 gAdd (eVar 6) (eC (.int 1))) (eAp f_law_take (aCons (eVar 0) (aCons (eAp2 gSubt (eVar 3) (eC (.int 1))) aNil)))) (eVar 3)) aNil))) aNil)))) [] ((List.range k).map fun (i : Nat) => D.int (i : Int))
      [some (.ref 1), w1, w2, some (.int (n : Int)), some (.ref (r.length + 2)), w5, w6, w7, w8, w9, w10] (hp c t a (r ++ .lst (E0.map pD) :: [])) = .ok (.nx σ') (hp c t' a' (r ++ .lst (E.map pD) :: [])) ∧
      (∃ u5 u6, σ' = [some (.ref 1), w1, w2, some (.int (n : Int)), some (.ref (r.length + 2)), u5, u6, w7, w8, w9, w10]) ∧ E.length = E0.length + k ∧ Prs n E ∧ t ≤ t' ∧ t' ≤ t + 2 * k := by
  obtain ⟨σ', h', e1, E, t', a', u5, u6, eσ, eh, hl, pr, b1, b2⟩ := forF_inv0 (g := gVar 5) (body := sSeq (sAsg (eAp f_law_take (aCons (eVar 0) (aCons (eVar 3) aNil))) (gVar 6))
  (sEx (eMtL mAppend (eVar 4) (aCons (eTup (aCons (eVar 6) (aCons (eAp2 gMod (eAp2 gAdd (eAp2 gAdd (eVar 6) (eC (.int 1))) (eAp f_law_take (aCons (eVar 0) (aCons (eAp2 gSubt (eVar 3) (eC (.int 1))) aNil)))) (eVar 3)) aNil))) aNil)))) (chk := []) (fun (i : Nat) => D.int (i : Int))
    (fun done σ h => ∃ (E : List (Nat × Nat)) (t' a' : Int) (u5 u6 : Option D), σ = [some (.ref 1), w1, w2, some (.int (n : Int)), some (.ref (r.length + 2)), u5, u6, w7, w8, w9, w10] ∧ h = hp c t' a' (r ++ .lst (E.map pD) :: []) ∧ E.length = E0.length + done.length ∧ Prs n E ∧ t ≤ t' ∧ t' ≤ t + 2 * done.length)
    (List.range k) (fun _ _ _ _ => okChk_nil _) (fun done i rest σ h ed hI => by
      obtain ⟨E, t', a', u5, u6, rfl, rfl, hl, pr, b1, b2⟩ := hI
      have hd := len_lt ed
      rw [List.length_range] at hd
      have hn2 : 2 ≤ n := by omega
      obtain ⟨u, t2, a2, e2, x1, c1, c2⟩ := take_nat c t' a' (r ++ .lst (E.map pD) :: []) n (by omega) (by unfold TM at *; omega) (by omega) (by omega)
      obtain ⟨y, t3, a3, e3, y1, c3, c4⟩ := take_nat c t2 a2 (r ++ .lst (E.map pD) :: []) (n - 1) (by omega) (by unfold TM at *; omega) (by omega) (by omega)
      have en : ((n - 1 : Nat) : Int) = (n : Int) - 1 := by omega
      rw [en] at e3
      have l2 : (2 : Nat) ≤ LIM := by decide
      have hlim : (E.map pD).length < LIM := by rw [List.length_map]; unfold LIM; omega
      have md : ∀ (z : Int) (h : Hd), gMod [.int z, .int (n : Int)] h = .ok (.int (z.fmod n)) h := fun z h => gMod_ok (by omega) h
      have mz : ((u : Int) + 1 + y).fmod n = (((u + 1 + y) % n : Nat) : Int) := by
        rw [Int.fmod_eq_emod_of_nonneg _ (by omega)]
        push_cast
        rfl
      refine ⟨_, _, _, hp c t3 a3 (r ++ .lst ((E ++ [(u, (u + 1 + y) % n)]).map pD) :: []), rfl, .inl ?_, E ++ [(u, (u + 1 + y) % n)], t3, a3, some (.int (i : Int)), some (.int (u : Int)), rfl, rfl, by simp [hl]; omega, ⟨fun p hp => ?_, fun v hv hz => ?_⟩, by omega, by simp; omega⟩
      · simp only [fn, fnK, sNop, sSeq, sEx, sRet, sIf, sBrk, sCnt, sAsg, gVar, gAll, gTup, gSub, sAug, sAugS, sPar2, sPar3, eVar, eC, aNil, aCons, eAp, eAp1_eq, eAp2_eq, tB, tAnd, tOr, tNot, tTT, eT, eIf, eAnd, eOr, eNot, eCh, oNo, oP, eSl, eMtL, eTup_eq, eLst_eq, eLstR_eq, Res.bind_ok, Res.bind_bad, Res.bind_exc, List.map_cons, List.map_nil, List.length_cons, List.length_nil, List.replicate, List.cons_append, List.nil_append, List.getElem?_cons_zero, List.getElem?_cons_succ, List.set_cons_zero, List.set_cons_succ, if_true, if_false, Nat.reduceAdd, Nat.reduceSub, Nat.reduceEqDiff, reduceIte, Bool.false_eq_true, e2, lstOf, hp_get, Option.isSome_some, gAdd_ii, gSubt_ii, e3, md, l2, mAppend, hlim, hp_set, mz]
        simp [pD]
      · rcases List.mem_append.mp hp with hp | hp
        · exact pr.ok p hp
        · have : p = (u, (u + 1 + y) % n) := by simpa using hp
          subst this
          have hlt : (u + 1 + y) % n < n := Nat.mod_lt _ (by omega)
          refine ⟨x1, hlt, ?_⟩
          show u ≠ (u + 1 + y) % n
          by_cases hh : u + 1 + y < n
          · rw [Nat.mod_eq_of_lt hh]; omega
          · have : (u + 1 + y) % n = u + 1 + y - n := by
              rw [Nat.mod_eq_sub_mod (by omega), Nat.mod_eq_of_lt (by omega)]
            rw [this]; omega
      · obtain ⟨x, hx, hm⟩ := pr.tr v hv hz
        exact ⟨x, hx, List.mem_append_left _ hm⟩)
    (σ := [some (.ref 1), w1, w2, some (.int (n : Int)), some (.ref (r.length + 2)), w5, w6, w7, w8, w9, w10]) (h := hp c t a (r ++ .lst (E0.map pD) :: [])) ⟨E0, t, a, w5, w6, rfl, rfl, rfl, p0, by omega, by simp⟩
  subst eσ; subst eh
  rw [List.length_range] at hl b2
  exact ⟨_, E, t', a', e1, ⟨u5, u6, rfl⟩, hl, pr, b1, b2⟩
/-- the rows are laid -/
theorem rows_eq (c : List Int) (t a : Int) (r : Hd) (e : Ob) (n : Nat) (hn : n ≤ 1000) (w1 w2 w4 w5 w6 w7 w8 w9 w10 : Option D) :
    eLc false [6] (iRg1 (aCons (eVar 3) aNil)) (gVar 6) tTT (lcOne (eAp2 gRepR (eLst (aCons (eC (.int 0)) aNil)) (eVar 3))) [some (.ref 1), w1, w2, some (.int (n : Int)), w4, w5, w6, w7, w8, w9, w10] (hp c t a (r ++ e :: [])) =
      .ok (.lst (rfs (r.length + 3) n)) (hp c t a (r ++ e :: rO ((List.range n).map fun _ => List.replicate n 0))) := by
  have hb : -BIG ≤ (n : Int) ∧ (n : Int) ≤ BIG := by unfold BIG; omega
  obtain ⟨ys, h', e1, ey, eh⟩ := lcF_go (g := gVar 6) (ct := tTT) (e := eAp2 gRepR (eLst (aCons (eC (.int 0)) aNil)) (eVar 3)) (chk := []) (σ := [some (.ref 1), w1, w2, some (.int (n : Int)), w4, w5, none, w7, w8, w9, w10]) (fun (i : Nat) => D.int (i : Int))
    (fun done acc h => acc = rfs (r.length + 3) done.length ∧ h = hp c t a (r ++ e :: rO (done.map fun _ => List.replicate n 0))) (List.range n) (fun _ _ _ _ => okChk_nil _)
    (fun done i rest acc h ed hI => by
      obtain ⟨rfl, rfl⟩ := hI
      have hd := len_lt ed
      rw [List.length_range] at hd
      have l1 : (1 : Nat) ≤ LIM := by decide
      have hz : (n : Int) ≤ BIG ∧ -BIG ≤ (n : Int) ∧ (1 : Nat) * (n : Int).toNat ≤ LIM := by unfold BIG LIM; omega
      have hz2 : (List.replicate (n : Int).toNat [D.int 0]).flatten.length ≤ LIM := by simp; unfold LIM; omega
      have ef : (List.replicate (n : Int).toNat [D.int 0]).flatten = (List.replicate n (0 : Int)).map D.int := by simp
      have hlen : (hp c t a (r ++ e :: rO (done.map fun _ => List.replicate n 0))).length = r.length + 3 + done.length := by
        rw [hp_len]
        simp [rO]
        omega
      refine ⟨_, .ref (r.length + 3 + done.length), hp c t a (r ++ e :: rO ((done ++ [i]).map fun _ => List.replicate n 0)), rfl, rfl, ?_, ?_, rfl⟩
      · simp only [fn, fnK, sNop, sSeq, sEx, sRet, sIf, sBrk, sCnt, sAsg, gVar, gAll, gTup, gSub, sAug, sAugS, sPar2, sPar3, eVar, eC, aNil, aCons, eAp, eAp1_eq, eAp2_eq, tB, tAnd, tOr, tNot, tTT, eT, eIf, eAnd, eOr, eNot, eCh, oNo, oP, eSl, eMtL, eTup_eq, eLst_eq, eLstR_eq, Res.bind_ok, Res.bind_bad, Res.bind_exc, List.map_cons, List.map_nil, List.length_cons, List.length_nil, List.replicate, List.cons_append, List.nil_append, List.getElem?_cons_zero, List.getElem?_cons_succ, List.set_cons_zero, List.set_cons_succ, if_true, if_false, Nat.reduceAdd, Nat.reduceSub, Nat.reduceEqDiff, reduceIte, Bool.false_eq_true, l1, gRepR, List.length_singleton, hz, and_self, lcEnd, hz2, hlen]
        rw [ef]
        simp [hp, rO]
      · unfold rfs
        simp [List.range_succ]) (h := hp c t a (r ++ e :: [])) ⟨rfl, rfl⟩
  rw [List.length_range] at ey
  subst ey; subst eh
  have hz : (rfs (r.length + 3) n).length ≤ LIM := by unfold rfs LIM; simp; omega
  simp only [fn, fnK, sNop, sSeq, sEx, sRet, sIf, sBrk, sCnt, sAsg, gVar, gAll, gTup, gSub, sAug, sAugS, sPar2, sPar3, eVar, eC, aNil, aCons, eAp, eAp1_eq, eAp2_eq, tB, tAnd, tOr, tNot, tTT, eT, eIf, eAnd, eOr, eNot, eCh, oNo, oP, eSl, eMtL, eTup_eq, eLst_eq, eLstR_eq, Res.bind_ok, Res.bind_bad, Res.bind_exc, List.map_cons, List.map_nil, List.length_cons, List.length_nil, List.replicate, List.cons_append, List.nil_append, List.getElem?_cons_zero, List.getElem?_cons_succ, List.set_cons_zero, List.set_cons_succ, if_true, if_false, Nat.reduceAdd, Nat.reduceSub, Nat.reduceEqDiff, reduceIte, Bool.false_eq_true, eLc, lcIn, iRg1, hb, and_self, rng_nat, wipe, e1, lcEnd, hz]
/-- .. and handed back -/
theorem tup_rows (c : List Int) (t a : Int) (r : Hd) (e : Ob) {n : Nat} {M : List (List Int)} (s : Sh n M) (hn : n ≤ 1000) (w0 w1 w2 w3 w4 w5 w6 w7 w9 w10 : Option D) :
    eLc false [10] (iVal (eVar 8)) (gVar 10) tTT (lcOne (eAp gTuple (aCons (eVar 10) aNil))) [w0, w1, w2, w3, w4, w5, w6, w7, some (.lst (rfs (r.length + 3) n)), w9, w10] (hp c t a (r ++ e :: rO M)) = .ok (.lst (M.map dI)) (hp c t a (r ++ e :: rO M)) := by
  simp only [fn, fnK, sNop, sSeq, sEx, sRet, sIf, sBrk, sCnt, sAsg, gVar, gAll, gTup, gSub, sAug, sAugS, sPar2, sPar3, eVar, eC, aNil, aCons, eAp, eAp1_eq, eAp2_eq, tB, tAnd, tOr, tNot, tTT, eT, eIf, eAnd, eOr, eNot, eCh, oNo, oP, eSl, eMtL, eTup_eq, eLst_eq, eLstR_eq, Res.bind_ok, Res.bind_bad, Res.bind_exc, List.map_cons, List.map_nil, List.length_cons, List.length_nil, List.replicate, List.cons_append, List.nil_append, List.getElem?_cons_zero, List.getElem?_cons_succ, List.set_cons_zero, List.set_cons_succ, if_true, if_false, Nat.reduceAdd, Nat.reduceSub, Nat.reduceEqDiff, reduceIte, Bool.false_eq_true, eLc, lcIn, iVal, seqOf, chkOf, wipe, rfs]
  rw [lcF_one (fun i => D.ref (r.length + 3 + i)) (fun i => dI (M.getD i [])) (List.range n) fun i hi => ⟨_, rfl, rfl, by
    have hi : i < M.length := by rw [s.1]; exact List.mem_range.mp hi
    simp only [fn, fnK, sNop, sSeq, sEx, sRet, sIf, sBrk, sCnt, sAsg, gVar, gAll, gTup, gSub, sAug, sAugS, sPar2, sPar3, eVar, eC, aNil, aCons, eAp, eAp1_eq, eAp2_eq, tB, tAnd, tOr, tNot, tTT, eT, eIf, eAnd, eOr, eNot, eCh, oNo, oP, eSl, eMtL, eTup_eq, eLst_eq, eLstR_eq, Res.bind_ok, Res.bind_bad, Res.bind_exc, List.map_cons, List.map_nil, List.length_cons, List.length_nil, List.replicate, List.cons_append, List.nil_append, List.getElem?_cons_zero, List.getElem?_cons_succ, List.set_cons_zero, List.set_cons_succ, if_true, if_false, Nat.reduceAdd, Nat.reduceSub, Nat.reduceEqDiff, reduceIte, Bool.false_eq_true, gTuple, seqOf, row_get c t a r e M hi, dI]⟩]
  have hz : (List.range n).length ≤ LIM := by rw [List.length_range]; unfold LIM; omega
  simp only [Res.bind_ok, lcEnd, List.length_map, hz, if_true, Bool.false_eq_true, if_false]
  congr 2
  apply List.ext_getElem
  · simp [s.1]
  · intro i h1 h2
    have hi : i < M.length := by simpa using h2
    simp [hi]
/-- the ties are put in -/
theorem laid_eq (c : List Int) (t5 a5 : Int) (r : Hd) (n : Nat) (E : List (Nat × Nat)) (p4 : Prs n E) {ord : List Int} (io : IsOrd n ord) (w1 w2 u5 u6 : Option D) :
    ∃ σ7 M v6 v9, forF (gTup [(gVar 6), (gVar 9)]) (sSeq (sAugS (eAp2 gIx (eVar 8) (eAp2 gIx (eVar 7) (eVar 6))) (eAp2 gIx (eVar 7) (eVar 9)) (eC (.int 1)) gIx gIadd gSet)
  (sAugS (eAp2 gIx (eVar 8) (eAp2 gIx (eVar 7) (eVar 9))) (eAp2 gIx (eVar 7) (eVar 6)) (eC (.int 1)) gIx gIadd gSet)) [(r.length + 2, E.map pD)] (E.map pD)
      [some (.ref 1), w1, w2, some (.int (n : Int)), some (.ref (r.length + 2)), u5, u6, some (.lst (ord.map D.int)), some (.lst (rfs (r.length + 3) n)), none, none] (hp c t5 a5 (r ++ .lst (E.map pD) :: rO ((List.range n).map fun _ => List.replicate n 0))) =
      .ok (.nx σ7) (hp c t5 a5 (r ++ .lst (E.map pD) :: rO M)) ∧ σ7 = [some (.ref 1), w1, w2, some (.int (n : Int)), some (.ref (r.length + 2)), u5, v6, some (.lst (ord.map D.int)), some (.lst (rfs (r.length + 3) n)), v9, none] ∧ Mk n (oF ord) E M := by
  -- the ties are put in
  obtain ⟨σ7, h7, e7, M, v6, v9, eσ7, eh7, mk⟩ := forF_inv0 (g := gTup [(gVar 6), (gVar 9)]) (body := sSeq (sAugS (eAp2 gIx (eVar 8) (eAp2 gIx (eVar 7) (eVar 6))) (eAp2 gIx (eVar 7) (eVar 9)) (eC (.int 1)) gIx gIadd gSet)
  (sAugS (eAp2 gIx (eVar 8) (eAp2 gIx (eVar 7) (eVar 9))) (eAp2 gIx (eVar 7) (eVar 6)) (eC (.int 1)) gIx gIadd gSet)) (chk := [(r.length + 2, E.map pD)]) pD
    (fun done σ h => ∃ (M : List (List Int)) (v6 v9 : Option D), σ = [some (.ref 1), w1, w2, some (.int (n : Int)), some (.ref (r.length + 2)), u5, v6, some (.lst (ord.map D.int)), some (.lst (rfs (r.length + 3) n)), v9, none] ∧
      h = hp c t5 a5 (r ++ .lst (E.map pD) :: rO M) ∧ Mk n (oF ord) done M) E (fun done σ h ⟨M, _, _, _, eh, _⟩ => by
        subst eh
        intro p hp
        have : p = (r.length + 2, E.map pD) := by simpa using hp
        subst this
        exact hp_get ..) (fun done p rest σ h ed hI => by
      obtain ⟨M, v6, v9, rfl, rfl, mk⟩ := hI
      obtain ⟨q1, q2, q3⟩ := p4.ok p (by rw [ed]; simp)
      have hE : ∀ p ∈ done, oF ord p.1 < n ∧ oF ord p.2 < n := fun p hp => by
        obtain ⟨z1, z2, _⟩ := p4.ok p (by rw [ed]; exact List.mem_append_left _ hp)
        exact ⟨(io.at z1).2, (io.at z2).2⟩
      have ne : oF ord p.1 ≠ oF ord p.2 := fun e => q3 (io.inj q1 q2 e)
      have s1 := mk.sh.inc (b := oF ord p.2) (io.at q1).2
      refine ⟨_, _, _, _, rfl, .inl ?_, _, some (.int (p.1 : Int)), some (.int (p.2 : Int)), rfl, rfl, mk.step (io.at q1).2 (io.at q2).2 ne hE⟩
      have g1 := aug_eq c t5 a5 r (.lst (E.map pD)) mk.sh io q1 q2 (σ := [some (.ref 1), w1, w2, some (.int (n : Int)), some (.ref (r.length + 2)), u5, some (.int (p.1 : Int)), some (.lst (ord.map D.int)), some (.lst (rfs (r.length + 3) n)), some (.int (p.2 : Int)), none]) (p := 6) (q := 9) rfl rfl rfl rfl
      have g2 := aug_eq c t5 a5 r (.lst (E.map pD)) s1 io q2 q1 (σ := [some (.ref 1), w1, w2, some (.int (n : Int)), some (.ref (r.length + 2)), u5, some (.int (p.1 : Int)), some (.lst (ord.map D.int)), some (.lst (rfs (r.length + 3) n)), some (.int (p.2 : Int)), none]) (p := 9) (q := 6) rfl rfl rfl rfl
      show (sSeq _ _) _ _ = _
      unfold sSeq
      show (sAugS _ _ _ _ _ _ [some (.ref 1), w1, w2, some (.int (n : Int)), some (.ref (r.length + 2)), u5, some (.int (p.1 : Int)), some (.lst (ord.map D.int)), some (.lst (rfs (r.length + 3) n)), some (.int (p.2 : Int)), none] _).bind _ = _
      rw [g1]
      exact g2) (σ := [some (.ref 1), w1, w2, some (.int (n : Int)), some (.ref (r.length + 2)), u5, u6, some (.lst (ord.map D.int)), some (.lst (rfs (r.length + 3) n)), none, none])
    (h := hp c t5 a5 (r ++ .lst (E.map pD) :: rO ((List.range n).map fun _ => List.replicate n 0))) ⟨_, u6, none, rfl, rfl, Mk.start n _⟩
  subst eh7
  exact ⟨σ7, M, v6, v9, e7, eσ7, mk⟩
theorem seq_nx {s t : SS} {σ σ1 : Sg} {h h1 : Hd} (e : s σ h = .ok (.nx σ1) h1) : sSeq s t σ h = t σ1 h1 := by
  unfold sSeq
  rw [e]; rfl
theorem asg_nx {f : EE} {i : Nat} {σ : Sg} {h h1 : Hd} {d : D} (e : f σ h = .ok d h1) : sAsg f (gVar i) σ h = .ok (.nx (σ.set i (some d))) h1 := by
  unfold sAsg
  rw [e]; rfl
theorem ap2_ok {g : EF} {f1 f2 : EE} {σ : Sg} {h h1 h2 h3 : Hd} {d1 d2 d : D} (e1 : f1 σ h = .ok d1 h1) (e2 : f2 σ h1 = .ok d2 h2) (e3 : g [d1, d2] h2 = .ok d h3) : eAp g (aCons f1 (aCons f2 aNil)) σ h = .ok d h3 := by
  unfold eAp aCons aNil
  rw [e1]
  simp only [Res.bind_ok, e2]
  exact e3
theorem fn_rt {n m : Nat} {body : SS} {ds : List D} {h h' : Hd} {d : D} (hl : ds.length = n) (e : body (ds.map some ++ List.replicate (m - n) none) h = .ok (.rt d) h') : fn n m body ds h = fin h d h' := by
  unfold fn
  rw [if_pos hl, e]; rfl
theorem fnK_rt {n m : Nat} {body : SS} {ds : List D} {h h' : Hd} {d : D} (hl : ds.length = n) (e : body (ds.map some ++ List.replicate (m - n) none) h = .ok (.rt d) h') : fnK n m body ds h = .ok d h' := by
  unfold fnK
  rw [if_pos hl, e]; rfl
theorem web_eq (c : List Int) (t a : Int) (r : Hd) (P T : Nat) (hP : 1 ≤ P) (hP2 : P ≤ 10) (hT : P ≤ T + 1) (hT2 : T ≤ 12) (h0 : 0 ≤ t) (ht : t + 100000 ≤ TM) :
    ∃ M, Drew f_law_any_web [.ref 1, .int (P : Int), .int (T : Int)] (dW M) c t a r 1000 ∧ IsWeb M ∧ M.length ≤ P := by
  obtain ⟨x0, t1, a1, e1, x1, b1, b2⟩ := take_nat c t a r P h0 (by unfold TM at *; omega) hP (by omega)
  generalize hn : x0 + 1 = n
  have hn1 : (1 : Int) + (x0 : Int) = (n : Int) := by omega
  obtain ⟨E0, t2, a2, e2, l2, p2, b3, b4⟩ := ends_eq c t1 a1 r n (by omega) (by omega) (by omega) (by unfold TM at *; omega) (some (.int (P : Int))) (some (.int (T : Int))) none none none none none none none
  obtain ⟨y, t3, a3, e3, y1, b5, b6⟩ := take_nat c t2 a2 (r ++ .lst (E0.map pD) :: []) (T + 2 - n) (by omega) (by unfold TM at *; omega) (by omega) (by omega)
  have em : ((T + 2 - n : Nat) : Int) = (T : Int) - (n : Int) + 2 := by omega
  rw [em] at e3
  -- how many more
  obtain ⟨k, hk, hk2, hk3⟩ : ∃ k : Nat, (y : Int) * (if decide (1 < (n : Int)) = true then 1 else 0) = (k : Int) ∧ (k = 0 ∨ 2 ≤ n) ∧ k ≤ y := by
    by_cases h : 1 < (n : Int)
    · exact ⟨y, by simp [h], by omega, Nat.le_refl _⟩
    · exact ⟨0, by simp [h], .inl rfl, Nat.zero_le _⟩
  obtain ⟨σ', E, t4, a4, e4, ⟨u5, u6, eσ⟩, l4, p4, b7, b8⟩ := more_eq c t3 a3 r n k (by omega) (by omega) hk2 (by omega) (by unfold TM at *; omega) E0 p2 (by omega) (some (.int (P : Int))) (some (.int (T : Int))) none none none none none none
  subst eσ
  obtain ⟨ord, ⟨t5, a5, e5, b9, b10⟩, io⟩ := order_eq c t4 a4 (r ++ .lst (E.map pD) :: []) n (by omega) (by omega) (by unfold TM at *; omega)
  have e6 := rows_eq c t5 a5 r (.lst (E.map pD)) n (by omega) (some (.int (P : Int))) (some (.int (T : Int))) (some (.ref (r.length + 2))) u5 u6 (some (.lst (ord.map D.int))) none none none
  obtain ⟨σ7, M, v6, v9, e7, eσ7, mk⟩ := laid_eq c t5 a5 r n E p4 io (some (.int (P : Int))) (some (.int (T : Int))) u5 u6
  subst eσ7
  have e8 := tup_rows c t5 a5 r (.lst (E.map pD)) mk.sh (by omega) (some (.ref 1)) (some (.int (P : Int))) (some (.int (T : Int))) (some (.int (n : Int))) (some (.ref (r.length + 2))) u5 v6 (some (.lst (ord.map D.int))) v9 none
  have hw : IsWeb M := mk.web (by omega) (by omega) (by omega) (fun w hw => io.surj hw) (fun u hu => (io.at hu).2) p4.tr
  refine ⟨M, ⟨t5, a5, ?_, by omega, by omega⟩, hw, by rw [mk.sh.1]; omega⟩
  have hkb : -BIG ≤ (k : Int) ∧ (k : Int) ≤ BIG := by unfold BIG; omega
  have m1 : ∀ (z : Int) (h : Hd), gMul [.int (y : Int), .int z] h = .ok (.int ((y : Int) * z)) h := fun z h => gMul_s (by omega) (by omega) h
  have gi : ∀ h : Hd, gInt [.bl (decide (1 < (n : Int)))] h = .ok (.int (if decide (1 < (n : Int)) = true then 1 else 0)) h := fun h => rfl
  unfold f_law_any_web
  refine Eq.trans (fn_rt (d := dW M) (h' := hp c t5 a5 (r ++ .lst (E.map pD) :: rO M)) (by rfl) ?_) (fin_pen (noRef_dW _ _))
  refine (seq_nx (σ1 := [some (.ref 1), some (.int (P : Int)), some (.int (T : Int)), some (.int (n : Int)), none, none, none, none, none, none, none]) (h1 := hp c t1 a1 r) ?_).trans ?_
  · simp only [fn, fnK, sNop, sSeq, sEx, sRet, sIf, sBrk, sCnt, sAsg, gVar, gAll, gTup, gSub, sAug, sAugS, sPar2, sPar3, eVar, eC, aNil, aCons, eAp, eAp1_eq, eAp2_eq, tB, tAnd, tOr, tNot, tTT, eT, eIf, eAnd, eOr, eNot, eCh, oNo, oP, eSl, eMtL, eTup_eq, eLst_eq, eLstR_eq, Res.bind_ok, Res.bind_bad, Res.bind_exc, List.map_cons, List.map_nil, List.length_cons, List.length_nil, List.replicate, List.cons_append, List.nil_append, List.getElem?_cons_zero, List.getElem?_cons_succ, List.set_cons_zero, List.set_cons_succ, if_true, if_false, Nat.reduceAdd, Nat.reduceSub, Nat.reduceEqDiff, reduceIte, Bool.false_eq_true, e1, gAdd_ii, hn1]
  refine (seq_nx (σ1 := [some (.ref 1), some (.int (P : Int)), some (.int (T : Int)), some (.int (n : Int)), some (.ref (r.length + 2)), none, none, none, none, none, none]) (h1 := hp c t2 a2 (r ++ .lst (E0.map pD) :: [])) ?_).trans ?_
  · simp only [sAsg, e2, Res.bind_ok, gVar, List.set_cons_succ, List.set_cons_zero]
  refine (seq_nx (σ1 := [some (.ref 1), some (.int (P : Int)), some (.int (T : Int)), some (.int (n : Int)), some (.ref (r.length + 2)), u5, u6, none, none, none, none]) (h1 := hp c t4 a4 (r ++ .lst (E.map pD) :: [])) ?_).trans ?_
  · have ei : iRg1 (aCons (eAp2 gMul (eAp f_law_take (aCons (eVar 0) (aCons (eAp2 gAdd (eAp2 gSubt (eVar 2) (eVar 3)) (eC (.int 2))) aNil))) (eAp gInt (aCons (eAp2 gGt (eVar 3) (eC (.int 1))) aNil))) aNil) [some (.ref 1), some (.int (P : Int)), some (.int (T : Int)), some (.int (n : Int)), some (.ref (r.length + 2)), none, none, none, none, none, none] (hp c t2 a2 (r ++ .lst (E0.map pD) :: [])) =
        .ok ⟨(List.range k).map fun (i : Nat) => D.int (i : Int), []⟩ (hp c t3 a3 (r ++ .lst (E0.map pD) :: [])) := by
      simp only [fn, fnK, sNop, sSeq, sEx, sRet, sIf, sBrk, sCnt, sAsg, gVar, gAll, gTup, gSub, sAug, sAugS, sPar2, sPar3, eVar, eC, aNil, aCons, eAp, eAp1_eq, eAp2_eq, tB, tAnd, tOr, tNot, tTT, eT, eIf, eAnd, eOr, eNot, eCh, oNo, oP, eSl, eMtL, eTup_eq, eLst_eq, eLstR_eq, Res.bind_ok, Res.bind_bad, Res.bind_exc, List.map_cons, List.map_nil, List.length_cons, List.length_nil, List.replicate, List.cons_append, List.nil_append, List.getElem?_cons_zero, List.getElem?_cons_succ, List.set_cons_zero, List.set_cons_succ, if_true, if_false, Nat.reduceAdd, Nat.reduceSub, Nat.reduceEqDiff, reduceIte, Bool.false_eq_true, iRg1, gSubt_ii, gAdd_ii, e3, gGt, gi, m1, hk, hkb, and_self, rng_nat]
    unfold sFor
    rw [ei]
    exact e4
  refine (seq_nx (σ1 := [some (.ref 1), some (.int (P : Int)), some (.int (T : Int)), some (.int (n : Int)), some (.ref (r.length + 2)), u5, u6, some (.lst (ord.map D.int)), none, none, none]) (h1 := hp c t5 a5 (r ++ .lst (E.map pD) :: [])) ?_).trans ?_
  · exact asg_nx (ap2_ok (d1 := .ref 1) (d2 := .int (n : Int)) rfl rfl e5)
  refine (seq_nx (σ1 := [some (.ref 1), some (.int (P : Int)), some (.int (T : Int)), some (.int (n : Int)), some (.ref (r.length + 2)), u5, u6, some (.lst (ord.map D.int)), some (.lst (rfs (r.length + 3) n)), none, none]) (h1 := hp c t5 a5 (r ++ .lst (E.map pD) :: rO ((List.range n).map fun _ => List.replicate n 0))) ?_).trans ?_
  · simp only [sAsg, e6, Res.bind_ok, gVar, List.set_cons_succ, List.set_cons_zero]
  refine (seq_nx (σ1 := [some (.ref 1), some (.int (P : Int)), some (.int (T : Int)), some (.int (n : Int)), some (.ref (r.length + 2)), u5, v6, some (.lst (ord.map D.int)), some (.lst (rfs (r.length + 3) n)), v9, none]) (h1 := hp c t5 a5 (r ++ .lst (E.map pD) :: rO M)) ?_).trans ?_
  · have ei : iVal (eVar 4) [some (.ref 1), some (.int (P : Int)), some (.int (T : Int)), some (.int (n : Int)), some (.ref (r.length + 2)), u5, u6, some (.lst (ord.map D.int)), some (.lst (rfs (r.length + 3) n)), none, none] (hp c t5 a5 (r ++ .lst (E.map pD) :: rO ((List.range n).map fun _ => List.replicate n 0))) =
        .ok ⟨E.map pD, [(r.length + 2, E.map pD)]⟩ (hp c t5 a5 (r ++ .lst (E.map pD) :: rO ((List.range n).map fun _ => List.replicate n 0))) := by
      simp only [iVal, eVar, List.getElem?_cons_succ, List.getElem?_cons_zero, Res.bind_ok, seqOf, chkOf, hp_get]
    unfold sFor
    rw [ei]
    exact e7
  · simp only [sRet, eAp, aCons, aNil, e8, Res.bind_ok, gTuple, seqOf]
    rfl
end BR

namespace BR
open PySem
end BR

namespace BR
open PySem
theorem open_eq (ns : List Int) : ∃ c, f_law_open [.scr ns] [] = .ok (.ref 1) (hp c 0 0 []) := by
  have s1 : HT.sIx (ns.map D.int).length 0 none = 0 := rfl
  have s12 : ∀ d, HT.sIx (ns.map D.int).length d (some 12) = min 12 (ns.map D.int).length := fun d => HT.sIx_nat _ d 12
  have c1 : cutD (ns.map D.int) none (some 12) = (ns.take 12).map D.int := by
    unfold cutD
    rw [s1, s12, List.drop_zero, Nat.sub_zero, List.length_map, List.map_take]
    rcases Nat.le_total 12 ns.length with h | h
    · rw [Nat.min_eq_left h]
    · rw [Nat.min_eq_right h, List.take_of_length_le (by simp), List.take_of_length_le (by simpa using h)]
  obtain ⟨zs, c2, hz⟩ : ∃ zs : List Int, cutD (ns.map D.int) (some 12) (some 63) = zs.map D.int ∧ (zs ≠ [] → 12 ≤ ns.length) := by
    refine ⟨(ns.drop (HT.sIx (ns.map D.int).length 0 (some 12))).take (HT.sIx (ns.map D.int).length (ns.map D.int).length (some 63) - HT.sIx (ns.map D.int).length 0 (some 12)), ?_, fun hne => ?_⟩
    · unfold cutD
      rw [List.map_take, List.map_drop]
    · apply Classical.byContradiction
      intro hlt
      apply hne
      have : HT.sIx (ns.map D.int).length 0 (some 12) = ns.length := by
        rw [s12, List.length_map]
        omega
      rw [this, List.drop_length, List.take_nil]
  obtain ⟨σ', h', e1, c, a, b, eσ, eh, hl⟩ := forF_inv0 (g := gTup [(gVar 2), (gVar 3)]) (body := sAsg (eAp2 gAdd (eAp2 gIx (eVar 1) (eAp2 gMod (eVar 2) (eC (.int 12)))) (eVar 3)) (gSub (eVar 1) (eAp2 gMod (eVar 2) (eC (.int 12))) gSet)) (chk := []) (fun (i : Nat) => D.tup [.int (i : Int), .int (zs.getD i 0)])
    (fun done σ h => ∃ (c : List Int) (a b : Option D), σ = [some (.scr ns), some (.ref 0), a, b] ∧ h = [.lst (c.map D.int)] ∧ (zs ≠ [] → c.length = 12)) (List.range zs.length) (fun _ _ _ _ => okChk_nil _)
    (fun done i rest σ h ed hI => by
      obtain ⟨c, a, b, rfl, rfl, hl⟩ := hI
      have hi := (range_split ed).2
      have hne : zs ≠ [] := by rintro rfl; simp at hi
      have hl := hl hne
      obtain ⟨f0, f1⟩ := fmod_lt (a := (i : Int)) (b := 12) (by decide)
      have md : ∀ h : Hd, gMod [.int (i : Int), .int 12] h = .ok (.int ((i : Int).fmod 12)) h := fun h => gMod_ok (by decide) h
      generalize hj : ((i : Int).fmod 12).toNat = j
      have hji : (i : Int).fmod 12 = (j : Int) := by omega
      have hj12 : j < c.length := by omega
      rw [hji] at md
      have g1 : gIx [.ref 0, .int (j : Int)] [.lst (c.map D.int)] = .ok (.int (c.getD j 0)) [.lst (c.map D.int)] := by
        unfold gIx
        simp only [seqOf, List.getElem?_cons_zero]
        rw [atI_nat (by simpa using hj12)]
        simp [hj12]
      have g2 : gSet [.ref 0, .int (j : Int), .int (c.getD j 0 + zs.getD i 0)] [.lst (c.map D.int)] = .ok .non [.lst ((c.set j (c.getD j 0 + zs.getD i 0)).map D.int)] := by
        unfold gSet
        simp only [List.getElem?_cons_zero]
        rw [ixN_nat (by simpa using hj12)]
        simp [List.map_set]
      refine ⟨_, _, _, [.lst ((c.set j (c.getD j 0 + zs.getD i 0)).map D.int)], rfl, .inl ?_, _, some (.int (i : Int)), some (.int (zs.getD i 0)), rfl, rfl, fun _ => by rw [List.length_set]; exact hl⟩
      simp only [fn, fnK, sNop, sSeq, sEx, sRet, sIf, sBrk, sCnt, sAsg, gVar, gAll, gTup, gSub, sAug, sAugS, sPar2, sPar3, eVar, eC, aNil, aCons, eAp, eAp1_eq, eAp2_eq, tB, tAnd, tOr, tNot, tTT, eT, eIf, eAnd, eOr, eNot, eCh, oNo, oP, eSl, eMtL, eTup_eq, eLst_eq, eLstR_eq, Res.bind_ok, Res.bind_bad, Res.bind_exc, List.map_cons, List.map_nil, List.length_cons, List.length_nil, List.replicate, List.cons_append, List.nil_append, List.getElem?_cons_zero, List.getElem?_cons_succ, List.set_cons_zero, List.set_cons_succ, if_true, if_false, Nat.reduceAdd, Nat.reduceSub, Nat.reduceEqDiff, reduceIte, Bool.false_eq_true, md, g1, gAdd_ii, g2])
    (σ := [some (.scr ns), some (.ref 0), none, none]) (h := [.lst ((ns.take 12).map D.int)]) ⟨_, none, none, rfl, rfl, fun hne => by rw [List.length_take]; have := hz hne; omega⟩
  subst eσ; subst eh
  refine ⟨c, fnK_rt (by rfl) ?_⟩
  refine (seq_nx (σ1 := [some (.scr ns), some (.ref 0), none, none]) (h1 := [.lst ((ns.take 12).map D.int)]) ?_).trans ?_
  · simp only [fn, fnK, sNop, sSeq, sEx, sRet, sIf, sBrk, sCnt, sAsg, gVar, gAll, gTup, gSub, sAug, sAugS, sPar2, sPar3, eVar, eC, aNil, aCons, eAp, eAp1_eq, eAp2_eq, tB, tAnd, tOr, tNot, tTT, eT, eIf, eAnd, eOr, eNot, eCh, oNo, oP, eSl, eMtL, eTup_eq, eLst_eq, eLstR_eq, Res.bind_ok, Res.bind_bad, Res.bind_exc, List.map_cons, List.map_nil, List.length_cons, List.length_nil, List.replicate, List.cons_append, List.nil_append, List.getElem?_cons_zero, List.getElem?_cons_succ, List.set_cons_zero, List.set_cons_succ, if_true, if_false, Nat.reduceAdd, Nat.reduceSub, Nat.reduceEqDiff, reduceIte, Bool.false_eq_true, gCut, c1, gListR, seqOf]
  refine (seq_nx (σ1 := [some (.scr ns), some (.ref 0), a, b]) (h1 := [.lst (c.map D.int)]) ?_).trans ?_
  · have ei : iEn (aCons (eSl gCut (eVar 0) (oP (eC (.int 12))) (oP (eC (.int 63)))) aNil) [some (.scr ns), some (.ref 0), none, none] [.lst ((ns.take 12).map D.int)] = .ok ⟨(List.range zs.length).map fun (i : Nat) => D.tup [.int (i : Int), .int (zs.getD i 0)], []⟩ [.lst ((ns.take 12).map D.int)] := by
      simp only [fn, fnK, sNop, sSeq, sEx, sRet, sIf, sBrk, sCnt, sAsg, gVar, gAll, gTup, gSub, sAug, sAugS, sPar2, sPar3, eVar, eC, aNil, aCons, eAp, eAp1_eq, eAp2_eq, tB, tAnd, tOr, tNot, tTT, eT, eIf, eAnd, eOr, eNot, eCh, oNo, oP, eSl, eMtL, eTup_eq, eLst_eq, eLstR_eq, Res.bind_ok, Res.bind_bad, Res.bind_exc, List.map_cons, List.map_nil, List.length_cons, List.length_nil, List.replicate, List.cons_append, List.nil_append, List.getElem?_cons_zero, List.getElem?_cons_succ, List.set_cons_zero, List.set_cons_succ, if_true, if_false, Nat.reduceAdd, Nat.reduceSub, Nat.reduceEqDiff, reduceIte, Bool.false_eq_true, iEn, gCut, c2, seqOf, chkOf, enum_ints]
    unfold sFor
    rw [ei]
    exact e1
  · have l3 : (3 : Nat) ≤ LIM := by decide
    simp only [fn, fnK, sNop, sSeq, sEx, sRet, sIf, sBrk, sCnt, sAsg, gVar, gAll, gTup, gSub, sAug, sAugS, sPar2, sPar3, eVar, eC, aNil, aCons, eAp, eAp1_eq, eAp2_eq, tB, tAnd, tOr, tNot, tTT, eT, eIf, eAnd, eOr, eNot, eCh, oNo, oP, eSl, eMtL, eTup_eq, eLst_eq, eLstR_eq, Res.bind_ok, Res.bind_bad, Res.bind_exc, List.map_cons, List.map_nil, List.length_cons, List.length_nil, List.replicate, List.cons_append, List.nil_append, List.getElem?_cons_zero, List.getElem?_cons_succ, List.set_cons_zero, List.set_cons_succ, if_true, if_false, Nat.reduceAdd, Nat.reduceSub, Nat.reduceEqDiff, reduceIte, Bool.false_eq_true, l3]
    rfl
theorem natAbs_lt {x B : Int} {N : Nat} (h1 : -B ≤ x) (h2 : x ≤ B) (hB : B < N) : x.natAbs < N := by omega
end BR

namespace BR
open PySem
end BR

namespace BR
open PySem
def Rn {α : Type} (r : Res α) (Q : α → Hd → Prop) : Prop := ∃ a h, r = .ok a h ∧ Q a h
section
variable {α β : Type} {r : Res α} {f : α → Hd → Res β} {a : α} {h h1 h2 : Hd} {σ : Sg}
theorem rn_ok {Q : α → Hd → Prop} (q : Q a h) : Rn (.ok a h) Q := ⟨a, h, rfl, q⟩
theorem rn_eq {Q : α → Hd → Prop} (e : r = .ok a h) (q : Q a h) : Rn r Q := ⟨a, h, e, q⟩
theorem rn_bind {Q : β → Hd → Prop} (q : Rn r fun a h => Rn (f a h) Q) : Rn (r.bind f) Q := by
  obtain ⟨a, h, e, b, h', e', q⟩ := q
  exact ⟨b, h', by rw [e]; exact e', q⟩
theorem rn_imp {Q Q' : α → Hd → Prop} (q : Rn r Q) (i : ∀ a h, Q a h → Q' a h) : Rn r Q' := by
  obtain ⟨a, h, e, q⟩ := q
  exact ⟨a, h, e, i a h q⟩
end
section
variable {σ σ1 : Sg} {h : Hd} {d : D} {e f g : EE} {as : EA} {F F' : EF} {c c' : ET} {s t u : SS} {i j k : Nat} {gt : EG} {gs : List EG}
theorem re_var {Q : D → Hd → Prop} (q : ∃ d, σ[i]? = some (some d) ∧ Q d h) : Rn (eVar i σ h) Q := by
  obtain ⟨d, e, q⟩ := q
  exact ⟨d, h, by unfold eVar; rw [e], q⟩
theorem re_c {Q : D → Hd → Prop} (q : Q d h) : Rn (eC d σ h) Q := ⟨d, h, rfl, q⟩
theorem ra_nil {Q : List D → Hd → Prop} (q : Q [] h) : Rn (aNil σ h) Q := ⟨[], h, rfl, q⟩
theorem ra_cons {Q : List D → Hd → Prop} (q : Rn (e σ h) fun d h1 => Rn (as σ h1) fun ds h2 => Q (d :: ds) h2) : Rn (aCons e as σ h) Q := rn_bind (rn_imp q fun _ _ q => rn_bind (rn_imp q fun _ _ q => rn_ok q))
theorem re_ap {Q : D → Hd → Prop} (q : Rn (as σ h) fun ds h1 => Rn (F ds h1) Q) : Rn (eAp F as σ h) Q := rn_bind q
theorem re_apK {n j : Nat} {ks : EA} {rest : List D} {Q : D → Hd → Prop} (q : Rn (as σ h) fun ds h1 => Rn (ks σ h1) fun es h2 => (ds.length = n ∧ es.length = j) ∧ Rn (F (ds ++ (es ++ rest)) h2) Q) : Rn (eApK F n j as ks rest σ h) Q := rn_bind (rn_imp q fun _ _ q => rn_bind (rn_imp q fun _ _ ⟨z, q⟩ => by rw [if_pos z]; exact q))
theorem re_ap1 {Q : D → Hd → Prop} (q : Rn (e σ h) fun d h1 => Rn (F [d] h1) Q) : Rn (eAp1 F e σ h) Q := by
  rw [eAp1_eq]; exact rn_bind q
theorem re_ap2 {Q : D → Hd → Prop} (q : Rn (e σ h) fun d h1 => Rn (f σ h1) fun d2 h2 => Rn (F [d, d2] h2) Q) : Rn (eAp2 F e f σ h) Q := by
  rw [eAp2_eq]; exact rn_bind (rn_imp q fun _ _ q => rn_bind q)
theorem rt_B {Q : Bool → Hd → Prop} (q : Rn (e σ h) fun d h1 => ∃ b, d = .bl b ∧ Q b h1) : Rn (tB e σ h) Q := rn_bind (rn_imp q fun _ _ ⟨b, e, q⟩ => by subst e; exact rn_ok q)
theorem rt_and {Q : Bool → Hd → Prop} (q : Rn (c σ h) fun b h1 => (b = true → Rn (c' σ h1) Q) ∧ (b = false → Q false h1)) : Rn (tAnd c c' σ h) Q := rn_bind (rn_imp q fun b _ q => by
  cases b with
  | true => exact q.1 rfl
  | false => exact rn_ok (q.2 rfl))
theorem rt_or {Q : Bool → Hd → Prop} (q : Rn (c σ h) fun b h1 => (b = true → Q true h1) ∧ (b = false → Rn (c' σ h1) Q)) : Rn (tOr c c' σ h) Q := rn_bind (rn_imp q fun b _ q => by
  cases b with
  | true => exact rn_ok (q.1 rfl)
  | false => exact q.2 rfl)
theorem rt_not {Q : Bool → Hd → Prop} (q : Rn (c σ h) fun b h1 => Q (!b) h1) : Rn (tNot c σ h) Q := rn_bind (rn_imp q fun _ _ q => rn_ok q)
theorem re_T {Q : D → Hd → Prop} (q : Rn (c σ h) fun b h1 => Q (.bl b) h1) : Rn (eT c σ h) Q := rn_bind (rn_imp q fun _ _ q => rn_ok q)
theorem re_if {Q : D → Hd → Prop} (q : Rn (c σ h) fun b h1 => (b = true → Rn (e σ h1) Q) ∧ (b = false → Rn (f σ h1) Q)) : Rn (eIf c e f σ h) Q := rn_bind (rn_imp q fun b _ q => by
  cases b with
  | true => exact q.1 rfl
  | false => exact q.2 rfl)
theorem re_and {Q : D → Hd → Prop} (q : Rn (e σ h) fun d h1 => ∃ b, d = .bl b ∧ (b = true → Rn (f σ h1) Q) ∧ (b = false → Q (.bl false) h1)) : Rn (eAnd e f σ h) Q := rn_bind (rn_imp q fun d _ ⟨b, e, q⟩ => by
  subst e
  cases b with
  | true => exact q.1 rfl
  | false => exact rn_ok (q.2 rfl))
theorem re_or {Q : D → Hd → Prop} (q : Rn (e σ h) fun d h1 => ∃ b, d = .bl b ∧ (b = false → Rn (f σ h1) Q) ∧ (b = true → Q (.bl true) h1)) : Rn (eOr e f σ h) Q := rn_bind (rn_imp q fun d _ ⟨b, e, q⟩ => by
  subst e
  cases b with
  | false => exact q.1 rfl
  | true => exact rn_ok (q.2 rfl))
theorem re_not {Q : D → Hd → Prop} (q : Rn (e σ h) fun d h1 => ∃ b, d = .bl b ∧ Q (.bl (!b)) h1) : Rn (eNot e σ h) Q := rn_bind (rn_imp q fun d _ ⟨b, e, q⟩ => by subst e; exact rn_ok q)
theorem re_ch {Q : D → Hd → Prop} (q : Rn (e σ h) fun x h1 => Rn (f σ h1) fun y h2 => Rn (F [x, y] h2) fun z h3 => ∃ b, z = .bl b ∧ (b = true → Rn (g σ h3) fun w h4 => Rn (F' [y, w] h4) Q) ∧ (b = false → Q (.bl false) h3)) : Rn (eCh F F' e f g σ h) Q :=
  rn_bind (rn_imp q fun _ _ q => rn_bind (rn_imp q fun _ _ q => rn_bind (rn_imp q fun z _ ⟨b, e, q⟩ => by
    subst e
    cases b with
    | true => exact rn_bind (q.1 rfl)
    | false => exact rn_ok (q.2 rfl))))
theorem ro_no {Q : Option Int → Hd → Prop} (q : Q none h) : Rn (oNo σ h) Q := rn_ok q
theorem ro_p {Q : Option Int → Hd → Prop} (q : Rn (e σ h) fun d h1 => ∃ k, d = .int k ∧ Q (some k) h1) : Rn (oP e σ h) Q := rn_bind (rn_imp q fun d _ ⟨k, e, q⟩ => by subst e; exact rn_ok q)
theorem re_sl {S : D → Option Int → Option Int → Hd → Res D} {lo hi : Sg → Hd → Res (Option Int)} {Q : D → Hd → Prop} (q : Rn (e σ h) fun x h1 => Rn (lo σ h1) fun l h2 => Rn (hi σ h2) fun u h3 => Rn (S x l u h3) Q) : Rn (eSl S e lo hi σ h) Q :=
  rn_bind (rn_imp q fun _ _ q => rn_bind (rn_imp q fun _ _ q => rn_bind q))
theorem re_mt {Q : D → Hd → Prop} (q : Rn (e σ h) fun x h1 => (lstOf h1 x).isSome = true ∧ Rn (as σ h1) fun ds h2 => Rn (F (x :: ds) h2) Q) : Rn (eMtL F e as σ h) Q := rn_bind (rn_imp q fun _ _ ⟨z, q⟩ => by rw [if_pos z]; exact rn_bind q)
theorem re_mx {Q : D → Hd → Prop} (q : Rn (e σ h) fun x h1 => (tplOf h1 x).isSome = true ∧ Rn (as σ h1) fun ds h2 => Rn (F (x :: ds) h2) Q) : Rn (eMtX F e as σ h) Q := rn_bind (rn_imp q fun _ _ ⟨z, q⟩ => by rw [if_pos z]; exact rn_bind q)
theorem re_tup {Q : D → Hd → Prop} (q : Rn (as σ h) fun ds h1 => ds.length ≤ LIM ∧ Q (.tup ds) h1) : Rn (eTup as σ h) Q := rn_bind (rn_imp q fun _ _ ⟨z, q⟩ => by rw [if_pos z]; exact rn_ok q)
theorem re_lst {Q : D → Hd → Prop} (q : Rn (as σ h) fun ds h1 => ds.length ≤ LIM ∧ Q (.lst ds) h1) : Rn (eLst as σ h) Q := rn_bind (rn_imp q fun _ _ ⟨z, q⟩ => by rw [if_pos z]; exact rn_ok q)
theorem re_lstR {Q : D → Hd → Prop} (q : Rn (as σ h) fun ds h1 => ds.length ≤ LIM ∧ Q (.ref h1.length) (h1 ++ [.lst ds])) : Rn (eLstR as σ h) Q := rn_bind (rn_imp q fun _ _ ⟨z, q⟩ => by rw [if_pos z]; exact rn_ok q)
theorem re_is {ts : List String} {Q : D → Hd → Prop} (q : Rn (e σ h) fun d h1 => ∃ T, tyOf h1 d = some T ∧ Q (.bl (ts.any fun b => subTy T b)) h1) : Rn (eIs ts e σ h) Q := rn_bind (rn_imp q fun d _ ⟨T, z, q⟩ => by simp only [z]; exact rn_ok q)
theorem al0 {α : Type} {P : Prop} (p : P) : (([] : List α).length ≤ LIM) ∧ P := ⟨show 0 ≤ LIM by decide, p⟩
theorem al1 {α : Type} {P : Prop} {x1 : α} (p : P) : ([x1].length ≤ LIM) ∧ P := ⟨show 1 ≤ LIM by decide, p⟩
theorem al2 {α : Type} {P : Prop} {x1 x2 : α} (p : P) : ([x1, x2].length ≤ LIM) ∧ P := ⟨show 2 ≤ LIM by decide, p⟩
theorem al3 {α : Type} {P : Prop} {x1 x2 x3 : α} (p : P) : ([x1, x2, x3].length ≤ LIM) ∧ P := ⟨show 3 ≤ LIM by decide, p⟩
theorem al4 {α : Type} {P : Prop} {x1 x2 x3 x4 : α} (p : P) : ([x1, x2, x3, x4].length ≤ LIM) ∧ P := ⟨show 4 ≤ LIM by decide, p⟩
theorem al5 {α : Type} {P : Prop} {x1 x2 x3 x4 x5 : α} (p : P) : ([x1, x2, x3, x4, x5].length ≤ LIM) ∧ P := ⟨show 5 ≤ LIM by decide, p⟩
theorem al6 {α : Type} {P : Prop} {x1 x2 x3 x4 x5 x6 : α} (p : P) : ([x1, x2, x3, x4, x5, x6].length ≤ LIM) ∧ P := ⟨show 6 ≤ LIM by decide, p⟩
/-- what comes behind a statement -/
def Kt (t : SS) (Q : Fl → Hd → Prop) : Fl → Hd → Prop := fun fl h => match fl with
  | .nx σ1 => Rn (t σ1 h) Q
  | fl => Q fl h
theorem rs_seq {Q : Fl → Hd → Prop} (q : Rn (s σ h) (Kt t Q)) : Rn (sSeq s t σ h) Q := rn_bind (rn_imp q fun fl _ q => by
  cases fl with
  | nx σ1 => exact q
  | _ => exact rn_ok q)
theorem rk_nx {Q : Fl → Hd → Prop} (q : Rn (t σ h) Q) : Kt t Q (.nx σ) h := q
theorem rk_rt {Q : Fl → Hd → Prop} (q : Q (.rt d) h) : Kt t Q (.rt d) h := q
theorem rs_nop {Q : Fl → Hd → Prop} (q : Q (.nx σ) h) : Rn (sNop σ h) Q := rn_ok q
theorem rs_ret {Q : Fl → Hd → Prop} (q : Rn (e σ h) fun d h1 => Q (.rt d) h1) : Rn (sRet e σ h) Q := rn_bind (rn_imp q fun _ _ q => rn_ok q)
theorem rs_ex {Q : Fl → Hd → Prop} (q : Rn (e σ h) fun d h1 => Q (.nx σ) h1) : Rn (sEx e σ h) Q := rn_bind (rn_imp q fun _ _ q => rn_ok q)
theorem rs_if {Q : Fl → Hd → Prop} (q : Rn (c σ h) fun b h1 => (b = true → Rn (s σ h1) Q) ∧ (b = false → Rn (t σ h1) Q)) : Rn (sIf c s t σ h) Q := rn_bind (rn_imp q fun b _ q => by
  cases b with
  | true => exact q.1 rfl
  | false => exact q.2 rfl)
theorem rs_asg {Q : Fl → Hd → Prop} (q : Rn (e σ h) fun d h1 => Rn (gt d σ h1) fun σ1 h2 => Q (.nx σ1) h2) : Rn (sAsg e gt σ h) Q := rn_bind (rn_imp q fun _ _ q => rn_bind (rn_imp q fun _ _ q => rn_ok q))
theorem rg_var {Q : Sg → Hd → Prop} (q : Q (σ.set i (some d)) h) : Rn (gVar i d σ h) Q := rn_ok q
theorem rg_all_nil {Q : Sg → Hd → Prop} (q : Q σ h) : Rn (gAll [] [] σ h) Q := rn_ok q
theorem rg_all {ds : List D} {Q : Sg → Hd → Prop} (q : Rn (gt d σ h) fun σ1 h1 => Rn (gAll gs ds σ1 h1) Q) : Rn (gAll (gt :: gs) (d :: ds) σ h) Q := rn_bind q
theorem rg_tup {xs : List D} {Q : Sg → Hd → Prop} (q : Rn (gAll gs xs σ h) Q) : Rn (gTup gs (.tup xs) σ h) Q := q
theorem rg_sub {Q : Sg → Hd → Prop} (q : Rn (e σ h) fun x h1 => Rn (f σ h1) fun y h2 => Rn (F [x, y, d] h2) fun _ h3 => Q σ h3) : Rn (gSub e f F d σ h) Q := rn_bind (rn_imp q fun _ _ q => rn_bind (rn_imp q fun _ _ q => rn_bind (rn_imp q fun _ _ q => rn_ok q)))
theorem rs_aug {Q : Fl → Hd → Prop} (q : ∃ d, σ[i]? = some (some d) ∧ Rn (e σ h) fun x h1 => Rn (F [d, x] h1) fun r h2 => Q (.nx (σ.set i (some r))) h2) : Rn (sAug i e F σ h) Q := by
  obtain ⟨d, z, q⟩ := q
  unfold sAug
  rw [z]
  exact rn_bind (rn_imp q fun _ _ q => rn_bind (rn_imp q fun _ _ q => rn_ok q))
theorem rs_augS {G O S : EF} {Q : Fl → Hd → Prop} (q : Rn (e σ h) fun x h1 => Rn (f σ h1) fun y h2 => Rn (G [x, y] h2) fun old h3 => Rn (g σ h3) fun z h4 => Rn (O [old, z] h4) fun new h5 => Rn (S [x, y, new] h5) fun _ h6 => Q (.nx σ) h6) : Rn (sAugS e f g G O S σ h) Q :=
  rn_bind (rn_imp q fun _ _ q => rn_bind (rn_imp q fun _ _ q => rn_bind (rn_imp q fun _ _ q => rn_bind (rn_imp q fun _ _ q => rn_bind (rn_imp q fun _ _ q => rn_bind (rn_imp q fun _ _ q => rn_ok q))))))
theorem rs_par2 {Q : Fl → Hd → Prop} (q : Rn (as σ h) fun ds h1 => ∃ x y, ds = [x, y] ∧ Q (.nx ((σ.set i (some x)).set j (some y))) h1) : Rn (sPar2 i j as σ h) Q := rn_bind (rn_imp q fun _ _ ⟨x, y, e, q⟩ => by subst e; exact rn_ok q)
theorem rs_par3 {Q : Fl → Hd → Prop} (q : Rn (as σ h) fun ds h1 => ∃ x y z, ds = [x, y, z] ∧ Q (.nx (((σ.set i (some x)).set j (some y)).set k (some z))) h1) : Rn (sPar3 i j k as σ h) Q := rn_bind (rn_imp q fun _ _ ⟨x, y, z, e, q⟩ => by subst e; exact rn_ok q)
/-- both ways of an if lead on alike -/
def Nx (J : Sg → Hd → Prop) : Fl → Hd → Prop := fun fl h => match fl with
  | .nx σ => J σ h
  | _ => False
theorem rk_N {J : Sg → Hd → Prop} (q : J σ h) : Nx J (.nx σ) h := q
variable {it : EI} {I : Walked} {chk : List (Nat × List D)}
theorem rs_for {Q : Fl → Hd → Prop} (q : Rn (it σ h) fun I h1 => Rn (forF gt s I.chk I.items σ h1) Q) : Rn (sFor gt it s σ h) Q := rn_bind q
theorem ri_val {Q : Walked → Hd → Prop} (q : Rn (e σ h) fun d h1 => ∃ xs, seqOf h1 d = some xs ∧ Q ⟨xs, chkOf h1 d⟩ h1) : Rn (iVal e σ h) Q := rn_bind (rn_imp q fun d _ ⟨xs, z, q⟩ => by simp only [z]; exact rn_ok q)
theorem ri_rg1 {Q : Walked → Hd → Prop} (q : Rn (as σ h) fun ds h1 => ∃ n : Int, ds = [.int n] ∧ (-BIG ≤ n ∧ n ≤ BIG) ∧ Q ⟨(List.range n.toNat).map fun (i : Nat) => D.int (i : Int), []⟩ h1) : Rn (iRg1 as σ h) Q := rn_bind (rn_imp q fun d _ ⟨n, z, b, q⟩ => by
  subst z
  simp only [b, and_self, if_true]
  refine rn_ok ?_
  have : rngItems 0 n.toNat = (List.range n.toNat).map fun (i : Nat) => D.int (i : Int) := by
    unfold rngItems; simp
  rw [this]; exact q)
theorem ri_rg2 {Q : Walked → Hd → Prop} (q : Rn (as σ h) fun ds h1 => ∃ m n : Int, ds = [.int m, .int n] ∧ ((-BIG ≤ m ∧ m ≤ BIG) ∧ -BIG ≤ n ∧ n ≤ BIG) ∧ Q ⟨(List.range (n - m).toNat).map fun (i : Nat) => D.int (m + i), []⟩ h1) : Rn (iRg2 as σ h) Q := rn_bind (rn_imp q fun d _ ⟨m, n, z, b, q⟩ => by
  subst z
  simp only [b, and_self, if_true]
  exact rn_ok q)
theorem ri_en {Q : Walked → Hd → Prop} (q : Rn (as σ h) fun ds h1 => ∃ d xs, ds = [d] ∧ seqOf h1 d = some xs ∧ Q ⟨(List.range xs.length).map fun (i : Nat) => D.tup [.int (i : Int), xs.getD i .non], chkOf h1 d⟩ h1) : Rn (iEn as σ h) Q := rn_bind (rn_imp q fun d _ ⟨x, xs, z, w, q⟩ => by
  subst z
  simp only [w]
  refine rn_ok ?_
  rw [enumFrom_map]
  simpa using q)
theorem ri_zip {Q : Walked → Hd → Prop} (q : Rn (as σ h) fun ds h1 => ∃ d e xs ys, ds = [d, e] ∧ seqOf h1 d = some xs ∧ seqOf h1 e = some ys ∧ xs.length = ys.length ∧ Q ⟨zipD xs ys, chkOf h1 d ++ chkOf h1 e⟩ h1) : Rn (iZip as σ h) Q := rn_bind (rn_imp q fun d _ ⟨x, y, xs, ys, z, w, w2, l, q⟩ => by
  subst z
  simp only [w, w2, l, if_true]
  exact rn_ok q)
/-- a turn's end -/
def Tn (I : Sg → Hd → Prop) (Q : Fl → Hd → Prop) : Fl → Hd → Prop := fun fl h => match fl with
  | .nx σ => I σ h
  | .ct σ => I σ h
  | .bk σ => Q (.nx σ) h
  | .rt d => Q (.rt d) h
theorem rn_for {α : Type} (key : α → D) (xs : List α) (I : Nat → Sg → Hd → Prop) {Q : Fl → Hd → Prop} (hchk : ∀ i σ h, I i σ h → okChk chk h) (i0 : I 0 σ h)
    (hs : ∀ i x σ h, xs[i]? = some x → I i σ h → Rn (gt (key x) σ h) fun σ1 h1 => Rn (s σ1 h1) (Tn (I (i + 1)) Q)) (hd : ∀ σ h, I xs.length σ h → Q (.nx σ) h) : Rn (forF gt s chk (xs.map key) σ h) Q := by
  have go : ∀ (rest : List α) (n : Nat) (σ : Sg) (h : Hd), xs.drop n = rest → n ≤ xs.length → I n σ h → Rn (forF gt s chk (rest.map key) σ h) Q := by
    intro rest
    induction rest with
    | nil =>
      intro n σ h e hn i
      have : n = xs.length := by
        have := congrArg List.length e
        simp at this
        omega
      subst this
      rw [List.map_nil]
      unfold forF
      rw [if_pos (hchk _ _ _ i)]
      exact rn_ok (hd _ _ i)
    | cons x rest ih =>
      intro n σ h e hn i
      have hx : xs[n]? = some x := by
        have := congrArg (·[0]?) e
        simpa using this
      have hn' : n < xs.length := (List.getElem?_eq_some_iff.mp hx).1
      have e' : xs.drop (n + 1) = rest := by
        have := congrArg (List.drop 1) e
        simpa using this
      rw [List.map_cons]
      unfold forF
      rw [if_pos (hchk _ _ _ i)]
      refine rn_bind (rn_imp (hs n x σ h hx i) fun σ1 h1 q => rn_bind (rn_imp q fun fl h2 q => ?_))
      cases fl with
      | nx σ2 => exact ih (n + 1) σ2 h2 e' hn' q
      | ct σ2 => exact ih (n + 1) σ2 h2 e' hn' q
      | bk σ2 => exact rn_ok q
      | rt d => exact rn_ok q
  exact go xs 0 σ h rfl (Nat.zero_le _) i0
/-- .. whose lists stand still -/
theorem rn_for0 {α : Type} (key : α → D) (xs : List α) (I : Nat → Sg → Hd → Prop) {Q : Fl → Hd → Prop} (i0 : I 0 σ h)
    (hs : ∀ i x σ h, xs[i]? = some x → I i σ h → Rn (gt (key x) σ h) fun σ1 h1 => Rn (s σ1 h1) (Tn (I (i + 1)) Q)) (hd : ∀ σ h, I xs.length σ h → Q (.nx σ) h) : Rn (forF gt s [] (xs.map key) σ h) Q :=
  rn_for key xs I (fun _ _ _ _ => okChk_nil _) i0 hs hd
variable {el : Sg → Hd → Res (List D)} {rf : Bool} {vs : List Nat}
theorem re_lc {Q : D → Hd → Prop} (q : Rn (it σ h) fun I h1 => Rn (lcF gt c el I.chk (wipe σ vs) I.items h1) fun ys h2 => Rn (lcEnd rf ys h2) Q) : Rn (eLc rf vs it gt c el σ h) Q := rn_bind (rn_bind (rn_imp q fun _ _ q => q))
theorem rl_in {Q : List D → Hd → Prop} (q : Rn (it σ h) fun I h1 => Rn (lcF gt c el I.chk (wipe σ vs) I.items h1) Q) : Rn (lcIn vs it gt c el σ h) Q := rn_bind q
theorem rl_end {ys : List D} {Q : D → Hd → Prop} (l : ys.length ≤ LIM) (q : Q (.lst ys) h) : Rn (lcEnd false ys h) Q := by
  unfold lcEnd; rw [if_pos l, if_neg (by decide)]; exact rn_ok q
theorem rl_endR {ys : List D} {Q : D → Hd → Prop} (l : ys.length ≤ LIM) (q : Q (.ref h.length) (h ++ [.lst ys])) : Rn (lcEnd true ys h) Q := by
  unfold lcEnd; rw [if_pos l, if_pos rfl]; exact rn_ok q
theorem rl_one {Q : List D → Hd → Prop} (q : Rn (e σ h) fun d h1 => Q [d] h1) : Rn (lcOne e σ h) Q := rn_bind (rn_imp q fun _ _ q => rn_ok q)
theorem rt_TT {Q : Bool → Hd → Prop} (q : Q true h) : Rn (tTT σ h) Q := rn_ok q
theorem rn_lc {α : Type} (key : α → D) (xs : List α) (I : Nat → List D → Hd → Prop) {Q : List D → Hd → Prop} (hchk : ∀ i ys h, I i ys h → okChk chk h) (i0 : I 0 [] h)
    (hs : ∀ i x ys h, xs[i]? = some x → I i ys h → Rn (gt (key x) σ h) fun σ1 h1 => Rn (c σ1 h1) fun b h2 => (b = true → Rn (el σ1 h2) fun zs h3 => I (i + 1) (ys ++ zs) h3) ∧ (b = false → I (i + 1) ys h2)) (hd : ∀ ys h, I xs.length ys h → Q ys h) : Rn (lcF gt c el chk σ (xs.map key) h) Q := by
  have go : ∀ (rest : List α) (n : Nat) (ys : List D) (h : Hd), xs.drop n = rest → n ≤ xs.length → I n ys h → Rn (lcF gt c el chk σ (rest.map key) h) fun zs h' => I xs.length (ys ++ zs) h' := by
    intro rest
    induction rest with
    | nil =>
      intro n ys h e hn i
      have : n = xs.length := by
        have := congrArg List.length e
        simp at this
        omega
      subst this
      rw [List.map_nil]
      unfold lcF
      rw [if_pos (hchk _ _ _ i)]
      exact rn_ok (by rw [List.append_nil]; exact i)
    | cons x rest ih =>
      intro n ys h e hn i
      have hx : xs[n]? = some x := by
        have := congrArg (·[0]?) e
        simpa using this
      have hn' : n < xs.length := (List.getElem?_eq_some_iff.mp hx).1
      have e' : xs.drop (n + 1) = rest := by
        have := congrArg (List.drop 1) e
        simpa using this
      rw [List.map_cons]
      unfold lcF
      rw [if_pos (hchk _ _ _ i)]
      refine rn_bind (rn_imp (hs n x ys h hx i) fun σ1 h1 q => rn_bind (rn_imp q fun b h2 q => ?_))
      cases b with
      | true =>
        rw [if_pos rfl]
        refine rn_bind (rn_imp (q.1 rfl) fun zs h3 q => rn_bind (rn_imp (ih (n + 1) (ys ++ zs) h3 e' hn' q) fun us h4 q => rn_ok ?_))
        rw [List.append_assoc] at q; exact q
      | false =>
        rw [if_neg (by decide)]
        exact ih (n + 1) ys h2 e' hn' (q.2 rfl)
  exact rn_imp (go xs 0 [] h rfl (Nat.zero_le _) i0) fun ys h q => hd _ _ (by rw [List.nil_append] at q; exact q)
/-- one item each, no test -/
theorem rn_lc1 {α : Type} (key : α → D) (xs : List α) (I : Nat → List D → Hd → Prop) {Q : List D → Hd → Prop} (i0 : I 0 [] h)
    (hs : ∀ i x ys h, xs[i]? = some x → I i ys h → Rn (gt (key x) σ h) fun σ1 h1 => Rn (e σ1 h1) fun d h3 => I (i + 1) (ys ++ [d]) h3) (hd : ∀ ys h, I xs.length ys h → Q ys h) : Rn (lcF gt tTT (lcOne e) [] σ (xs.map key) h) Q :=
  rn_lc key xs I (fun _ _ _ _ => okChk_nil _) i0 (fun i x ys h hx hi => rn_imp (hs i x ys h hx hi) fun σ1 h1 q => rt_TT ⟨fun _ => rl_one q, fun z => by cases z⟩) hd
theorem rf_fn {n m : Nat} {ds : List D} {Q : D → Hd → Prop} (hl : ds.length = n) (q : Rn (s (ds.map some ++ List.replicate (m - n) none) h) fun fl h1 => match fl with
    | .rt d => Rn (fin h d h1) Q
    | .nx _ => Rn (fin h .non h1) Q
    | _ => False) : Rn (fn n m s ds h) Q := by
  unfold fn
  rw [if_pos hl]
  refine rn_bind (rn_imp q fun fl h1 q => ?_)
  cases fl with
  | rt d => exact q
  | nx σ => exact q
  | _ => exact q.elim
theorem rn_fin0 {d : D} {Q : D → Hd → Prop} {r : Hd} (e : noRef h.length d = true) (q : Q d h) : Rn (fin h d (h ++ r)) Q := ⟨d, h, fin_app e, q⟩
theorem rn_fin {d : D} {Q : D → Hd → Prop} (e : noRef h.length d = true) (q : Q d h) : Rn (fin h d h) Q := ⟨d, h, fin_same e, q⟩
end
theorem st_0 : (["int"].any fun b => subTy "NoneType" b) = false := by decide
theorem st_1 : (["int"].any fun b => subTy "bool" b) = true := by decide
theorem st_2 : (["int"].any fun b => subTy "int" b) = true := by decide
theorem st_3 : (["int"].any fun b => subTy "str" b) = false := by decide
theorem st_4 : (["int"].any fun b => subTy "tuple" b) = false := by decide
theorem st_5 : (["int"].any fun b => subTy "list" b) = false := by decide
theorem st_6 : (["bool"].any fun b => subTy "NoneType" b) = false := by decide
theorem st_7 : (["bool"].any fun b => subTy "bool" b) = true := by decide
theorem st_8 : (["bool"].any fun b => subTy "int" b) = false := by decide
theorem st_9 : (["bool"].any fun b => subTy "str" b) = false := by decide
theorem st_10 : (["bool"].any fun b => subTy "tuple" b) = false := by decide
theorem st_11 : (["bool"].any fun b => subTy "list" b) = false := by decide
theorem st_12 : (["str"].any fun b => subTy "NoneType" b) = false := by decide
theorem st_13 : (["str"].any fun b => subTy "bool" b) = false := by decide
theorem st_14 : (["str"].any fun b => subTy "int" b) = false := by decide
theorem st_15 : (["str"].any fun b => subTy "str" b) = true := by decide
theorem st_16 : (["str"].any fun b => subTy "tuple" b) = false := by decide
theorem st_17 : (["str"].any fun b => subTy "list" b) = false := by decide
theorem st_18 : (["tuple"].any fun b => subTy "NoneType" b) = false := by decide
theorem st_19 : (["tuple"].any fun b => subTy "bool" b) = false := by decide
theorem st_20 : (["tuple"].any fun b => subTy "int" b) = false := by decide
theorem st_21 : (["tuple"].any fun b => subTy "str" b) = false := by decide
theorem st_22 : (["tuple"].any fun b => subTy "tuple" b) = true := by decide
theorem st_23 : (["tuple"].any fun b => subTy "list" b) = false := by decide
theorem st_24 : (["list"].any fun b => subTy "NoneType" b) = false := by decide
theorem st_25 : (["list"].any fun b => subTy "bool" b) = false := by decide
theorem st_26 : (["list"].any fun b => subTy "int" b) = false := by decide
theorem st_27 : (["list"].any fun b => subTy "str" b) = false := by decide
theorem st_28 : (["list"].any fun b => subTy "tuple" b) = false := by decide
theorem st_29 : (["list"].any fun b => subTy "list" b) = true := by decide
theorem st_30 : (["int", "str"].any fun b => subTy "NoneType" b) = false := by decide
theorem st_31 : (["int", "str"].any fun b => subTy "bool" b) = true := by decide
theorem st_32 : (["int", "str"].any fun b => subTy "int" b) = true := by decide
theorem st_33 : (["int", "str"].any fun b => subTy "str" b) = true := by decide
theorem st_34 : (["int", "str"].any fun b => subTy "tuple" b) = false := by decide
theorem st_35 : (["int", "str"].any fun b => subTy "list" b) = false := by decide
def Pen (c : List Int) (r : Hd) (h : Hd) (N : Int) : Prop := ∃ t a, h = hp c t a r ∧ 0 ≤ t ∧ t ≤ N
section
variable {c : List Int} {r h h' : Hd} {N N' : Int} {Q : D → Hd → Prop}
theorem Pen.mono (p : Pen c r h N) (l : N ≤ N') : Pen c r h N' := by
  obtain ⟨t, a, e, b1, b2⟩ := p
  exact ⟨t, a, e, b1, by omega⟩
theorem Pen.len (p : Pen c r h N) : h.length = r.length + 2 := by
  obtain ⟨t, a, rfl, b1, b2⟩ := p
  rfl
theorem Pen.new (p : Pen c r h N) (o : Ob) : Pen c (r ++ [o]) (h ++ [o]) N := by
  obtain ⟨t, a, rfl, b1, b2⟩ := p
  exact ⟨t, a, rfl, b1, b2⟩
theorem Pen.get {o : Ob} {s : Hd} (p : Pen c (r ++ o :: s) h N) : h[r.length + 2]? = some o := by
  obtain ⟨t, a, rfl, b1, b2⟩ := p
  exact hp_get ..
theorem Pen.set {o : Ob} {s : Hd} (p : Pen c (r ++ o :: s) h N) (o' : Ob) : Pen c (r ++ o' :: s) (h.set (r.length + 2) o') N := by
  obtain ⟨t, a, rfl, b1, b2⟩ := p
  exact ⟨t, a, hp_set .., b1, b2⟩
theorem rn_finP {s : Hd} {d : D} (p : Pen c r h N) (p' : Pen c (r ++ s) h' N') (e : noRef (r.length + 2) d = true) (q : ∀ h', Pen c r h' N' → Q d h') : Rn (fin h d h') Q := by
  obtain ⟨t, a, rfl, b1, b2⟩ := p
  obtain ⟨t', a', rfl, b3, b4⟩ := p'
  exact ⟨d, _, fin_pen e, q _ ⟨_, _, rfl, b3, b4⟩⟩
theorem rn_take {m : Int} (p : Pen c r h N) (hN : N ≤ TM) (hm : 1 ≤ m) (hm2 : m ≤ 10 ^ 40) (q : ∀ x h', 0 ≤ x → x < m → Pen c r h' (N + 1) → Q (.int x) h') : Rn (f_law_take [.ref 1, .int m] h) Q := by
  obtain ⟨t, a, rfl, b1, b2⟩ := p
  obtain ⟨x, t', a', e, c1, c2, c3, c4⟩ := take_eq c t a m r b1 (by omega) hm hm2
  exact ⟨_, _, e, q x _ c1 c2 ⟨t', a', rfl, by omega, by omega⟩⟩
section
variable {i j : Int} {a b : Bool}
theorem rg_add (q : Q (.int (i + j)) h) : Rn (gAdd [.int i, .int j] h) Q := ⟨_, _, rfl, q⟩
theorem rg_sbt (q : Q (.int (i - j)) h) : Rn (gSubt [.int i, .int j] h) Q := ⟨_, _, rfl, q⟩
theorem rg_iadd (q : Q (.int (i + j)) h) : Rn (gIadd [.int i, .int j] h) Q := ⟨_, _, rfl, q⟩
theorem rg_isub (q : Q (.int (i - j)) h) : Rn (gIsub [.int i, .int j] h) Q := ⟨_, _, rfl, q⟩
theorem rg_neg (q : Q (.int (-i)) h) : Rn (gNeg [.int i] h) Q := ⟨_, _, rfl, q⟩
theorem rg_lt (q : Q (.bl (decide (i < j))) h) : Rn (gLt [.int i, .int j] h) Q := ⟨_, _, rfl, q⟩
theorem rg_le (q : Q (.bl (decide (i ≤ j))) h) : Rn (gLe [.int i, .int j] h) Q := ⟨_, _, rfl, q⟩
theorem rg_gt (q : Q (.bl (decide (j < i))) h) : Rn (gGt [.int i, .int j] h) Q := ⟨_, _, rfl, q⟩
theorem rg_ge (q : Q (.bl (decide (j ≤ i))) h) : Rn (gGe [.int i, .int j] h) Q := ⟨_, _, rfl, q⟩
theorem rg_isb (q : Q (.bl (decide (a = b))) h) : Rn (gIs [.bl a, .bl b] h) Q := ⟨_, _, rfl, q⟩
theorem rg_isnb (q : Q (.bl (!decide (a = b))) h) : Rn (gIsn [.bl a, .bl b] h) Q := ⟨_, _, rfl, q⟩
theorem rg_eqI (q : Q (.bl (decide (i = j))) h) : Rn (gEq [.int i, .int j] h) Q := ⟨_, _, gEq_int i j h, q⟩
theorem rg_neI (q : Q (.bl (!decide (i = j))) h) : Rn (gNe [.int i, .int j] h) Q := ⟨_, _, gNe_int i j h, q⟩
theorem rg_eqR {x y : List Int} (q : Q (.bl (decide (x = y))) h) : Rn (gEq [dI x, dI y] h) Q := ⟨_, _, gEq_dI x y h, q⟩
theorem rg_lenW {m : List (List Int)} (q : Q (.int m.length) h) : Rn (gLen [dW m] h) Q := ⟨_, _, gLen_dW m h, q⟩
theorem rg_lenI {x : List Int} (q : Q (.int x.length) h) : Rn (gLen [dI x] h) Q := ⟨.int x.length, h, by simp [gLen, dI], q⟩
theorem rg_lenT {x : List D} (q : Q (.int x.length) h) : Rn (gLen [.tup x] h) Q := ⟨.int x.length, h, by simp [gLen], q⟩
theorem rg_lenL {x : List D} (q : Q (.int x.length) h) : Rn (gLen [.lst x] h) Q := ⟨.int x.length, h, by simp [gLen], q⟩
theorem rg_sumI {x : List Int} (q : Q (.int x.sum) h) : Rn (gSum [dI x] h) Q := ⟨_, _, gSum_dI x h, q⟩
theorem rg_sumL {x : List Int} (q : Q (.int x.sum) h) : Rn (gSum [.lst (x.map D.int)] h) Q := ⟨_, _, gSum_lst x h, q⟩
theorem rg_intI (q : Q (.int i) h) : Rn (gInt [.int i] h) Q := ⟨_, _, rfl, q⟩
theorem rg_intB (q : Q (.int (if a then 1 else 0)) h) : Rn (gInt [.bl a] h) Q := ⟨_, _, rfl, q⟩
theorem rg_tupL {x : List D} (q : Q (.tup x) h) : Rn (gTuple [.lst x] h) Q := ⟨_, _, rfl, q⟩
theorem rg_ixI {x : List Int} {k : Nat} (hk : k < x.length) (q : Q (.int (x.getD k 0)) h) : Rn (gIx [dI x, .int (k : Int)] h) Q := ⟨_, _, gIx_dI hk h, q⟩
theorem rg_ixW {m : List (List Int)} {k : Nat} (hk : k < m.length) (q : Q (dI (m.getD k [])) h) : Rn (gIx [dW m, .int (k : Int)] h) Q := ⟨_, _, gIx_dW hk h, q⟩
end
end
end BR

namespace BR
open PySem
end BR

namespace BR
open PySem
end BR

namespace BR
open PySem
/-- numbers of places as ints -/
def nI (l : List Nat) : List Int := l.map fun (i : Nat) => (i : Int)
theorem ord_nI {n : Nat} {o : List Int} (h : IsOrd n o) : ∃ l : List Nat, o = nI l ∧ l.Nodup ∧ (∀ x, x ∈ l ↔ x < n) ∧ l.length = n := by
  have hp : (o.map Int.toNat).Perm (List.range n) := by
    have := h.map Int.toNat
    rw [List.map_map] at this
    have e : ((List.range n).map (Int.toNat ∘ fun (i : Nat) => (i : Int))) = List.range n := by
      conv => rhs; rw [← List.map_id (List.range n)]
      apply List.map_congr_left
      intro i _
      simp
    rw [e] at this
    exact this
  refine ⟨o.map Int.toNat, ?_, hp.nodup_iff.mpr List.nodup_range, fun x => by rw [hp.mem_iff, List.mem_range], by rw [List.length_map, h.len]⟩
  unfold nI
  rw [List.map_map]
  conv => lhs; rw [← List.map_id o]
  apply List.map_congr_left
  intro x hx
  obtain ⟨i, _, e⟩ := List.mem_map.mp (h.mem_iff.mp hx)
  show x = ((x.toNat : Nat) : Int)
  omega
end BR

namespace BR
open PySem
end BR

namespace BR
open PySem
local macro_rules
  | `(tactic| and_intros) => `(tactic| repeat (first | (with_reducible refine rs_seq ?_) | (with_reducible refine rs_asg ?_) | (with_reducible refine re_apK ?_) | (with_reducible refine re_ap ?_) | (with_reducible refine ra_cons ?_) | (with_reducible refine ra_nil ?_) | (with_reducible refine re_c ?_) | (with_reducible refine re_ap2 ?_) | (with_reducible refine re_ap1 ?_) | (with_reducible refine rg_var ?_) | (with_reducible refine rk_nx ?_) | (with_reducible refine rk_N ?_) | (with_reducible refine rs_if ?_) | (with_reducible refine rt_B ?_) | (with_reducible refine rs_ex ?_) | (with_reducible refine rs_ret ?_) | (with_reducible refine rt_not ?_) | (with_reducible refine re_T ?_) | (with_reducible refine rk_rt ?_) | (with_reducible refine re_mt ?_) | (with_reducible refine re_mx ?_) | (with_reducible refine re_sl ?_) | (with_reducible refine ro_no ?_) | (with_reducible refine ro_p ?_) | (with_reducible refine rg_add ?_) | (with_reducible refine rg_sbt ?_) | (with_reducible refine rg_iadd ?_) | (with_reducible refine rg_isub ?_) | (with_reducible refine rg_neg ?_) | (with_reducible refine rg_lt ?_) | (with_reducible refine rg_le ?_) | (with_reducible refine rg_gt ?_) | (with_reducible refine rg_ge ?_) | (with_reducible refine rg_isb ?_) | (with_reducible refine rg_isnb ?_) | (with_reducible refine rg_eqI ?_) | (with_reducible refine rg_neI ?_) | (with_reducible refine rg_eqR ?_) | (with_reducible refine rg_lenW ?_) | (with_reducible refine rg_lenI ?_) | (with_reducible refine rg_lenT ?_) | (with_reducible refine rg_lenL ?_) | (with_reducible refine rg_sumI ?_) | (with_reducible refine rg_sumL ?_) | (with_reducible refine rg_intI ?_) | (with_reducible refine rg_intB ?_) | (with_reducible refine rg_tupL ?_) | (with_reducible refine rs_nop ?_) | (with_reducible refine re_tup ?_) | (with_reducible refine re_lst ?_) | (with_reducible refine re_lstR ?_) | (with_reducible refine al0 ?_) | (with_reducible refine al1 ?_) | (with_reducible refine al2 ?_) | (with_reducible refine al3 ?_) | (with_reducible refine al4 ?_) | (with_reducible refine al5 ?_) | (with_reducible refine al6 ?_) | (with_reducible refine re_and ?_) | (with_reducible refine re_or ?_) | (with_reducible refine re_not ?_) | (with_reducible refine re_ch ?_) | (with_reducible refine re_if ?_) | (with_reducible refine rt_and ?_) | (with_reducible refine rt_or ?_) | (with_reducible refine rt_TT ?_) | (with_reducible refine rs_for ?_) | (with_reducible refine ri_val ?_) | (with_reducible refine ri_rg1 ?_) | (with_reducible refine ri_rg2 ?_) | (with_reducible refine ri_en ?_) | (with_reducible refine ri_zip ?_) | (with_reducible refine re_is ?_) | (with_reducible refine rt_B ?_) | (with_reducible refine re_lc ?_) | (with_reducible refine rl_in ?_) | (with_reducible refine rl_one ?_) | (with_reducible refine rs_par2 ?_) | (with_reducible refine rs_par3 ?_) | (with_reducible refine rg_tup ?_) | (with_reducible refine rg_all ?_) | (with_reducible refine rg_all_nil ?_) | (with_reducible refine rg_sub ?_) | (with_reducible refine rs_augS ?_) | (with_reducible refine re_var ?_; refine ⟨_, rfl, ?_⟩) | (with_reducible refine rs_aug ?_; refine ⟨_, rfl, ?_⟩) | refine ⟨_, rfl, ?_⟩ | with_reducible refine ⟨_, _, rfl, ?_⟩ | with_reducible refine ⟨_, _, _, rfl, ?_⟩ | refine ⟨⟨rfl, rfl⟩, ?_⟩ | refine ⟨by unfold BIG; omega, ?_⟩))
theorem noRef_go (n : Nat) : ∀ xs : List D, noRef.go n xs = xs.all (noRef n)
  | [] => rfl
  | x :: xs => by
    show (noRef n x && noRef.go n xs) = _
    rw [noRef_go n xs, List.all_cons]
/-- the list so far -/
def FO (h : Hd) (n0 : Nat) (F : D) (os : List (List Int)) : Prop := F = .lst (os.map dI) ∨ ∃ p, F = .ref p ∧ n0 ≤ p ∧ h[p]? = some (.lst (os.map dI))
theorem FO.seq {h : Hd} {n0 : Nat} {F : D} {os : List (List Int)} (f : FO h n0 F os) (o : Ob) : seqOf (h ++ [o]) F = some (os.map dI) ∧ ∀ o' : Ob, okChk (chkOf (h ++ [o]) F) (h ++ [o']) := by
  rcases f with rfl | ⟨p, rfl, hp, e⟩
  · exact ⟨rfl, fun o' q hq => nomatch hq⟩
  · have hl : p < h.length := (List.getElem?_eq_some_iff.mp e).1
    have e1 : ∀ o : Ob, (h ++ [o])[p]? = some (.lst (os.map dI)) := fun o => by rw [List.getElem?_append_left hl, e]
    refine ⟨by simp only [seqOf, e1], fun o' q hq => ?_⟩
    simp only [chkOf, e1, List.mem_singleton] at hq
    subst hq
    exact e1 o'
end BR

namespace BR
open PySem
/-- plain data of no more than so many layers -/
inductive Dat : Nat → D → Prop
  | non {k : Nat} : Dat k .non
  | bl {k : Nat} (b : Bool) : Dat k (.bl b)
  | int {k : Nat} (i : Int) : Dat k (.int i)
  | str {k : Nat} (x : Str) (ok : PyData.canLay0 (.str x) = true := by decide +kernel) : Dat k (.str x)
  | tup {k : Nat} {xs : List D} : xs.length ≤ 10000 → (∀ x ∈ xs, Dat k x) → Dat (k + 1) (.tup xs)
  | lst {k : Nat} {xs : List D} : xs.length ≤ 10000 → (∀ x ∈ xs, Dat k x) → Dat (k + 1) (.lst xs)
theorem Dat.up {k : Nat} {d : D} (h : Dat k d) : Dat (k + 1) d := by
  induction h with
  | non => exact .non
  | bl b => exact .bl b
  | int i => exact .int i
  | str x ok => exact .str x ok
  | tup l _ ih => exact .tup l ih
  | lst l _ ih => exact .lst l ih
theorem Dat.le {j k : Nat} {d : D} (h : Dat j d) (l : j ≤ k) : Dat k d := by
  obtain ⟨m, rfl⟩ := Nat.exists_eq_add_of_le l
  induction m with
  | zero => exact h
  | succ m ih => exact (ih (by omega)).up
theorem gEq_bl (a b : Bool) (h : Hd) : gEq [.bl a, .bl b] h = .ok (.bl (decide (a = b))) h := by
  cases a <;> cases b <;> simp [gEq, eqD, strOf, toPyR, toPy, SeqAt.shaped, PyData.canLay0, PyData.depth, PyData.eqv]
theorem gNe_bl (a b : Bool) (h : Hd) : gNe [.bl a, .bl b] h = .ok (.bl (!decide (a = b))) h := by
  cases a <;> cases b <;> simp [gNe, eqD, strOf, toPyR, toPy, SeqAt.shaped, PyData.canLay0, PyData.depth, PyData.eqv]
theorem gEq_str (a b : Str) (h : Hd) : gEq [.str a, .str b] h = .ok (.bl (decide (a = b))) h := rfl
theorem same_leaf (F : EF) (d : D) (f : flatD d = true) (h : Hd) : f_law_same_B F [d, d] h = .ok (.bl true) h := by
  cases d with
  | non => simp [f_law_same_B, fn, fnK, gIsN, gNotN, isNon, sNop, sSeq, sEx, sRet, sIf, sBrk, sCnt, sAsg, gVar, gAll, gTup, gSub, sAug, sAugS, sPar2, sPar3, eVar, eC, aNil, aCons, eAp, eAp1_eq, eAp2_eq, tB, tAnd, tOr, tNot, tTT, eT, eIf, eAnd, eOr, eNot, eCh, oNo, oP, eSl, eMtL, eTup_eq, eLst_eq, eLstR_eq, Res.bind_ok, Res.bind_bad, Res.bind_exc, List.map_cons, List.map_nil, List.length_cons, List.length_nil, List.replicate, List.cons_append, List.nil_append, List.getElem?_cons_zero, List.getElem?_cons_succ, List.set_cons_zero, List.set_cons_succ, if_true, if_false, Nat.reduceAdd, Nat.reduceSub, Nat.reduceEqDiff, reduceIte, Bool.false_eq_true, fin_bl]
  | bl b => simp [f_law_same_B, fn, fnK, gIsN, gNotN, isNon, sNop, sSeq, sEx, sRet, sIf, sBrk, sCnt, sAsg, gVar, gAll, gTup, gSub, sAug, sAugS, sPar2, sPar3, eVar, eC, aNil, aCons, eAp, eAp1_eq, eAp2_eq, tB, tAnd, tOr, tNot, tTT, eT, eIf, eAnd, eOr, eNot, eCh, oNo, oP, eSl, eMtL, eTup_eq, eLst_eq, eLstR_eq, Res.bind_ok, Res.bind_bad, Res.bind_exc, List.map_cons, List.map_nil, List.length_cons, List.length_nil, List.replicate, List.cons_append, List.nil_append, List.getElem?_cons_zero, List.getElem?_cons_succ, List.set_cons_zero, List.set_cons_succ, if_true, if_false, Nat.reduceAdd, Nat.reduceSub, Nat.reduceEqDiff, reduceIte, Bool.false_eq_true, eIs, tyOf, subTy, gEq_bl, fin_bl]
  | int i => simp [f_law_same_B, fn, fnK, gIsN, gNotN, isNon, sNop, sSeq, sEx, sRet, sIf, sBrk, sCnt, sAsg, gVar, gAll, gTup, gSub, sAug, sAugS, sPar2, sPar3, eVar, eC, aNil, aCons, eAp, eAp1_eq, eAp2_eq, tB, tAnd, tOr, tNot, tTT, eT, eIf, eAnd, eOr, eNot, eCh, oNo, oP, eSl, eMtL, eTup_eq, eLst_eq, eLstR_eq, Res.bind_ok, Res.bind_bad, Res.bind_exc, List.map_cons, List.map_nil, List.length_cons, List.length_nil, List.replicate, List.cons_append, List.nil_append, List.getElem?_cons_zero, List.getElem?_cons_succ, List.set_cons_zero, List.set_cons_succ, if_true, if_false, Nat.reduceAdd, Nat.reduceSub, Nat.reduceEqDiff, reduceIte, Bool.false_eq_true, eIs, tyOf, subTy, gEq_int, gNe_bl, fin_bl]
  | str x => simp [f_law_same_B, fn, fnK, gIsN, gNotN, isNon, sNop, sSeq, sEx, sRet, sIf, sBrk, sCnt, sAsg, gVar, gAll, gTup, gSub, sAug, sAugS, sPar2, sPar3, eVar, eC, aNil, aCons, eAp, eAp1_eq, eAp2_eq, tB, tAnd, tOr, tNot, tTT, eT, eIf, eAnd, eOr, eNot, eCh, oNo, oP, eSl, eMtL, eTup_eq, eLst_eq, eLstR_eq, Res.bind_ok, Res.bind_bad, Res.bind_exc, List.map_cons, List.map_nil, List.length_cons, List.length_nil, List.replicate, List.cons_append, List.nil_append, List.getElem?_cons_zero, List.getElem?_cons_succ, List.set_cons_zero, List.set_cons_succ, if_true, if_false, Nat.reduceAdd, Nat.reduceSub, Nat.reduceEqDiff, reduceIte, Bool.false_eq_true, eIs, tyOf, subTy, gEq_str, gNe_bl, fin_bl]
  | _ => cases f
theorem zip_self (xs : List D) : zipD xs xs = xs.map fun x => D.tup [x, x] := by
  induction xs with
  | nil => rfl
  | cons x xs ih => simp [zipD, ih]
theorem inF_no (n : Nat) (h : Hd) : inF true [.bl false, .lst (List.replicate n (.bl true))] h = .ok (.bl true) h := by
  have h1 : (List.replicate n (D.bl true)).all flatD = true := by
    rw [List.all_eq_true]
    intro x hx
    rw [List.eq_of_mem_replicate hx]; rfl
  have h2 : ((List.replicate n (D.bl true)).any fun y => eqF y (.bl false)) = false := by
    rw [List.any_eq_false]
    intro x hx
    rw [List.eq_of_mem_replicate hx]
    decide
  unfold inF
  simp only [seqOf, h1, h2, flatD, Bool.and_self, if_true, Bool.not_false]
theorem map_const {α β : Type} (c : β) : ∀ xs : List α, (xs.map fun _ => c) = List.replicate xs.length c
  | [] => rfl
  | x :: xs => by rw [List.map_cons, map_const c xs]; rfl
theorem same_self : ∀ {k : Nat} {d : D}, Dat k d → ∀ (n : Nat), k < n → ∀ h : Hd, f_law_same_F n [d, d] h = .ok (.bl true) h
  | _, .non, _, n + 1, _, h => same_leaf _ _ rfl h
  | _, .bl b, _, n + 1, _, h => same_leaf _ _ rfl h
  | _, .int b, _, n + 1, _, h => same_leaf _ _ rfl h
  | _, .str b, _, n + 1, _, h => same_leaf _ _ rfl h
  | k + 1, .tup xs, dt, n + 1, hn, h => by
    obtain ⟨hl, hx⟩ : xs.length ≤ 10000 ∧ ∀ x ∈ xs, Dat k x := by cases dt with | tup a b => exact ⟨a, b⟩
    have e1 : ∀ h, eLc false [2, 3] (iZipN (aCons (eVar 0) (aCons (eVar 1) aNil))) (gTup [(gVar 2), (gVar 3)]) tTT (lcOne (eAp (f_law_same_F n) (aCons (eVar 2) (aCons (eVar 3) aNil)))) [some (.tup xs), some (.tup xs), none, none] h = .ok (.lst (List.replicate xs.length (.bl true))) h := fun h => by
      simp only [eLc, lcIn, iZipN, seqOf, chkOf, wipe, fn, fnK, gIsN, gNotN, isNon, sNop, sSeq, sEx, sRet, sIf, sBrk, sCnt, sAsg, gVar, gAll, gTup, gSub, sAug, sAugS, sPar2, sPar3, eVar, eC, aNil, aCons, eAp, eAp1_eq, eAp2_eq, tB, tAnd, tOr, tNot, tTT, eT, eIf, eAnd, eOr, eNot, eCh, oNo, oP, eSl, eMtL, eTup_eq, eLst_eq, eLstR_eq, Res.bind_ok, Res.bind_bad, Res.bind_exc, List.map_cons, List.map_nil, List.length_cons, List.length_nil, List.replicate, List.cons_append, List.nil_append, List.getElem?_cons_zero, List.getElem?_cons_succ, List.set_cons_zero, List.set_cons_succ, if_true, if_false, Nat.reduceAdd, Nat.reduceSub, Nat.reduceEqDiff, reduceIte, Bool.false_eq_true, zip_self]
      rw [lcF_one (fun x => D.tup [x, x]) (fun _ => .bl true) xs fun x hx' => ⟨_, rfl, rfl, by simp only [fn, fnK, gIsN, gNotN, isNon, sNop, sSeq, sEx, sRet, sIf, sBrk, sCnt, sAsg, gVar, gAll, gTup, gSub, sAug, sAugS, sPar2, sPar3, eVar, eC, aNil, aCons, eAp, eAp1_eq, eAp2_eq, tB, tAnd, tOr, tNot, tTT, eT, eIf, eAnd, eOr, eNot, eCh, oNo, oP, eSl, eMtL, eTup_eq, eLst_eq, eLstR_eq, Res.bind_ok, Res.bind_bad, Res.bind_exc, List.map_cons, List.map_nil, List.length_cons, List.length_nil, List.replicate, List.cons_append, List.nil_append, List.getElem?_cons_zero, List.getElem?_cons_succ, List.set_cons_zero, List.set_cons_succ, if_true, if_false, Nat.reduceAdd, Nat.reduceSub, Nat.reduceEqDiff, reduceIte, Bool.false_eq_true, same_self (hx x hx') n (by omega)]⟩]
      have : xs.length ≤ LIM := by unfold LIM; omega
      simp only [Res.bind_ok, lcEnd, List.length_map, List.length_replicate, this, if_true, Bool.false_eq_true, if_false, map_const]
    show f_law_same_B (f_law_same_F n) _ h = _
    unfold f_law_same_B
    simp [fn, fnK, gIsN, gNotN, isNon, sNop, sSeq, sEx, sRet, sIf, sBrk, sCnt, sAsg, gVar, gAll, gTup, gSub, sAug, sAugS, sPar2, sPar3, eVar, eC, aNil, aCons, eAp, eAp1_eq, eAp2_eq, tB, tAnd, tOr, tNot, tTT, eT, eIf, eAnd, eOr, eNot, eCh, oNo, oP, eSl, eMtL, eTup_eq, eLst_eq, eLstR_eq, Res.bind_ok, Res.bind_bad, Res.bind_exc, List.map_cons, List.map_nil, List.length_cons, List.length_nil, List.replicate, List.cons_append, List.nil_append, List.getElem?_cons_zero, List.getElem?_cons_succ, List.set_cons_zero, List.set_cons_succ, if_true, if_false, Nat.reduceAdd, Nat.reduceSub, Nat.reduceEqDiff, reduceIte, Bool.false_eq_true, eIs, tyOf, subTy, gNe_bl, gLen, gNe_int, e1, inF_no, fin_bl]
  | k + 1, .lst xs, dt, n + 1, hn, h => by
    obtain ⟨hl, hx⟩ : xs.length ≤ 10000 ∧ ∀ x ∈ xs, Dat k x := by cases dt with | lst a b => exact ⟨a, b⟩
    have e1 : ∀ h, eLc false [2, 3] (iZipN (aCons (eVar 0) (aCons (eVar 1) aNil))) (gTup [(gVar 2), (gVar 3)]) tTT (lcOne (eAp (f_law_same_F n) (aCons (eVar 2) (aCons (eVar 3) aNil)))) [some (.lst xs), some (.lst xs), none, none] h = .ok (.lst (List.replicate xs.length (.bl true))) h := fun h => by
      simp only [eLc, lcIn, iZipN, seqOf, chkOf, wipe, fn, fnK, gIsN, gNotN, isNon, sNop, sSeq, sEx, sRet, sIf, sBrk, sCnt, sAsg, gVar, gAll, gTup, gSub, sAug, sAugS, sPar2, sPar3, eVar, eC, aNil, aCons, eAp, eAp1_eq, eAp2_eq, tB, tAnd, tOr, tNot, tTT, eT, eIf, eAnd, eOr, eNot, eCh, oNo, oP, eSl, eMtL, eTup_eq, eLst_eq, eLstR_eq, Res.bind_ok, Res.bind_bad, Res.bind_exc, List.map_cons, List.map_nil, List.length_cons, List.length_nil, List.replicate, List.cons_append, List.nil_append, List.getElem?_cons_zero, List.getElem?_cons_succ, List.set_cons_zero, List.set_cons_succ, if_true, if_false, Nat.reduceAdd, Nat.reduceSub, Nat.reduceEqDiff, reduceIte, Bool.false_eq_true, zip_self]
      rw [lcF_one (fun x => D.tup [x, x]) (fun _ => .bl true) xs fun x hx' => ⟨_, rfl, rfl, by simp only [fn, fnK, gIsN, gNotN, isNon, sNop, sSeq, sEx, sRet, sIf, sBrk, sCnt, sAsg, gVar, gAll, gTup, gSub, sAug, sAugS, sPar2, sPar3, eVar, eC, aNil, aCons, eAp, eAp1_eq, eAp2_eq, tB, tAnd, tOr, tNot, tTT, eT, eIf, eAnd, eOr, eNot, eCh, oNo, oP, eSl, eMtL, eTup_eq, eLst_eq, eLstR_eq, Res.bind_ok, Res.bind_bad, Res.bind_exc, List.map_cons, List.map_nil, List.length_cons, List.length_nil, List.replicate, List.cons_append, List.nil_append, List.getElem?_cons_zero, List.getElem?_cons_succ, List.set_cons_zero, List.set_cons_succ, if_true, if_false, Nat.reduceAdd, Nat.reduceSub, Nat.reduceEqDiff, reduceIte, Bool.false_eq_true, same_self (hx x hx') n (by omega)]⟩]
      have : xs.length ≤ LIM := by unfold LIM; omega
      simp only [Res.bind_ok, lcEnd, List.length_map, List.length_replicate, this, if_true, Bool.false_eq_true, if_false, map_const]
    show f_law_same_B (f_law_same_F n) _ h = _
    unfold f_law_same_B
    simp [fn, fnK, gIsN, gNotN, isNon, sNop, sSeq, sEx, sRet, sIf, sBrk, sCnt, sAsg, gVar, gAll, gTup, gSub, sAug, sAugS, sPar2, sPar3, eVar, eC, aNil, aCons, eAp, eAp1_eq, eAp2_eq, tB, tAnd, tOr, tNot, tTT, eT, eIf, eAnd, eOr, eNot, eCh, oNo, oP, eSl, eMtL, eTup_eq, eLst_eq, eLstR_eq, Res.bind_ok, Res.bind_bad, Res.bind_exc, List.map_cons, List.map_nil, List.length_cons, List.length_nil, List.replicate, List.cons_append, List.nil_append, List.getElem?_cons_zero, List.getElem?_cons_succ, List.set_cons_zero, List.set_cons_succ, if_true, if_false, Nat.reduceAdd, Nat.reduceSub, Nat.reduceEqDiff, reduceIte, Bool.false_eq_true, eIs, tyOf, subTy, gNe_bl, gLen, gNe_int, e1, inF_no, fin_bl]
theorem rn_same {d : D} {h : Hd} {Q : D → Hd → Prop} (dt : Dat 5 d) (q : Q (.bl true) h) : Rn (f_law_same [d, d] h) Q := ⟨_, _, same_self dt 6 (by decide) h, q⟩
theorem dat_dI {x : List Int} (l : x.length ≤ 10000) : Dat 1 (dI x) := .tup (by simpa using l) fun d hd => by
  obtain ⟨i, _, rfl⟩ := List.mem_map.mp hd
  exact .int i
theorem dat_dW {m : List (List Int)} (hm : IsWeb m) : Dat 2 (dW m) := .tup (by rw [List.length_map]; have := hm.n10; omega) fun d hd => by
  obtain ⟨r, hr, rfl⟩ := List.mem_map.mp hd
  exact dat_dI (by rw [(hm.row r hr).1]; have := hm.n10; omega)
/-- data that is shown as some text -/
def Shw (d : D) (n k : Nat) : Prop := ∃ p, (∀ h, toPy h d = some p) ∧ p.showable = true ∧ p.hasDict = false ∧ p.leavesShort 120 = true ∧ p.bulk ≤ n ∧ p.depth ≤ k
theorem Shw.le {d : D} {n k n' k' : Nat} (s : Shw d n k) (a : n ≤ n') (b : k ≤ k') : Shw d n' k' := by
  obtain ⟨p, h1, h2, h3, h4, h5, h6⟩ := s
  exact ⟨p, h1, h2, h3, h4, by omega, by omega⟩
theorem shw_int {i : Int} (b : i.natAbs < 10 ^ 110) (n k : Nat) : Shw (.int i) n k := by
  refine ⟨.int i, fun _ => rfl, ?_, rfl, ?_, Nat.zero_le _, Nat.zero_le _⟩
  · have : i.natAbs.log2 < 1920 := by
      by_cases z : i.natAbs = 0
      · rw [z]; decide
      · exact (Nat.log2_lt z).mpr (Nat.lt_of_lt_of_le b (by decide))
    simpa [PyData.showable] using this
  · have e := int_text_length_le10 (k := 110) (by decide) b
    have : (PyData.shown (.int i)).length ≤ 111 := by
      show (Str.ofString (toString i)).length ≤ 111
      rw [ofString_length]; exact e
    simpa [PyData.leavesShort] using (show (PyData.shown (.int i)).length ≤ 120 by omega)
theorem shw_non (n k : Nat) : Shw .non n k := ⟨.none, fun _ => rfl, rfl, rfl, rfl, Nat.zero_le _, Nat.zero_le _⟩
theorem shw_bl (b : Bool) (n k : Nat) : Shw (.bl b) n k := ⟨.bool b, fun _ => rfl, rfl, rfl, rfl, Nat.zero_le _, Nat.zero_le _⟩
theorem shw_str {x : Str} (ok : (x.cps.toList.all fun c => decide (c < 16 ^ 8)) = true) (n k : Nat) (l : x.cps.size ≤ n) : Shw (.str x) n k := ⟨.str x, fun _ => rfl, rfl, rfl, by simpa [PyData.leavesShort] using ok, l, Nat.zero_le _⟩
theorem shws (n k : Nat) : ∀ xs : List D, (∀ x ∈ xs, Shw x n k) → ∃ ps : List PyData, (∀ h, toPys h xs = some ps) ∧ PyData.showableAll ps = true ∧ PyData.hasDictAll ps = false ∧ PyData.leavesShortAll 120 ps = true ∧ PyData.bulkAll ps ≤ xs.length * (n + 1) ∧ PyData.depthAll ps ≤ k
  | [], _ => ⟨[], fun _ => rfl, rfl, rfl, rfl, by simp [PyData.bulkAll], by simp [PyData.depthAll]⟩
  | x :: xs, hx => by
    obtain ⟨p, h1, h2, h3, h4, h5, h6⟩ := hx x List.mem_cons_self
    obtain ⟨ps, g1, g2, g3, g4, g5, g6⟩ := shws n k xs fun y hy => hx y (List.mem_cons_of_mem _ hy)
    refine ⟨p :: ps, fun h => ?_, ?_, ?_, ?_, ?_, ?_⟩
    · unfold toPys; rw [h1, g1]
    · simp [PyData.showableAll, h2, g2]
    · simp [PyData.hasDictAll, h3, g3]
    · simp [PyData.leavesShortAll, h4, g4]
    · simp only [PyData.bulkAll, List.length_cons, Nat.add_mul, Nat.one_mul]; omega
    · simp only [PyData.depthAll]; omega
theorem shw_tup {xs : List D} {n k m : Nat} (hx : ∀ x ∈ xs, Shw x n k) (l : xs.length * (n + 1) ≤ m) : Shw (.tup xs) m (k + 1) := by
  obtain ⟨ps, g1, g2, g3, g4, g5, g6⟩ := shws n k xs hx
  refine ⟨.tuple ps, fun h => ?_, ?_, ?_, ?_, ?_, ?_⟩
  · show (toPys h xs).map PyData.tuple = _
    rw [g1]; rfl
  · simpa [PyData.showable] using g2
  · simpa [PyData.hasDict] using g3
  · simpa [PyData.leavesShort] using g4
  · simp only [PyData.bulk]; omega
  · simp only [PyData.depth]; omega
theorem shw_lst {xs : List D} {n k m : Nat} (hx : ∀ x ∈ xs, Shw x n k) (l : xs.length * (n + 1) ≤ m) : Shw (.lst xs) m (k + 1) := by
  obtain ⟨ps, g1, g2, g3, g4, g5, g6⟩ := shws n k xs hx
  refine ⟨.list ps, fun h => ?_, ?_, ?_, ?_, ?_, ?_⟩
  · show (toPys h xs).map PyData.list = _
    rw [g1]; rfl
  · simpa [PyData.showable] using g2
  · simpa [PyData.hasDict] using g3
  · simpa [PyData.leavesShort] using g4
  · simp only [PyData.bulk]; omega
  · simp only [PyData.depth]; omega
theorem shown_eq {d : D} {n k : Nat} (s : Shw d n k) (hn : n ≤ 8000) (hk : k ≤ 32) : ∃ x : Str, ∀ h : Hd, gRepr [d] h = .ok (.str x) h := by
  obtain ⟨p, h1, h2, h3, h4, h5, h6⟩ := s
  refine ⟨p.shown, fun h => ?_⟩
  have e : toPyR h d = some p := by
    have := h1 h
    cases d <;> first | exact this | (exfalso; revert this; simp [toPy])
  have l := PyData.shown_le_bulk 120 (by decide) p h4
  have l2 : p.shown.length ≤ LIM := by
    have : (120 + 2) * p.bulk ≤ 122 * 8000 := Nat.mul_le_mul (by omega) (by omega)
    unfold LIM; omega
  have l3 : p.depth ≤ 32 := by omega
  unfold gRepr
  simp only [e, h2, h3, l3, l2, and_self, if_true]
theorem rg_neS {a b : Str} {h : Hd} {Q : D → Hd → Prop} (q : Q (.bl (!decide (a = b))) h) : Rn (gNe [.str a, .str b] h) Q := ⟨_, _, rfl, q⟩
end BR

namespace BR
open PySem
local macro_rules
  | `(tactic| and_intros) => `(tactic| repeat (first | (with_reducible refine rs_seq ?_) | (with_reducible refine rs_asg ?_) | (with_reducible refine re_apK ?_) | (with_reducible refine re_ap ?_) | (with_reducible refine ra_cons ?_) | (with_reducible refine ra_nil ?_) | (with_reducible refine re_c ?_) | (with_reducible refine re_ap2 ?_) | (with_reducible refine re_ap1 ?_) | (with_reducible refine rg_var ?_) | (with_reducible refine rk_nx ?_) | (with_reducible refine rk_N ?_) | (with_reducible refine rs_if ?_) | (with_reducible refine rt_B ?_) | (with_reducible refine rs_ex ?_) | (with_reducible refine rs_ret ?_) | (with_reducible refine rt_not ?_) | (with_reducible refine re_T ?_) | (with_reducible refine rk_rt ?_) | (with_reducible refine re_mt ?_) | (with_reducible refine re_mx ?_) | (with_reducible refine re_sl ?_) | (with_reducible refine ro_no ?_) | (with_reducible refine ro_p ?_) | (with_reducible refine rg_add ?_) | (with_reducible refine rg_sbt ?_) | (with_reducible refine rg_iadd ?_) | (with_reducible refine rg_isub ?_) | (with_reducible refine rg_neg ?_) | (with_reducible refine rg_lt ?_) | (with_reducible refine rg_le ?_) | (with_reducible refine rg_gt ?_) | (with_reducible refine rg_ge ?_) | (with_reducible refine rg_isb ?_) | (with_reducible refine rg_isnb ?_) | (with_reducible refine rg_eqI ?_) | (with_reducible refine rg_neI ?_) | (with_reducible refine rg_eqR ?_) | (with_reducible refine rg_lenW ?_) | (with_reducible refine rg_lenI ?_) | (with_reducible refine rg_lenT ?_) | (with_reducible refine rg_lenL ?_) | (with_reducible refine rg_sumI ?_) | (with_reducible refine rg_sumL ?_) | (with_reducible refine rg_intI ?_) | (with_reducible refine rg_intB ?_) | (with_reducible refine rg_tupL ?_) | (with_reducible refine rs_nop ?_) | (with_reducible refine re_tup ?_) | (with_reducible refine re_lst ?_) | (with_reducible refine re_lstR ?_) | (with_reducible refine al0 ?_) | (with_reducible refine al1 ?_) | (with_reducible refine al2 ?_) | (with_reducible refine al3 ?_) | (with_reducible refine al4 ?_) | (with_reducible refine al5 ?_) | (with_reducible refine al6 ?_) | (with_reducible refine re_and ?_) | (with_reducible refine re_or ?_) | (with_reducible refine re_not ?_) | (with_reducible refine re_ch ?_) | (with_reducible refine re_if ?_) | (with_reducible refine rt_and ?_) | (with_reducible refine rt_or ?_) | (with_reducible refine rt_TT ?_) | (with_reducible refine rs_for ?_) | (with_reducible refine ri_val ?_) | (with_reducible refine ri_rg1 ?_) | (with_reducible refine ri_rg2 ?_) | (with_reducible refine ri_en ?_) | (with_reducible refine ri_zip ?_) | (with_reducible refine re_is ?_) | (with_reducible refine rt_B ?_) | (with_reducible refine re_lc ?_) | (with_reducible refine rl_in ?_) | (with_reducible refine rl_one ?_) | (with_reducible refine rs_par2 ?_) | (with_reducible refine rs_par3 ?_) | (with_reducible refine rg_tup ?_) | (with_reducible refine rg_all ?_) | (with_reducible refine rg_all_nil ?_) | (with_reducible refine rg_sub ?_) | (with_reducible refine rs_augS ?_) | (with_reducible refine re_var ?_; refine ⟨_, rfl, ?_⟩) | (with_reducible refine rs_aug ?_; refine ⟨_, rfl, ?_⟩) | refine ⟨_, rfl, ?_⟩ | with_reducible refine ⟨_, _, rfl, ?_⟩ | with_reducible refine ⟨_, _, _, rfl, ?_⟩ | refine ⟨⟨rfl, rfl⟩, ?_⟩ | refine ⟨by unfold BIG; omega, ?_⟩))
def isInt : D → Bool
  | .int _ => true
  | _ => false
def isRow (n : Nat) : D → Bool
  | .tup xs => decide (xs.length = n) && xs.all isInt
  | _ => false
def tyD : D → Bool
  | .non => true
  | .bl _ => true
  | .int _ => true
  | .str _ => true
  | .tup _ => true
  | .lst _ => true
  | _ => false
theorem Dat.ty {k : Nat} {d : D} (h : Dat k d) : tyD d = true := by cases h <;> rfl
theorem whole_any {d : D} (t : tyD d = true) (h : Hd) : f_is_whole [d] h = .ok (.bl (isInt d)) h := by
  cases d <;> first | (simp [f_is_whole, fn, fnK, gIsN, gNotN, isNon, sNop, sSeq, sEx, sRet, sIf, sBrk, sCnt, sAsg, gVar, gAll, gTup, gSub, sAug, sAugS, sPar2, sPar3, eVar, eC, aNil, aCons, eAp, eAp1_eq, eAp2_eq, tB, tAnd, tOr, tNot, tTT, eT, eIf, eAnd, eOr, eNot, eCh, oNo, oP, eSl, eMtL, eTup_eq, eLst_eq, eLstR_eq, Res.bind_ok, Res.bind_bad, Res.bind_exc, List.map_cons, List.map_nil, List.length_cons, List.length_nil, List.replicate, List.cons_append, List.nil_append, List.getElem?_cons_zero, List.getElem?_cons_succ, List.set_cons_zero, List.set_cons_succ, if_true, if_false, Nat.reduceAdd, Nat.reduceSub, Nat.reduceEqDiff, reduceIte, Bool.false_eq_true, eIs, tyOf, subTy, fin_bl, isInt]; done) | cases t
theorem row_any {d : D} {k n : Nat} (dt : Dat (k + 1) d) (h : Hd) : f_is_row [d, .int (n : Int)] h = .ok (.bl (isRow n d)) h := by
  cases dt with
  | non => simp [f_is_row, fn, fnK, gIsN, gNotN, isNon, sNop, sSeq, sEx, sRet, sIf, sBrk, sCnt, sAsg, gVar, gAll, gTup, gSub, sAug, sAugS, sPar2, sPar3, eVar, eC, aNil, aCons, eAp, eAp1_eq, eAp2_eq, tB, tAnd, tOr, tNot, tTT, eT, eIf, eAnd, eOr, eNot, eCh, oNo, oP, eSl, eMtL, eTup_eq, eLst_eq, eLstR_eq, Res.bind_ok, Res.bind_bad, Res.bind_exc, List.map_cons, List.map_nil, List.length_cons, List.length_nil, List.replicate, List.cons_append, List.nil_append, List.getElem?_cons_zero, List.getElem?_cons_succ, List.set_cons_zero, List.set_cons_succ, if_true, if_false, Nat.reduceAdd, Nat.reduceSub, Nat.reduceEqDiff, reduceIte, Bool.false_eq_true, eIs, tyOf, subTy, fin_bl, isRow]
  | bl b => simp [f_is_row, fn, fnK, gIsN, gNotN, isNon, sNop, sSeq, sEx, sRet, sIf, sBrk, sCnt, sAsg, gVar, gAll, gTup, gSub, sAug, sAugS, sPar2, sPar3, eVar, eC, aNil, aCons, eAp, eAp1_eq, eAp2_eq, tB, tAnd, tOr, tNot, tTT, eT, eIf, eAnd, eOr, eNot, eCh, oNo, oP, eSl, eMtL, eTup_eq, eLst_eq, eLstR_eq, Res.bind_ok, Res.bind_bad, Res.bind_exc, List.map_cons, List.map_nil, List.length_cons, List.length_nil, List.replicate, List.cons_append, List.nil_append, List.getElem?_cons_zero, List.getElem?_cons_succ, List.set_cons_zero, List.set_cons_succ, if_true, if_false, Nat.reduceAdd, Nat.reduceSub, Nat.reduceEqDiff, reduceIte, Bool.false_eq_true, eIs, tyOf, subTy, fin_bl, isRow]
  | int i => simp [f_is_row, fn, fnK, gIsN, gNotN, isNon, sNop, sSeq, sEx, sRet, sIf, sBrk, sCnt, sAsg, gVar, gAll, gTup, gSub, sAug, sAugS, sPar2, sPar3, eVar, eC, aNil, aCons, eAp, eAp1_eq, eAp2_eq, tB, tAnd, tOr, tNot, tTT, eT, eIf, eAnd, eOr, eNot, eCh, oNo, oP, eSl, eMtL, eTup_eq, eLst_eq, eLstR_eq, Res.bind_ok, Res.bind_bad, Res.bind_exc, List.map_cons, List.map_nil, List.length_cons, List.length_nil, List.replicate, List.cons_append, List.nil_append, List.getElem?_cons_zero, List.getElem?_cons_succ, List.set_cons_zero, List.set_cons_succ, if_true, if_false, Nat.reduceAdd, Nat.reduceSub, Nat.reduceEqDiff, reduceIte, Bool.false_eq_true, eIs, tyOf, subTy, fin_bl, isRow]
  | str x => simp [f_is_row, fn, fnK, gIsN, gNotN, isNon, sNop, sSeq, sEx, sRet, sIf, sBrk, sCnt, sAsg, gVar, gAll, gTup, gSub, sAug, sAugS, sPar2, sPar3, eVar, eC, aNil, aCons, eAp, eAp1_eq, eAp2_eq, tB, tAnd, tOr, tNot, tTT, eT, eIf, eAnd, eOr, eNot, eCh, oNo, oP, eSl, eMtL, eTup_eq, eLst_eq, eLstR_eq, Res.bind_ok, Res.bind_bad, Res.bind_exc, List.map_cons, List.map_nil, List.length_cons, List.length_nil, List.replicate, List.cons_append, List.nil_append, List.getElem?_cons_zero, List.getElem?_cons_succ, List.set_cons_zero, List.set_cons_succ, if_true, if_false, Nat.reduceAdd, Nat.reduceSub, Nat.reduceEqDiff, reduceIte, Bool.false_eq_true, eIs, tyOf, subTy, fin_bl, isRow]
  | lst a b => simp [f_is_row, fn, fnK, gIsN, gNotN, isNon, sNop, sSeq, sEx, sRet, sIf, sBrk, sCnt, sAsg, gVar, gAll, gTup, gSub, sAug, sAugS, sPar2, sPar3, eVar, eC, aNil, aCons, eAp, eAp1_eq, eAp2_eq, tB, tAnd, tOr, tNot, tTT, eT, eIf, eAnd, eOr, eNot, eCh, oNo, oP, eSl, eMtL, eTup_eq, eLst_eq, eLstR_eq, Res.bind_ok, Res.bind_bad, Res.bind_exc, List.map_cons, List.map_nil, List.length_cons, List.length_nil, List.replicate, List.cons_append, List.nil_append, List.getElem?_cons_zero, List.getElem?_cons_succ, List.set_cons_zero, List.set_cons_succ, if_true, if_false, Nat.reduceAdd, Nat.reduceSub, Nat.reduceEqDiff, reduceIte, Bool.false_eq_true, eIs, tyOf, subTy, fin_bl, isRow]
  | tup hl hx =>
    rename_i xs
    have hz : xs.length ≤ LIM := by unfold LIM; omega
    have hc : eLc false [2] (iVal (eVar 0)) (gVar 2) tTT (lcOne (eAp f_is_whole (aCons (eVar 2) aNil))) [some (.tup xs), some (.int (n : Int)), none] h = .ok (.lst (xs.map fun x => .bl (isInt x))) h := by
      simp only [eLc, lcIn, iVal, seqOf, chkOf, wipe, fn, fnK, gIsN, gNotN, isNon, sNop, sSeq, sEx, sRet, sIf, sBrk, sCnt, sAsg, gVar, gAll, gTup, gSub, sAug, sAugS, sPar2, sPar3, eVar, eC, aNil, aCons, eAp, eAp1_eq, eAp2_eq, tB, tAnd, tOr, tNot, tTT, eT, eIf, eAnd, eOr, eNot, eCh, oNo, oP, eSl, eMtL, eTup_eq, eLst_eq, eLstR_eq, Res.bind_ok, Res.bind_bad, Res.bind_exc, List.map_cons, List.map_nil, List.length_cons, List.length_nil, List.replicate, List.cons_append, List.nil_append, List.getElem?_cons_zero, List.getElem?_cons_succ, List.set_cons_zero, List.set_cons_succ, if_true, if_false, Nat.reduceAdd, Nat.reduceSub, Nat.reduceEqDiff, reduceIte, Bool.false_eq_true]
      have e := lcF_one (g := gVar 2) (c := tTT) (e := eAp f_is_whole (aCons (eVar 2) aNil)) (σ := [some (.tup xs), some (.int (n : Int)), none]) (h := h) id (fun x => .bl (isInt x)) xs fun x hx' => ⟨_, rfl, rfl, by simp only [fn, fnK, gIsN, gNotN, isNon, sNop, sSeq, sEx, sRet, sIf, sBrk, sCnt, sAsg, gVar, gAll, gTup, gSub, sAug, sAugS, sPar2, sPar3, eVar, eC, aNil, aCons, eAp, eAp1_eq, eAp2_eq, tB, tAnd, tOr, tNot, tTT, eT, eIf, eAnd, eOr, eNot, eCh, oNo, oP, eSl, eMtL, eTup_eq, eLst_eq, eLstR_eq, Res.bind_ok, Res.bind_bad, Res.bind_exc, List.map_cons, List.map_nil, List.length_cons, List.length_nil, List.replicate, List.cons_append, List.nil_append, List.getElem?_cons_zero, List.getElem?_cons_succ, List.set_cons_zero, List.set_cons_succ, if_true, if_false, Nat.reduceAdd, Nat.reduceSub, Nat.reduceEqDiff, reduceIte, Bool.false_eq_true, id, whole_any (hx x hx').ty]⟩
      rw [List.map_id] at e
      rw [e]
      simp [lcEnd, hz]
    have h1 : gLen [.tup xs] h = .ok (.int xs.length) h := by simp [gLen]
    have h3 := gEvery_map isInt xs h
    by_cases e : (xs.length : Int) = n
    · have e' : xs.length = n := by omega
      simp [f_is_row, fn, fnK, gIsN, gNotN, isNon, sNop, sSeq, sEx, sRet, sIf, sBrk, sCnt, sAsg, gVar, gAll, gTup, gSub, sAug, sAugS, sPar2, sPar3, eVar, eC, aNil, aCons, eAp, eAp1_eq, eAp2_eq, tB, tAnd, tOr, tNot, tTT, eT, eIf, eAnd, eOr, eNot, eCh, oNo, oP, eSl, eMtL, eTup_eq, eLst_eq, eLstR_eq, Res.bind_ok, Res.bind_bad, Res.bind_exc, List.map_cons, List.map_nil, List.length_cons, List.length_nil, List.replicate, List.cons_append, List.nil_append, List.getElem?_cons_zero, List.getElem?_cons_succ, List.set_cons_zero, List.set_cons_succ, if_true, if_false, Nat.reduceAdd, Nat.reduceSub, Nat.reduceEqDiff, reduceIte, Bool.false_eq_true, eIs, tyOf, subTy, h1, gEq_int, e, e', hc, h3, fin_bl, isRow]
    · have e' : ¬ xs.length = n := by omega
      simp [f_is_row, fn, fnK, gIsN, gNotN, isNon, sNop, sSeq, sEx, sRet, sIf, sBrk, sCnt, sAsg, gVar, gAll, gTup, gSub, sAug, sAugS, sPar2, sPar3, eVar, eC, aNil, aCons, eAp, eAp1_eq, eAp2_eq, tB, tAnd, tOr, tNot, tTT, eT, eIf, eAnd, eOr, eNot, eCh, oNo, oP, eSl, eMtL, eTup_eq, eLst_eq, eLstR_eq, Res.bind_ok, Res.bind_bad, Res.bind_exc, List.map_cons, List.map_nil, List.length_cons, List.length_nil, List.replicate, List.cons_append, List.nil_append, List.getElem?_cons_zero, List.getElem?_cons_succ, List.set_cons_zero, List.set_cons_succ, if_true, if_false, Nat.reduceAdd, Nat.reduceSub, Nat.reduceEqDiff, reduceIte, Bool.false_eq_true, eIs, tyOf, subTy, h1, gEq_int, e, e', fin_bl, isRow]
theorem rg_addT {x y : List D} {h : Hd} {Q : D → Hd → Prop} (l : x.length + y.length ≤ LIM) (q : Q (.tup (x ++ y)) h) : Rn (gAdd [.tup x, .tup y] h) Q := ⟨.tup (x ++ y), h, by simp [gAdd, l], q⟩
theorem rg_addLL {x y : List D} {h : Hd} {Q : D → Hd → Prop} (l : x.length + y.length ≤ LIM) (q : Q (.lst (x ++ y)) h) : Rn (gAdd [.lst x, .lst y] h) Q := ⟨.lst (x ++ y), h, by simp [gAdd, l], q⟩
theorem rg_ixL {xs : List D} {i : Int} {h : Hd} {Q : D → Hd → Prop} (h0 : 0 ≤ i) (h1 : i < xs.length) (q : ∀ d, d ∈ xs → Q d h) : Rn (gIx [.lst xs, .int i] h) Q :=
  ⟨_, h, gIx_at rfl h0 h1, q _ (getD_mem (by omega))⟩
mutual
theorem noRef_py (n : Nat) (h : Hd) : ∀ (d : D) {p : PyData}, toPy h d = some p → noRef n d = true
  | .non, _, _ => rfl
  | .bl _, _, _ => rfl
  | .int _, _, _ => rfl
  | .str _, _, _ => rfl
  | .tup xs, _, e => by
    have e : (toPys h xs).map PyData.tuple = some _ := e
    cases q : toPys h xs with
    | none => rw [q] at e; cases e
    | some ps => exact noRef_pys n h xs q
  | .lst xs, _, e => by
    have e : (toPys h xs).map PyData.list = some _ := e
    cases q : toPys h xs with
    | none => rw [q] at e; cases e
    | some ps => exact noRef_pys n h xs q
  | .dct _ _, _, e => by cases e
  | .dcT _ _, _, e => by cases e
  | .ref _, _, e => by cases e
  | .scr _, _, e => by cases e
theorem noRef_pys (n : Nat) (h : Hd) : ∀ (ds : List D) {ps : List PyData}, toPys h ds = some ps → noRef.go n ds = true
  | [], _, _ => rfl
  | d :: ds, _, e => by
    unfold toPys at e
    cases q1 : toPy h d with
    | none => rw [q1] at e; cases e
    | some a =>
      cases q2 : toPys h ds with
      | none => rw [q1, q2] at e; cases e
      | some b =>
        show (noRef n d && noRef.go n ds) = true
        rw [noRef_py n h d q1, noRef_pys n h ds q2]; rfl
end
end BR

namespace BR
open PySem
section
variable {c : List Int} {r h : Hd} {N : Int}
theorem rn_web {Q : D → Hd → Prop} {P T : Nat} (p : Pen c r h N) (hN : N + 100000 ≤ TM) (hP : 1 ≤ P) (hP2 : P ≤ 10) (hT : P ≤ T + 1) (hT2 : T ≤ 12) (q : ∀ M h', IsWeb M → M.length ≤ P → Pen c r h' (N + 1000) → Q (dW M) h') : Rn (f_law_any_web [.ref 1, .int (P : Int), .int (T : Int)] h) Q := by
  obtain ⟨t, a, rfl, b1, b2⟩ := p
  obtain ⟨M, ⟨t', a', e, c1, c2⟩, x1, x2⟩ := web_eq c t a r P T hP hP2 hT hT2 b1 (by omega)
  exact ⟨_, _, e, q M _ x1 x2 ⟨t', a', rfl, by omega, by omega⟩⟩
end
end BR

namespace BR
open PySem
local macro_rules
  | `(tactic| and_intros) => `(tactic| repeat (first | (with_reducible refine rs_seq ?_) | (with_reducible refine rs_asg ?_) | (with_reducible refine re_apK ?_) | (with_reducible refine re_ap ?_) | (with_reducible refine ra_cons ?_) | (with_reducible refine ra_nil ?_) | (with_reducible refine re_c ?_) | (with_reducible refine re_ap2 ?_) | (with_reducible refine re_ap1 ?_) | (with_reducible refine rg_var ?_) | (with_reducible refine rk_nx ?_) | (with_reducible refine rk_N ?_) | (with_reducible refine rs_if ?_) | (with_reducible refine rt_B ?_) | (with_reducible refine rs_ex ?_) | (with_reducible refine rs_ret ?_) | (with_reducible refine rt_not ?_) | (with_reducible refine re_T ?_) | (with_reducible refine rk_rt ?_) | (with_reducible refine re_mt ?_) | (with_reducible refine re_mx ?_) | (with_reducible refine re_sl ?_) | (with_reducible refine ro_no ?_) | (with_reducible refine ro_p ?_) | (with_reducible refine rg_add ?_) | (with_reducible refine rg_sbt ?_) | (with_reducible refine rg_iadd ?_) | (with_reducible refine rg_isub ?_) | (with_reducible refine rg_neg ?_) | (with_reducible refine rg_lt ?_) | (with_reducible refine rg_le ?_) | (with_reducible refine rg_gt ?_) | (with_reducible refine rg_ge ?_) | (with_reducible refine rg_isb ?_) | (with_reducible refine rg_isnb ?_) | (with_reducible refine rg_eqI ?_) | (with_reducible refine rg_neI ?_) | (with_reducible refine rg_eqR ?_) | (with_reducible refine rg_lenW ?_) | (with_reducible refine rg_lenI ?_) | (with_reducible refine rg_lenT ?_) | (with_reducible refine rg_lenL ?_) | (with_reducible refine rg_sumI ?_) | (with_reducible refine rg_sumL ?_) | (with_reducible refine rg_intI ?_) | (with_reducible refine rg_intB ?_) | (with_reducible refine rg_tupL ?_) | (with_reducible refine rs_nop ?_) | (with_reducible refine re_tup ?_) | (with_reducible refine re_lst ?_) | (with_reducible refine re_lstR ?_) | (with_reducible refine al0 ?_) | (with_reducible refine al1 ?_) | (with_reducible refine al2 ?_) | (with_reducible refine al3 ?_) | (with_reducible refine al4 ?_) | (with_reducible refine al5 ?_) | (with_reducible refine al6 ?_) | (with_reducible refine re_and ?_) | (with_reducible refine re_or ?_) | (with_reducible refine re_not ?_) | (with_reducible refine re_ch ?_) | (with_reducible refine re_if ?_) | (with_reducible refine rt_and ?_) | (with_reducible refine rt_or ?_) | (with_reducible refine rt_TT ?_) | (with_reducible refine rs_for ?_) | (with_reducible refine ri_val ?_) | (with_reducible refine ri_rg1 ?_) | (with_reducible refine ri_rg2 ?_) | (with_reducible refine ri_en ?_) | (with_reducible refine ri_zip ?_) | (with_reducible refine re_is ?_) | (with_reducible refine rt_B ?_) | (with_reducible refine re_lc ?_) | (with_reducible refine rl_in ?_) | (with_reducible refine rl_one ?_) | (with_reducible refine rs_par2 ?_) | (with_reducible refine rs_par3 ?_) | (with_reducible refine rg_tup ?_) | (with_reducible refine rg_all ?_) | (with_reducible refine rg_all_nil ?_) | (with_reducible refine rg_sub ?_) | (with_reducible refine rs_augS ?_) | (with_reducible refine re_var ?_; refine ⟨_, rfl, ?_⟩) | (with_reducible refine rs_aug ?_; refine ⟨_, rfl, ?_⟩) | refine ⟨_, rfl, ?_⟩ | with_reducible refine ⟨_, _, rfl, ?_⟩ | with_reducible refine ⟨_, _, _, rfl, ?_⟩ | refine ⟨⟨rfl, rfl⟩, ?_⟩ | refine ⟨by unfold BIG; omega, ?_⟩))
end BR

namespace BR
open PySem
section
variable {c : List Int} {r h : Hd} {N : Int} {Q : D → Hd → Prop}
theorem rg_append {a : Nat} {xs : List D} {x : D} (e : h[a]? = some (.lst xs)) (l : xs.length < LIM) (q : Q .non (h.set a (.lst (xs ++ [x])))) : Rn (mAppend [.ref a, x] h) Q := ⟨_, _, by unfold mAppend; simp only [e, l, if_true], q⟩
theorem rg_addR {a : Nat} {xs ys : List D} (e : h[a]? = some (.lst xs)) (l : xs.length + ys.length ≤ LIM) (q : Q (.ref h.length) (h ++ [.lst (xs ++ ys)])) : Rn (gAddR [.ref a, .lst ys] h) Q := ⟨_, _, by unfold gAddR; simp only [lstOf, e, l, if_true], q⟩
theorem rg_lenR {a : Nat} {xs : List D} (e : h[a]? = some (.lst xs)) (q : Q (.int xs.length) h) : Rn (gLen [.ref a] h) Q := ⟨_, _, by simp only [gLen, e], q⟩
theorem rg_ixR {a : Nat} {xs : List D} {i : Int} (e : h[a]? = some (.lst xs)) (h0 : 0 ≤ i) (h1 : i < xs.length) (q : ∀ d, d ∈ xs → Q d h) : Rn (gIx [.ref a, .int i] h) Q :=
  ⟨_, h, gIx_at (by simp only [seqOf, e]) h0 h1, q _ (getD_mem (by omega))⟩
theorem rg_repr {d : D} {n k : Nat} (s : Shw d n k) (hn : n ≤ 8000) (hk : k ≤ 32) (q : ∀ x : Str, (∀ h : Hd, gRepr [d] h = .ok (.str x) h) → Q (.str x) h) : Rn (gRepr [d] h) Q := by
  obtain ⟨x, e⟩ := shown_eq s hn hk
  exact ⟨_, _, e h, q x e⟩
end
end BR

namespace BR
open PySem
local macro_rules
  | `(tactic| and_intros) => `(tactic| repeat (first | (with_reducible refine rs_seq ?_) | (with_reducible refine rs_asg ?_) | (with_reducible refine re_apK ?_) | (with_reducible refine re_ap ?_) | (with_reducible refine ra_cons ?_) | (with_reducible refine ra_nil ?_) | (with_reducible refine re_c ?_) | (with_reducible refine re_ap2 ?_) | (with_reducible refine re_ap1 ?_) | (with_reducible refine rg_var ?_) | (with_reducible refine rk_nx ?_) | (with_reducible refine rk_N ?_) | (with_reducible refine rs_if ?_) | (with_reducible refine rt_B ?_) | (with_reducible refine rs_ex ?_) | (with_reducible refine rs_ret ?_) | (with_reducible refine rt_not ?_) | (with_reducible refine re_T ?_) | (with_reducible refine rk_rt ?_) | (with_reducible refine re_mt ?_) | (with_reducible refine re_mx ?_) | (with_reducible refine re_sl ?_) | (with_reducible refine ro_no ?_) | (with_reducible refine ro_p ?_) | (with_reducible refine rg_add ?_) | (with_reducible refine rg_sbt ?_) | (with_reducible refine rg_iadd ?_) | (with_reducible refine rg_isub ?_) | (with_reducible refine rg_neg ?_) | (with_reducible refine rg_lt ?_) | (with_reducible refine rg_le ?_) | (with_reducible refine rg_gt ?_) | (with_reducible refine rg_ge ?_) | (with_reducible refine rg_isb ?_) | (with_reducible refine rg_isnb ?_) | (with_reducible refine rg_eqI ?_) | (with_reducible refine rg_neI ?_) | (with_reducible refine rg_eqR ?_) | (with_reducible refine rg_lenW ?_) | (with_reducible refine rg_lenI ?_) | (with_reducible refine rg_lenT ?_) | (with_reducible refine rg_lenL ?_) | (with_reducible refine rg_sumI ?_) | (with_reducible refine rg_sumL ?_) | (with_reducible refine rg_intI ?_) | (with_reducible refine rg_intB ?_) | (with_reducible refine rg_tupL ?_) | (with_reducible refine rs_nop ?_) | (with_reducible refine re_tup ?_) | (with_reducible refine re_lst ?_) | (with_reducible refine re_lstR ?_) | (with_reducible refine al0 ?_) | (with_reducible refine al1 ?_) | (with_reducible refine al2 ?_) | (with_reducible refine al3 ?_) | (with_reducible refine al4 ?_) | (with_reducible refine al5 ?_) | (with_reducible refine al6 ?_) | (with_reducible refine re_and ?_) | (with_reducible refine re_or ?_) | (with_reducible refine re_not ?_) | (with_reducible refine re_ch ?_) | (with_reducible refine re_if ?_) | (with_reducible refine rt_and ?_) | (with_reducible refine rt_or ?_) | (with_reducible refine rt_TT ?_) | (with_reducible refine rs_for ?_) | (with_reducible refine ri_val ?_) | (with_reducible refine ri_rg1 ?_) | (with_reducible refine ri_rg2 ?_) | (with_reducible refine ri_en ?_) | (with_reducible refine ri_zip ?_) | (with_reducible refine re_is ?_) | (with_reducible refine rt_B ?_) | (with_reducible refine re_lc ?_) | (with_reducible refine rl_in ?_) | (with_reducible refine rl_one ?_) | (with_reducible refine rs_par2 ?_) | (with_reducible refine rs_par3 ?_) | (with_reducible refine rg_tup ?_) | (with_reducible refine rg_all ?_) | (with_reducible refine rg_all_nil ?_) | (with_reducible refine rg_sub ?_) | (with_reducible refine rs_augS ?_) | (with_reducible refine re_var ?_; refine ⟨_, rfl, ?_⟩) | (with_reducible refine rs_aug ?_; refine ⟨_, rfl, ?_⟩) | refine ⟨_, rfl, ?_⟩ | with_reducible refine ⟨_, _, rfl, ?_⟩ | with_reducible refine ⟨_, _, _, rfl, ?_⟩ | refine ⟨⟨rfl, rfl⟩, ?_⟩ | refine ⟨by unfold BIG; omega, ?_⟩))
theorem rn_lcP {α : Type} {gt : EG} {e : EE} {σ : Sg} {h : Hd} (key val : α → D) (xs : List α) {Q : List D → Hd → Prop}
    (hs : ∀ (i : Nat) (x : α), xs[i]? = some x → Rn (gt (key x) σ h) fun σ1 h1 => Rn (e σ1 h1) fun d h2 => d = val x ∧ h2 = h) (hd : Q (xs.map val) h) : Rn (lcF gt tTT (lcOne e) [] σ (xs.map key) h) Q :=
  rn_lc1 key xs (fun i ys h2 => ys = (xs.take i).map val ∧ h2 = h) ⟨rfl, rfl⟩ (fun i x ys h2 hx hI => by
    obtain ⟨rfl, rfl⟩ := hI
    refine rn_imp (hs i x hx) fun σ1 h1 q => rn_imp q fun d h3 ⟨e1, e2⟩ => ?_
    subst e1; subst e2
    refine ⟨?_, rfl⟩
    rw [List.take_add_one, hx]
    simp) fun ys h2 hI => by
    obtain ⟨rfl, rfl⟩ := hI
    rw [List.take_length]; exact hd
end BR

namespace BR
open PySem
local macro_rules
  | `(tactic| and_intros) => `(tactic| repeat (first | (with_reducible refine rs_seq ?_) | (with_reducible refine rs_asg ?_) | (with_reducible refine re_apK ?_) | (with_reducible refine re_ap ?_) | (with_reducible refine ra_cons ?_) | (with_reducible refine ra_nil ?_) | (with_reducible refine re_c ?_) | (with_reducible refine re_ap2 ?_) | (with_reducible refine re_ap1 ?_) | (with_reducible refine rg_var ?_) | (with_reducible refine rk_nx ?_) | (with_reducible refine rk_N ?_) | (with_reducible refine rs_if ?_) | (with_reducible refine rt_B ?_) | (with_reducible refine rs_ex ?_) | (with_reducible refine rs_ret ?_) | (with_reducible refine rt_not ?_) | (with_reducible refine re_T ?_) | (with_reducible refine rk_rt ?_) | (with_reducible refine re_mt ?_) | (with_reducible refine re_mx ?_) | (with_reducible refine re_sl ?_) | (with_reducible refine ro_no ?_) | (with_reducible refine ro_p ?_) | (with_reducible refine rg_add ?_) | (with_reducible refine rg_sbt ?_) | (with_reducible refine rg_iadd ?_) | (with_reducible refine rg_isub ?_) | (with_reducible refine rg_neg ?_) | (with_reducible refine rg_lt ?_) | (with_reducible refine rg_le ?_) | (with_reducible refine rg_gt ?_) | (with_reducible refine rg_ge ?_) | (with_reducible refine rg_isb ?_) | (with_reducible refine rg_isnb ?_) | (with_reducible refine rg_eqI ?_) | (with_reducible refine rg_neI ?_) | (with_reducible refine rg_eqR ?_) | (with_reducible refine rg_lenW ?_) | (with_reducible refine rg_lenI ?_) | (with_reducible refine rg_lenT ?_) | (with_reducible refine rg_lenL ?_) | (with_reducible refine rg_sumI ?_) | (with_reducible refine rg_sumL ?_) | (with_reducible refine rg_intI ?_) | (with_reducible refine rg_intB ?_) | (with_reducible refine rg_tupL ?_) | (with_reducible refine rs_nop ?_) | (with_reducible refine re_tup ?_) | (with_reducible refine re_lst ?_) | (with_reducible refine re_lstR ?_) | (with_reducible refine al0 ?_) | (with_reducible refine al1 ?_) | (with_reducible refine al2 ?_) | (with_reducible refine al3 ?_) | (with_reducible refine al4 ?_) | (with_reducible refine al5 ?_) | (with_reducible refine al6 ?_) | (with_reducible refine re_and ?_) | (with_reducible refine re_or ?_) | (with_reducible refine re_not ?_) | (with_reducible refine re_ch ?_) | (with_reducible refine re_if ?_) | (with_reducible refine rt_and ?_) | (with_reducible refine rt_or ?_) | (with_reducible refine rt_TT ?_) | (with_reducible refine rs_for ?_) | (with_reducible refine ri_val ?_) | (with_reducible refine ri_rg1 ?_) | (with_reducible refine ri_rg2 ?_) | (with_reducible refine ri_en ?_) | (with_reducible refine ri_zip ?_) | (with_reducible refine re_is ?_) | (with_reducible refine rt_B ?_) | (with_reducible refine re_lc ?_) | (with_reducible refine rl_in ?_) | (with_reducible refine rl_one ?_) | (with_reducible refine rs_par2 ?_) | (with_reducible refine rs_par3 ?_) | (with_reducible refine rg_tup ?_) | (with_reducible refine rg_all ?_) | (with_reducible refine rg_all_nil ?_) | (with_reducible refine rg_sub ?_) | (with_reducible refine rs_augS ?_) | (with_reducible refine re_var ?_; refine ⟨_, rfl, ?_⟩) | (with_reducible refine rs_aug ?_; refine ⟨_, rfl, ?_⟩) | refine ⟨_, rfl, ?_⟩ | with_reducible refine ⟨_, _, rfl, ?_⟩ | with_reducible refine ⟨_, _, _, rfl, ?_⟩ | refine ⟨⟨rfl, rfl⟩, ?_⟩ | refine ⟨by unfold BIG; omega, ?_⟩))
/-- places, each once -/
structure Pl (n : Nat) (l : List Nat) : Prop where
  nd : l.Nodup
  lt : ∀ u ∈ l, u < n
theorem Pl.len {n : Nat} {l : List Nat} (p : Pl n l) : l.length ≤ n := by
  have := nd_sub l (List.range n) p.nd fun x hx => List.mem_range.mpr (p.lt x hx)
  simpa using this
theorem Pl.one {n q : Nat} (h : q < n) : Pl n [q] := ⟨by simp, fun u hu => by rw [List.mem_singleton.mp hu]; exact h⟩
theorem Pl.more {n : Nat} {l : List Nat} (p : Pl n l) {v : Nat} (hv : v < n) (hn : v ∉ l) : Pl n (l ++ [v]) := ⟨by
  rw [List.nodup_append]
  exact ⟨p.nd, by simp, fun a ha b hb e => hn (by rw [← List.mem_singleton.mp hb, ← e]; exact ha)⟩, fun u hu => by
  rcases List.mem_append.mp hu with hu | hu
  · exact p.lt u hu
  · rw [List.mem_singleton.mp hu]; exact hv⟩
theorem pN_flat (l : List Nat) : (pN l).all flatD = true := by
  rw [List.all_eq_true]
  intro d hd
  obtain ⟨k, _, rfl⟩ := List.mem_map.mp hd
  rfl
theorem pN_any (l : List Nat) (v : Nat) : ((pN l).any fun y => eqF y (.int (v : Int))) = decide (v ∈ l) := by
  rw [Bool.eq_iff_iff, List.any_eq_true, decide_eq_true_iff]
  constructor
  · rintro ⟨d, hd, e⟩
    obtain ⟨k, hk, rfl⟩ := List.mem_map.mp hd
    have e : ((k : Int) == (v : Int)) = true := e
    have : (k : Int) = v := by simpa using e
    have : k = v := by omega
    rw [← this]; exact hk
  · intro hv
    exact ⟨_, List.mem_map.mpr ⟨v, hv, rfl⟩, by show ((v : Int) == (v : Int)) = true; simp⟩
section
variable {h : Hd} {Q : D → Hd → Prop}
theorem rg_inN {d : D} {l : List Nat} {v : Nat} (e : seqOf h d = some (pN l)) (q : Q (.bl (decide (v ∈ l))) h) : Rn (inF false [.int (v : Int), d] h) Q := ⟨_, _, by unfold inF; simp only [e, pN_flat, flatD, Bool.and_self, if_true, Bool.false_eq_true, if_false, pN_any], q⟩
end
theorem chk_ok {h : Hd} {d : D} : okChk (chkOf h d) h := fun p hp => by
  cases d with
  | ref a =>
    unfold chkOf at hp
    simp only at hp
    split at hp
    · rename_i xs e
      rw [List.mem_singleton.mp hp]; exact e
    · cases hp
  | _ => cases hp
/-- a comprehension over a list that stands still, each item one item -/
theorem rn_lcS {α : Type} {gt : EG} {e : EE} {σ : Sg} {h : Hd} {d : D} (key val : α → D) (xs : List α) {Q : List D → Hd → Prop}
    (hs : ∀ (i : Nat) (x : α), xs[i]? = some x → Rn (gt (key x) σ h) fun σ1 h1 => Rn (e σ1 h1) fun d h2 => d = val x ∧ h2 = h) (hd : Q (xs.map val) h) : Rn (lcF gt tTT (lcOne e) (chkOf h d) σ (xs.map key) h) Q :=
  rn_lc key xs (fun i ys h2 => ys = (xs.take i).map val ∧ h2 = h) (fun _ _ _ hI => by rw [hI.2]; exact chk_ok) ⟨rfl, rfl⟩ (fun i x ys h2 hx hI => by
    obtain ⟨rfl, rfl⟩ := hI
    refine rn_imp (hs i x hx) fun σ1 h1 q => rt_TT ⟨fun _ => rl_one (rn_imp q fun d h3 ⟨e1, e2⟩ => ?_), fun z => by cases z⟩
    subst e1; subst e2
    refine ⟨?_, rfl⟩
    rw [List.take_add_one, hx]
    simp) fun ys h2 hI => by
    obtain ⟨rfl, rfl⟩ := hI
    rw [List.take_length]; exact hd
theorem need_place_eq {m : List (List Int)} {q : Nat} (hq : q < m.length) (h : Hd) : f_need_place [dW m, .int (q : Int)] h = .ok .non h := by
  have key : Rn (f_need_place [dW m, .int (q : Int)] h) fun r h' => r = .non ∧ h' = h := by
    unfold f_need_place
    refine rf_fn rfl ?_
    and_intros
    refine rn_eq (is_whole_int _ _) ?_
    and_intros
    refine ⟨fun z => (by cases z), fun _ => ?_⟩
    and_intros
    refine ⟨fun _ => ?_, fun z => absurd z (by simp)⟩
    and_intros
    refine ⟨fun z => absurd z (by simp; omega), fun _ => ?_⟩
    and_intros
    exact rn_fin rfl ⟨rfl, rfl⟩
  obtain ⟨d, h', e, rfl, rfl⟩ := key
  exact e
end BR

namespace BR
open PySem
local macro_rules
  | `(tactic| and_intros) => `(tactic| repeat (first | (with_reducible refine rs_seq ?_) | (with_reducible refine rs_asg ?_) | (with_reducible refine re_apK ?_) | (with_reducible refine re_ap ?_) | (with_reducible refine ra_cons ?_) | (with_reducible refine ra_nil ?_) | (with_reducible refine re_c ?_) | (with_reducible refine re_ap2 ?_) | (with_reducible refine re_ap1 ?_) | (with_reducible refine rg_var ?_) | (with_reducible refine rk_nx ?_) | (with_reducible refine rk_N ?_) | (with_reducible refine rs_if ?_) | (with_reducible refine rt_B ?_) | (with_reducible refine rs_ex ?_) | (with_reducible refine rs_ret ?_) | (with_reducible refine rt_not ?_) | (with_reducible refine re_T ?_) | (with_reducible refine rk_rt ?_) | (with_reducible refine re_mt ?_) | (with_reducible refine re_mx ?_) | (with_reducible refine re_sl ?_) | (with_reducible refine ro_no ?_) | (with_reducible refine ro_p ?_) | (with_reducible refine rg_add ?_) | (with_reducible refine rg_sbt ?_) | (with_reducible refine rg_iadd ?_) | (with_reducible refine rg_isub ?_) | (with_reducible refine rg_neg ?_) | (with_reducible refine rg_lt ?_) | (with_reducible refine rg_le ?_) | (with_reducible refine rg_gt ?_) | (with_reducible refine rg_ge ?_) | (with_reducible refine rg_isb ?_) | (with_reducible refine rg_isnb ?_) | (with_reducible refine rg_eqI ?_) | (with_reducible refine rg_neI ?_) | (with_reducible refine rg_eqR ?_) | (with_reducible refine rg_lenW ?_) | (with_reducible refine rg_lenI ?_) | (with_reducible refine rg_lenT ?_) | (with_reducible refine rg_lenL ?_) | (with_reducible refine rg_sumI ?_) | (with_reducible refine rg_sumL ?_) | (with_reducible refine rg_intI ?_) | (with_reducible refine rg_intB ?_) | (with_reducible refine rg_tupL ?_) | (with_reducible refine rs_nop ?_) | (with_reducible refine re_tup ?_) | (with_reducible refine re_lst ?_) | (with_reducible refine re_lstR ?_) | (with_reducible refine al0 ?_) | (with_reducible refine al1 ?_) | (with_reducible refine al2 ?_) | (with_reducible refine al3 ?_) | (with_reducible refine al4 ?_) | (with_reducible refine al5 ?_) | (with_reducible refine al6 ?_) | (with_reducible refine re_and ?_) | (with_reducible refine re_or ?_) | (with_reducible refine re_not ?_) | (with_reducible refine re_ch ?_) | (with_reducible refine re_if ?_) | (with_reducible refine rt_and ?_) | (with_reducible refine rt_or ?_) | (with_reducible refine rt_TT ?_) | (with_reducible refine rs_for ?_) | (with_reducible refine ri_val ?_) | (with_reducible refine ri_rg1 ?_) | (with_reducible refine ri_rg2 ?_) | (with_reducible refine ri_en ?_) | (with_reducible refine ri_zip ?_) | (with_reducible refine re_is ?_) | (with_reducible refine rt_B ?_) | (with_reducible refine re_lc ?_) | (with_reducible refine rl_in ?_) | (with_reducible refine rl_one ?_) | (with_reducible refine rs_par2 ?_) | (with_reducible refine rs_par3 ?_) | (with_reducible refine rg_tup ?_) | (with_reducible refine rg_all ?_) | (with_reducible refine rg_all_nil ?_) | (with_reducible refine rg_sub ?_) | (with_reducible refine rs_augS ?_) | (with_reducible refine re_var ?_; refine ⟨_, rfl, ?_⟩) | (with_reducible refine rs_aug ?_; refine ⟨_, rfl, ?_⟩) | refine ⟨_, rfl, ?_⟩ | with_reducible refine ⟨_, _, rfl, ?_⟩ | with_reducible refine ⟨_, _, _, rfl, ?_⟩ | refine ⟨⟨rfl, rfl⟩, ?_⟩ | refine ⟨by unfold BIG; omega, ?_⟩))
end BR

namespace BR
open PySem
local macro_rules
  | `(tactic| and_intros) => `(tactic| repeat (first | (with_reducible refine rs_seq ?_) | (with_reducible refine rs_asg ?_) | (with_reducible refine re_apK ?_) | (with_reducible refine re_ap ?_) | (with_reducible refine ra_cons ?_) | (with_reducible refine ra_nil ?_) | (with_reducible refine re_c ?_) | (with_reducible refine re_ap2 ?_) | (with_reducible refine re_ap1 ?_) | (with_reducible refine rg_var ?_) | (with_reducible refine rk_nx ?_) | (with_reducible refine rk_N ?_) | (with_reducible refine rs_if ?_) | (with_reducible refine rt_B ?_) | (with_reducible refine rs_ex ?_) | (with_reducible refine rs_ret ?_) | (with_reducible refine rt_not ?_) | (with_reducible refine re_T ?_) | (with_reducible refine rk_rt ?_) | (with_reducible refine re_mt ?_) | (with_reducible refine re_mx ?_) | (with_reducible refine re_sl ?_) | (with_reducible refine ro_no ?_) | (with_reducible refine ro_p ?_) | (with_reducible refine rg_add ?_) | (with_reducible refine rg_sbt ?_) | (with_reducible refine rg_iadd ?_) | (with_reducible refine rg_isub ?_) | (with_reducible refine rg_neg ?_) | (with_reducible refine rg_lt ?_) | (with_reducible refine rg_le ?_) | (with_reducible refine rg_gt ?_) | (with_reducible refine rg_ge ?_) | (with_reducible refine rg_isb ?_) | (with_reducible refine rg_isnb ?_) | (with_reducible refine rg_eqI ?_) | (with_reducible refine rg_neI ?_) | (with_reducible refine rg_eqR ?_) | (with_reducible refine rg_lenW ?_) | (with_reducible refine rg_lenI ?_) | (with_reducible refine rg_lenT ?_) | (with_reducible refine rg_lenL ?_) | (with_reducible refine rg_sumI ?_) | (with_reducible refine rg_sumL ?_) | (with_reducible refine rg_intI ?_) | (with_reducible refine rg_intB ?_) | (with_reducible refine rg_tupL ?_) | (with_reducible refine rs_nop ?_) | (with_reducible refine re_tup ?_) | (with_reducible refine re_lst ?_) | (with_reducible refine re_lstR ?_) | (with_reducible refine al0 ?_) | (with_reducible refine al1 ?_) | (with_reducible refine al2 ?_) | (with_reducible refine al3 ?_) | (with_reducible refine al4 ?_) | (with_reducible refine al5 ?_) | (with_reducible refine al6 ?_) | (with_reducible refine re_and ?_) | (with_reducible refine re_or ?_) | (with_reducible refine re_not ?_) | (with_reducible refine re_ch ?_) | (with_reducible refine re_if ?_) | (with_reducible refine rt_and ?_) | (with_reducible refine rt_or ?_) | (with_reducible refine rt_TT ?_) | (with_reducible refine rs_for ?_) | (with_reducible refine ri_val ?_) | (with_reducible refine ri_rg1 ?_) | (with_reducible refine ri_rg2 ?_) | (with_reducible refine ri_en ?_) | (with_reducible refine ri_zip ?_) | (with_reducible refine re_is ?_) | (with_reducible refine rt_B ?_) | (with_reducible refine re_lc ?_) | (with_reducible refine rl_in ?_) | (with_reducible refine rl_one ?_) | (with_reducible refine rs_par2 ?_) | (with_reducible refine rs_par3 ?_) | (with_reducible refine rg_tup ?_) | (with_reducible refine rg_all ?_) | (with_reducible refine rg_all_nil ?_) | (with_reducible refine rg_sub ?_) | (with_reducible refine rs_augS ?_) | (with_reducible refine re_var ?_; refine ⟨_, rfl, ?_⟩) | (with_reducible refine rs_aug ?_; refine ⟨_, rfl, ?_⟩) | refine ⟨_, rfl, ?_⟩ | with_reducible refine ⟨_, _, rfl, ?_⟩ | with_reducible refine ⟨_, _, _, rfl, ?_⟩ | refine ⟨⟨rfl, rfl⟩, ?_⟩ | refine ⟨by unfold BIG; omega, ?_⟩))
theorem eq_len (a b : Nat) : decide ((a : Int) = (b : Int)) = decide (a = b) := by
  by_cases h : a = b
  · rw [decide_eq_true h, decide_eq_true (by omega)]
  · rw [decide_eq_false h, decide_eq_false (by omega)]
theorem Pl.all {n : Nat} {l : List Nat} (p : Pl n l) (hl : l.length = n) {v : Nat} (hv : v < n) : v ∈ l := by
  refine Classical.byContradiction fun hn => ?_
  have := (p.more hv hn).len
  rw [List.length_append, List.length_singleton] at this
  omega
section
variable {c : List Int} {r h : Hd} {N : Int} {Q : D → Hd → Prop}
end
end BR

namespace BR
open PySem
local macro_rules
  | `(tactic| and_intros) => `(tactic| repeat (first | (with_reducible refine rs_seq ?_) | (with_reducible refine rs_asg ?_) | (with_reducible refine re_apK ?_) | (with_reducible refine re_ap ?_) | (with_reducible refine ra_cons ?_) | (with_reducible refine ra_nil ?_) | (with_reducible refine re_c ?_) | (with_reducible refine re_ap2 ?_) | (with_reducible refine re_ap1 ?_) | (with_reducible refine rg_var ?_) | (with_reducible refine rk_nx ?_) | (with_reducible refine rk_N ?_) | (with_reducible refine rs_if ?_) | (with_reducible refine rt_B ?_) | (with_reducible refine rs_ex ?_) | (with_reducible refine rs_ret ?_) | (with_reducible refine rt_not ?_) | (with_reducible refine re_T ?_) | (with_reducible refine rk_rt ?_) | (with_reducible refine re_mt ?_) | (with_reducible refine re_mx ?_) | (with_reducible refine re_sl ?_) | (with_reducible refine ro_no ?_) | (with_reducible refine ro_p ?_) | (with_reducible refine rg_add ?_) | (with_reducible refine rg_sbt ?_) | (with_reducible refine rg_iadd ?_) | (with_reducible refine rg_isub ?_) | (with_reducible refine rg_neg ?_) | (with_reducible refine rg_lt ?_) | (with_reducible refine rg_le ?_) | (with_reducible refine rg_gt ?_) | (with_reducible refine rg_ge ?_) | (with_reducible refine rg_isb ?_) | (with_reducible refine rg_isnb ?_) | (with_reducible refine rg_eqI ?_) | (with_reducible refine rg_neI ?_) | (with_reducible refine rg_eqR ?_) | (with_reducible refine rg_lenW ?_) | (with_reducible refine rg_lenI ?_) | (with_reducible refine rg_lenT ?_) | (with_reducible refine rg_lenL ?_) | (with_reducible refine rg_sumI ?_) | (with_reducible refine rg_sumL ?_) | (with_reducible refine rg_intI ?_) | (with_reducible refine rg_intB ?_) | (with_reducible refine rg_tupL ?_) | (with_reducible refine rs_nop ?_) | (with_reducible refine re_tup ?_) | (with_reducible refine re_lst ?_) | (with_reducible refine re_lstR ?_) | (with_reducible refine al0 ?_) | (with_reducible refine al1 ?_) | (with_reducible refine al2 ?_) | (with_reducible refine al3 ?_) | (with_reducible refine al4 ?_) | (with_reducible refine al5 ?_) | (with_reducible refine al6 ?_) | (with_reducible refine re_and ?_) | (with_reducible refine re_or ?_) | (with_reducible refine re_not ?_) | (with_reducible refine re_ch ?_) | (with_reducible refine re_if ?_) | (with_reducible refine rt_and ?_) | (with_reducible refine rt_or ?_) | (with_reducible refine rt_TT ?_) | (with_reducible refine rs_for ?_) | (with_reducible refine ri_val ?_) | (with_reducible refine ri_rg1 ?_) | (with_reducible refine ri_rg2 ?_) | (with_reducible refine ri_en ?_) | (with_reducible refine ri_zip ?_) | (with_reducible refine re_is ?_) | (with_reducible refine rt_B ?_) | (with_reducible refine re_lc ?_) | (with_reducible refine rl_in ?_) | (with_reducible refine rl_one ?_) | (with_reducible refine rs_par2 ?_) | (with_reducible refine rs_par3 ?_) | (with_reducible refine rg_tup ?_) | (with_reducible refine rg_all ?_) | (with_reducible refine rg_all_nil ?_) | (with_reducible refine rg_sub ?_) | (with_reducible refine rs_augS ?_) | (with_reducible refine re_var ?_; refine ⟨_, rfl, ?_⟩) | (with_reducible refine rs_aug ?_; refine ⟨_, rfl, ?_⟩) | refine ⟨_, rfl, ?_⟩ | with_reducible refine ⟨_, _, rfl, ?_⟩ | with_reducible refine ⟨_, _, _, rfl, ?_⟩ | refine ⟨⟨rfl, rfl⟩, ?_⟩ | refine ⟨by unfold BIG; omega, ?_⟩))
theorem Pl.take {n : Nat} {l : List Nat} (p : Pl n l) (k : Nat) : Pl n (l.take k) := ⟨p.nd.sublist (List.take_sublist k l), fun u hu => p.lt u (List.mem_of_mem_take hu)⟩
section
variable {c : List Int} {r h : Hd} {N : Int} {Q : D → Hd → Prop}
end
end BR

namespace BR
open PySem
def Clo (m : List (List Int)) (S : Nat → Prop) : Prop := ∀ u v, u < m.length → v < m.length → S u → 0 < ent m u v → S v
def Con (m : List (List Int)) : Prop := ∀ S : Nat → Prop, S 0 → Clo m S → ∀ v, v < m.length → S v
structure Sq (m : List (List Int)) : Prop where
  n1 : 1 ≤ m.length
  n10 : m.length ≤ 10
  row : ∀ r ∈ m, r.length = m.length ∧ True
theorem len_con {m : List (List Int)} {ks : List Nat} (nd : ks.Nodup) (lt : ∀ k ∈ ks, k < m.length) (z : 0 ∈ ks) (cl : ∀ u ∈ ks, ∀ v, v < m.length → 0 < ent m u v → v ∈ ks) (rch : ∀ S : Nat → Prop, S 0 → Clo m S → ∀ k ∈ ks, S k) : ks.length = m.length ↔ Con m := by
  constructor
  · intro e S s0 sc v hv
    exact rch S s0 sc v ((⟨nd, lt⟩ : Pl m.length ks).all e hv)
  · intro c
    have hall := c (fun v => v ∈ ks) z fun u v _ hv hu hp => cl u hu v hv hp
    have h1 := (⟨nd, lt⟩ : Pl m.length ks).len
    have h2 := nd_sub (List.range m.length) ks List.nodup_range fun x hx => hall x (List.mem_range.mp hx)
    rw [List.length_range] at h2
    omega
/-- what stands between two turns of the walk -/
structure JQ (m : List (List Int)) (ks left : List Nat) : Prop where
  nd : ks.Nodup
  lt : ∀ k ∈ ks, k < m.length
  z : 0 ∈ ks
  sub : ∀ k ∈ left, k ∈ ks
  cl : ∀ k ∈ ks, k ∉ left → ∀ v, v < m.length → 0 < ent m k v → v ∈ ks
  rch : ∀ S : Nat → Prop, S 0 → Clo m S → ∀ k ∈ ks, S k
theorem JQ.len {m : List (List Int)} {ks left : List Nat} (j : JQ m ks left) : ks.length ≤ m.length := by
  have := nd_sub ks (List.range m.length) j.nd fun x hx => List.mem_range.mpr (j.lt x hx)
  simpa using this
/-- a turn of the walk -/
theorem jqB_step {m : List (List Int)} (hm : Sq m) (h : Hd) (ks left : List Nat) (j : JQ m ks left) (hne : left ≠ []) (hmz : 2 * (m.length - ks.length) + left.length ≤ 1000) (a b c : Option D) :
    ∃ ks' left' a' b' c', jpB [some (dW m), some (.ref h.length), some (.ref (h.length + 1)), a, b, c] (jpH h ks left) =
      .ok (.nx [some (dW m), some (.ref h.length), some (.ref (h.length + 1)), a', b', c']) (jpH h ks' left') ∧ JQ m ks' left' ∧
      2 * (m.length - ks'.length) + left'.length < 2 * (m.length - ks.length) + left.length := by
  have hlen : (pN left).length = left.length := by unfold pN; simp
  obtain ⟨u, hu⟩ : ∃ u, left[left.length - 1]? = some u := by
    have : left.length - 1 < left.length := by
      have := List.length_pos_iff.mpr hne
      omega
    exact ⟨_, List.getElem?_eq_getElem this⟩
  have hum : u ∈ left := List.mem_of_getElem? hu
  have huk : u ∈ ks := j.sub u hum
  have hul : u < m.length := j.lt u huk
  have hrow := hm.row (m.getD u []) (by simp [hul])
  have e0 : (pN left)[(pN left).length - 1]? = some (D.int (u : Int)) := by
    rw [hlen]
    unfold pN
    rw [List.getElem?_map, hu]; rfl
  have ed : (pN left).dropLast = pN left.dropLast := by unfold pN; rw [List.map_dropLast]
  -- the inner loop
  have inner : ∀ (b c : Option D), ∃ σ' h', forF (gTup [gVar 4, gVar 5]) jpI [] ((List.range (m.getD u []).length).map fun (i : Nat) => .tup [.int (i : Int), .int ((m.getD u []).getD i 0)]) [some (dW m), some (.ref h.length), some (.ref (h.length + 1)), some (.int (u : Int)), b, c] (jpH h ks left.dropLast) = .ok (.nx σ') h' ∧
      ∃ ks' left' b' c', σ' = [some (dW m), some (.ref h.length), some (.ref (h.length + 1)), some (.int (u : Int)), b', c'] ∧ h' = jpH h ks' left' ∧ ks'.Nodup ∧ (∀ k ∈ ks', k < m.length) ∧ (∀ k ∈ ks, k ∈ ks') ∧ (∀ k ∈ left', k ∈ ks') ∧ (∀ k ∈ left.dropLast, k ∈ left') ∧
        (∀ k ∈ ks', k ∉ left' → k ∈ ks ∧ k ∉ left.dropLast) ∧ (∀ v, v < (m.getD u []).length → 0 < ent m u v → v ∈ ks') ∧ 2 * (m.length - ks'.length) + left'.length ≤ 2 * (m.length - ks.length) + left.dropLast.length ∧ (∀ S : Nat → Prop, S 0 → Clo m S → ∀ k ∈ ks', S k) := by
    intro b c
    obtain ⟨σ', h', e1, ks', left', b', c', e2, e3, i1, i2, i3, i4, i5, i6, i7, i8, i9⟩ := forF_inv0 (g := gTup [gVar 4, gVar 5]) (body := jpI) (chk := []) (fun (i : Nat) => D.tup [.int (i : Int), .int ((m.getD u []).getD i 0)])
      (fun done σ hh => ∃ ks' left' b' c', σ = [some (dW m), some (.ref h.length), some (.ref (h.length + 1)), some (.int (u : Int)), b', c'] ∧ hh = jpH h ks' left' ∧ ks'.Nodup ∧ (∀ k ∈ ks', k < m.length) ∧ (∀ k ∈ ks, k ∈ ks') ∧ (∀ k ∈ left', k ∈ ks') ∧ (∀ k ∈ left.dropLast, k ∈ left') ∧
        (∀ k ∈ ks', k ∉ left' → k ∈ ks ∧ k ∉ left.dropLast) ∧ (∀ v, v ∈ done → 0 < ent m u v → v ∈ ks') ∧ 2 * (m.length - ks'.length) + left'.length ≤ 2 * (m.length - ks.length) + left.dropLast.length ∧ (∀ S : Nat → Prop, S 0 → Clo m S → ∀ k ∈ ks', S k))
      (List.range (m.getD u []).length) (fun _ _ _ _ => okChk_nil _) (fun done x rest σ hh e i => by
        obtain ⟨ks', left', b', c', rfl, rfl, i1, i2, i3, i4, i5, i6, i7, i8, i9⟩ := i
        have hx : x < m.length := by rw [← hrow.1]; exact (range_split e).2
        have l1 : ks'.length ≤ m.length := by
          have := nd_sub ks' (List.range m.length) i1 fun x hx => List.mem_range.mpr (i2 x hx)
          simpa using this
        have l2 := hm.n10
        obtain ⟨ks2, left2, e2, alt⟩ := jpI_step m h ks' left' u x ((m.getD u []).getD x 0) (by unfold LIM; omega) (by
          unfold LIM
          rw [List.length_dropLast] at i8
          omega)
        refine ⟨_, _, _, _, rfl, .inl e2, ?_⟩
        rcases alt with ⟨rfl, rfl, z⟩ | ⟨z, zn, rfl, rfl⟩
        · refine ⟨ks2, left2, _, _, rfl, rfl, i1, i2, i3, i4, i5, i6, fun v hv pv => ?_, i8, i9⟩
          rcases List.mem_append.mp hv with hv | hv
          · exact i7 v hv pv
          · have : v = x := by simpa using hv
            subst this
            exact z pv
        · refine ⟨_, _, _, _, rfl, rfl, ?_, ?_, ?_, ?_, ?_, ?_, ?_, ?_, ?_⟩
          · rw [List.nodup_append]
            exact ⟨i1, by simp, fun a ha b hb e => zn (by
              have : b = x := by simpa using hb
              rw [← this, ← e]; exact ha)⟩
          · intro k hk
            rcases List.mem_append.mp hk with hk | hk
            · exact i2 k hk
            · have : k = x := by simpa using hk
              omega
          · exact fun k hk => List.mem_append_left _ (i3 k hk)
          · intro k hk
            rcases List.mem_append.mp hk with hk | hk
            · exact List.mem_append_left _ (i4 k hk)
            · exact List.mem_append_right _ hk
          · exact fun k hk => List.mem_append_left _ (i5 k hk)
          · intro k hk hn
            rw [List.mem_append, not_or] at hn
            rcases List.mem_append.mp hk with hk | hk
            · exact i6 k hk hn.1
            · exact absurd hk hn.2
          · intro v hv pv
            rcases List.mem_append.mp hv with hv | hv
            · exact List.mem_append_left _ (i7 v hv pv)
            · exact List.mem_append_right _ hv
          · have l3 : ks'.length + 1 ≤ m.length := by
              have := nd_sub (x :: ks') (List.range m.length) (List.nodup_cons.mpr ⟨zn, i1⟩) fun y hy => List.mem_range.mpr (by
                rcases List.mem_cons.mp hy with rfl | hy
                · exact hx
                · exact i2 y hy)
              simpa using this
            simp only [List.length_append, List.length_cons, List.length_nil]
            omega
          · intro S s0 sc k hk
            rcases List.mem_append.mp hk with hk | hk
            · exact i9 S s0 sc k hk
            · have : k = x := by simpa using hk
              subst this
              exact sc u k hul hx (j.rch S s0 sc u huk) z)
      ⟨ks, left.dropLast, b, c, rfl, rfl, j.nd, j.lt, fun _ z => z, fun k hk => j.sub k (List.dropLast_subset _ hk), fun _ z => z, fun _ z1 z2 => ⟨z1, z2⟩, fun v hv => by simp at hv, Nat.le_refl _, j.rch⟩
    exact ⟨σ', h', e1, ks', left', b', c', e2, e3, i1, i2, i3, i4, i5, i6, fun v hv => i7 v (List.mem_range.mpr hv), i8, i9⟩
  obtain ⟨σ', h', e1, ks', left', b', c', rfl, rfl, i1, i2, i3, i4, i5, i6, i7, i8, i9⟩ := inner b c
  refine ⟨ks', left', some (.int (u : Int)), b', c', ?_, ⟨i1, i2, i3 0 j.z, i4, fun k hk hn v hv pv => ?_, i9⟩, ?_⟩
  · unfold jpB
    have e2 : (jpH h ks left)[h.length + 1]? = some (.lst (pN left)) := by unfold jpH; exact hg1 ..
    have e3 : (jpH h ks left).set (h.length + 1) (.lst (pN left).dropLast) = jpH h ks left.dropLast := by unfold jpH; rw [hs1, ed]
    simp only [fn, fnK, gIsN, gNotN, isNon, sNop, sSeq, sEx, sRet, sIf, sBrk, sCnt, sAsg, gVar, gAll, gTup, gSub, sAug, sAugS, sPar2, sPar3, eVar, eC, aNil, aCons, eAp, eAp1_eq, eAp2_eq, tB, tAnd, tOr, tNot, tTT, eT, eIf, eAnd, eOr, eNot, eCh, oNo, oP, eSl, eMtL, eTup_eq, eLst_eq, eLstR_eq, Res.bind_ok, Res.bind_bad, Res.bind_exc, List.map_cons, List.map_nil, List.length_cons, List.length_nil, List.replicate, List.cons_append, List.nil_append, List.getElem?_cons_zero, List.getElem?_cons_succ, List.set_cons_zero, List.set_cons_succ, if_true, if_false, Nat.reduceAdd, Nat.reduceSub, Nat.reduceEqDiff, reduceIte, Bool.false_eq_true, lstOf, e2, Option.isSome_some, mPop, e0, e3, sFor, iEn, gIx_dW hul, dI, seqOf, chkOf, enum_ints, e1]
  · by_cases hku : k = u
    · subst hku
      exact i7 v (by rw [hrow.1]; exact hv) pv
    · obtain ⟨z1, z2⟩ := i6 k hk hn
      refine i3 v (j.cl k z1 (fun z => ?_) v hv pv)
      -- k is in left but not in what is left of it: it is the last
      have hl : left = left.dropLast ++ [u] := by
        have h1 := List.dropLast_concat_getLast hne
        have h2 : left.getLast hne = u := by
          rw [List.getLast_eq_getElem]
          have := (List.getElem?_eq_some_iff.mp hu).2
          exact this
        rw [← h2]; exact h1.symm
      rw [hl, List.mem_append] at z
      rcases z with z | z
      · exact z2 z
      · exact hku (by simpa using z)
  · rw [List.length_dropLast] at i8
    have := List.length_pos_iff.mpr hne
    omega
theorem jq_loop {m : List (List Int)} (hm : Sq m) (h : Hd) : ∀ (M : Nat) (ks left : List Nat) (a b c : Option D), JQ m ks left → 2 * (m.length - ks.length) + left.length ≤ M → M ≤ 1000 →
    ∃ ks' a' b' c', sWh jpC jpB [some (dW m), some (.ref h.length), some (.ref (h.length + 1)), a, b, c] (jpH h ks left) = .ok (.nx [some (dW m), some (.ref h.length), some (.ref (h.length + 1)), a', b', c']) (jpH h ks' []) ∧ JQ m ks' []
  | M, ks, [], a, b, c, j, _, _ => ⟨ks, a, b, c, by rw [sWh_eq, jpC_eq]; simp, j⟩
  | 0, ks, x :: l, a, b, c, j, hM, _ => by simp at hM
  | M + 1, ks, x :: l, a, b, c, j, hM, hM2 => by
    obtain ⟨ks', left', a', b', c', e, j', lt⟩ := jqB_step hm h ks (x :: l) j (by simp) (by omega) a b c
    obtain ⟨ks2, a2, b2, c2, e2, j2⟩ := jq_loop hm h M ks' left' a' b' c' j' (by omega) (by omega)
    exact ⟨ks2, a2, b2, c2, by rw [sWh_eq, jpC_eq]; simp [e, e2], j2⟩
theorem joined_any {m : List (List Int)} (hm : Sq m) (h : Hd) : ∃ ks vs, f_joined_places [dW m] h = .ok (.dct ks vs) h ∧ (ks.length = m.length ↔ Con m) := by
  have j0 : JQ m [0] [0] := ⟨by simp, (fun k hk => by have := hm.n1; simp at hk; omega), by simp, by simp, fun k hk hn => absurd hk hn, fun S s0 _ k hk => by rw [List.mem_singleton.mp hk]; exact s0⟩
  have l10 := hm.n10
  obtain ⟨ks, a, b, c, e, j⟩ := jq_loop hm h 100 [0] [0] none none none j0 (by simp; omega) (by omega)
  refine ⟨pN ks, pT ks, ?_, ?_⟩
  · unfold f_joined_places
    have e1 : ∀ σ, sWh (tB (eAp2 gNe (eVar 2) (eLst aNil))) (sSeq (sAsg (eMtL mPop (eVar 2) aNil) (gVar 3))
  (sFor (gTup [(gVar 4), (gVar 5)]) (iEn (aCons (eAp2 gIx (eVar 0) (eVar 3)) aNil)) (sIf (tAnd (tB (eAp2 gGt (eVar 5) (eC (.int 0)))) (tB (eAp2 (inDc true) (eVar 4) (eVar 1)))) (sSeq (sAsg (eC (.bl true)) (gSub (eVar 1) (eVar 4) gSet))
  (sEx (eMtL mAppend (eVar 2) (aCons (eVar 4) aNil)))) sNop))) σ = sWh jpC jpB σ := fun σ => rfl
    have e2 : h ++ [.dct [.int 0] [.bl true]] ++ [.lst [.int 0]] = jpH h [0] [0] := by simp [jpH, pN, pT]
    have e3 : (h ++ [Ob.dct [.int 0] [.bl true]]).length = h.length + 1 := by simp
    have e4 : (1 : Nat) ≤ LIM := by decide
    simp only [fn, fnK, gIsN, gNotN, isNon, sNop, sSeq, sEx, sRet, sIf, sBrk, sCnt, sAsg, gVar, gAll, gTup, gSub, sAug, sAugS, sPar2, sPar3, eVar, eC, aNil, aCons, eAp, eAp1_eq, eAp2_eq, tB, tAnd, tOr, tNot, tTT, eT, eIf, eAnd, eOr, eNot, eCh, oNo, oP, eSl, eMtL, eTup_eq, eLst_eq, eLstR_eq, Res.bind_ok, Res.bind_bad, Res.bind_exc, List.map_cons, List.map_nil, List.length_cons, List.length_nil, List.replicate, List.cons_append, List.nil_append, List.getElem?_cons_zero, List.getElem?_cons_succ, List.set_cons_zero, List.set_cons_succ, if_true, if_false, Nat.reduceAdd, Nat.reduceSub, Nat.reduceEqDiff, reduceIte, Bool.false_eq_true, eDsp1, dEnd, e1, e2, e3, e4, e]
    unfold jpH
    exact fin_dct (pN_noRef _ _) (pT_noRef _ _)
  · have h4 : (pN ks).length = ks.length := by unfold pN; simp
    rw [h4]
    exact len_con j.nd j.lt j.z (fun u hu v hv hp => j.cl u hu (by simp) v hv hp) j.rch
def stepR (m : List (List Int)) (l : List Nat) (v : Nat) : List Nat := l ++ (List.range m.length).filter fun w => decide (0 < ent m v w) && !decide (w ∈ l)
structure RQ (m : List (List Int)) (l : List Nat) : Prop where
  nd : l.Nodup
  lt : ∀ k ∈ l, k < m.length
  z : 0 ∈ l
  rch : ∀ S : Nat → Prop, S 0 → Clo m S → ∀ k ∈ l, S k
theorem RQ.step {m : List (List Int)} {l : List Nat} {v : Nat} (q : RQ m l) (hv : v ∈ l) : RQ m (stepR m l v) := by
  unfold stepR
  refine ⟨?_, fun k hk => ?_, List.mem_append_left _ q.z, fun S s0 sc k hk => ?_⟩
  · rw [List.nodup_append]
    refine ⟨q.nd, List.nodup_range.sublist List.filter_sublist, fun a ha b hb e => ?_⟩
    have := (List.mem_filter.mp hb).2
    subst e
    simp [ha] at this
  · rcases List.mem_append.mp hk with hk | hk
    · exact q.lt k hk
    · exact List.mem_range.mp (List.mem_filter.mp hk).1
  · rcases List.mem_append.mp hk with hk | hk
    · exact q.rch S s0 sc k hk
    · have h1 := List.mem_filter.mp hk
      have h2 : 0 < ent m v k := by
        have := h1.2
        simp only [Bool.and_eq_true, decide_eq_true_eq] at this
        exact this.1
      exact sc v k (q.lt v hv) (List.mem_range.mp h1.1) (q.rch S s0 sc v hv) h2
end BR

namespace BR
open PySem
local macro_rules
  | `(tactic| and_intros) => `(tactic| repeat (first | (with_reducible refine rs_seq ?_) | (with_reducible refine rs_asg ?_) | (with_reducible refine re_apK ?_) | (with_reducible refine re_ap ?_) | (with_reducible refine ra_cons ?_) | (with_reducible refine ra_nil ?_) | (with_reducible refine re_c ?_) | (with_reducible refine re_ap2 ?_) | (with_reducible refine re_ap1 ?_) | (with_reducible refine rg_var ?_) | (with_reducible refine rk_nx ?_) | (with_reducible refine rk_N ?_) | (with_reducible refine rs_if ?_) | (with_reducible refine rt_B ?_) | (with_reducible refine rs_ex ?_) | (with_reducible refine rs_ret ?_) | (with_reducible refine rt_not ?_) | (with_reducible refine re_T ?_) | (with_reducible refine rk_rt ?_) | (with_reducible refine re_mt ?_) | (with_reducible refine re_mx ?_) | (with_reducible refine re_sl ?_) | (with_reducible refine ro_no ?_) | (with_reducible refine ro_p ?_) | (with_reducible refine rg_add ?_) | (with_reducible refine rg_sbt ?_) | (with_reducible refine rg_iadd ?_) | (with_reducible refine rg_isub ?_) | (with_reducible refine rg_neg ?_) | (with_reducible refine rg_lt ?_) | (with_reducible refine rg_le ?_) | (with_reducible refine rg_gt ?_) | (with_reducible refine rg_ge ?_) | (with_reducible refine rg_isb ?_) | (with_reducible refine rg_isnb ?_) | (with_reducible refine rg_eqI ?_) | (with_reducible refine rg_neI ?_) | (with_reducible refine rg_eqR ?_) | (with_reducible refine rg_lenW ?_) | (with_reducible refine rg_lenI ?_) | (with_reducible refine rg_lenT ?_) | (with_reducible refine rg_lenL ?_) | (with_reducible refine rg_sumI ?_) | (with_reducible refine rg_sumL ?_) | (with_reducible refine rg_intI ?_) | (with_reducible refine rg_intB ?_) | (with_reducible refine rg_tupL ?_) | (with_reducible refine rs_nop ?_) | (with_reducible refine re_tup ?_) | (with_reducible refine re_lst ?_) | (with_reducible refine re_lstR ?_) | (with_reducible refine al0 ?_) | (with_reducible refine al1 ?_) | (with_reducible refine al2 ?_) | (with_reducible refine al3 ?_) | (with_reducible refine al4 ?_) | (with_reducible refine al5 ?_) | (with_reducible refine al6 ?_) | (with_reducible refine re_and ?_) | (with_reducible refine re_or ?_) | (with_reducible refine re_not ?_) | (with_reducible refine re_ch ?_) | (with_reducible refine re_if ?_) | (with_reducible refine rt_and ?_) | (with_reducible refine rt_or ?_) | (with_reducible refine rt_TT ?_) | (with_reducible refine rs_for ?_) | (with_reducible refine ri_val ?_) | (with_reducible refine ri_rg1 ?_) | (with_reducible refine ri_rg2 ?_) | (with_reducible refine ri_en ?_) | (with_reducible refine ri_zip ?_) | (with_reducible refine re_is ?_) | (with_reducible refine rt_B ?_) | (with_reducible refine re_lc ?_) | (with_reducible refine rl_in ?_) | (with_reducible refine rl_one ?_) | (with_reducible refine rs_par2 ?_) | (with_reducible refine rs_par3 ?_) | (with_reducible refine rg_tup ?_) | (with_reducible refine rg_all ?_) | (with_reducible refine rg_all_nil ?_) | (with_reducible refine rg_sub ?_) | (with_reducible refine rs_augS ?_) | (with_reducible refine re_var ?_; refine ⟨_, rfl, ?_⟩) | (with_reducible refine rs_aug ?_; refine ⟨_, rfl, ?_⟩) | refine ⟨_, rfl, ?_⟩ | with_reducible refine ⟨_, _, rfl, ?_⟩ | with_reducible refine ⟨_, _, _, rfl, ?_⟩ | refine ⟨⟨rfl, rfl⟩, ?_⟩ | refine ⟨by unfold BIG; omega, ?_⟩))
def IsW (d : D) : Prop := ∃ m, d = dW m ∧ IsWeb m
def natD : D → Bool
  | .int i => decide (0 ≤ i)
  | _ => false
def rowOk (n : Nat) (x : D) : Bool := isRow n x && match x with
  | .tup ys => ys.all natD
  | _ => false
theorem ints_get : ∀ ys : List D, ys.all isInt = true → ∃ r : List Int, ys = r.map D.int
  | [], _ => ⟨[], rfl⟩
  | y :: ys, e => by
    rw [List.all_cons, Bool.and_eq_true] at e
    obtain ⟨r, er⟩ := ints_get ys e.2
    cases y with
    | int i => exact ⟨i :: r, by rw [er]; rfl⟩
    | _ => cases e.1
theorem isRow_get {n : Nat} {x : D} (e : isRow n x = true) : ∃ r, x = dI r ∧ r.length = n := by
  cases x with
  | tup ys =>
    unfold isRow at e
    simp only [Bool.and_eq_true, decide_eq_true_eq] at e
    obtain ⟨r, rfl⟩ := ints_get ys e.2
    exact ⟨r, rfl, by simpa using e.1⟩
  | _ => cases e
theorem rows_get {n : Nat} : ∀ xs : List D, (∀ x ∈ xs, isRow n x = true) → ∃ m : List (List Int), xs = m.map dI ∧ ∀ r ∈ m, r.length = n ∧ True
  | [], _ => ⟨[], rfl, fun r hr => by cases hr⟩
  | x :: xs, e => by
    obtain ⟨m, em, hm⟩ := rows_get xs fun y hy => e y (List.mem_cons_of_mem _ hy)
    obtain ⟨r, er, lr⟩ := isRow_get (e x List.mem_cons_self)
    refine ⟨r :: m, by rw [em, er]; rfl, fun y hy => ?_⟩
    rcases List.mem_cons.mp hy with rfl | hy
    · exact ⟨lr, trivial⟩
    · exact hm y hy
theorem isRow_dI (n : Nat) (r : List Int) : isRow n (dI r) = decide (r.length = n) := by
  have : (r.map D.int).all isInt = true := by
    rw [List.all_eq_true]
    intro d hd
    obtain ⟨i, _, rfl⟩ := List.mem_map.mp hd
    rfl
  show (decide ((r.map D.int).length = n) && (r.map D.int).all isInt) = _
  rw [this, Bool.and_true, List.length_map]
theorem natD_dI (r : List Int) : (r.map D.int).all natD = decide (∀ i ∈ r, 0 ≤ i) := by
  rw [Bool.eq_iff_iff, List.all_eq_true, decide_eq_true_iff]
  constructor
  · intro h i hi
    have := h _ (List.mem_map.mpr ⟨i, hi, rfl⟩)
    exact of_decide_eq_true this
  · intro h d hd
    obtain ⟨i, hi, rfl⟩ := List.mem_map.mp hd
    exact decide_eq_true (h i hi)
theorem rowOk_dI (n : Nat) (r : List Int) : rowOk n (dI r) = (decide (r.length = n) && decide (∀ i ∈ r, 0 ≤ i)) := by
  show (isRow n (dI r) && (r.map D.int).all natD) = _
  rw [isRow_dI, natD_dI]
theorem isW_len {xs : List D} (w : IsW (.tup xs)) : 1 ≤ xs.length ∧ xs.length ≤ 10 ∧ ∀ x ∈ xs, rowOk xs.length x = true := by
  obtain ⟨m, e, hm⟩ := w
  have e : xs = m.map dI := by unfold dW at e; injection e
  subst e
  rw [List.length_map]
  refine ⟨hm.n1, hm.n10, fun x hx => ?_⟩
  obtain ⟨r, hr, rfl⟩ := List.mem_map.mp hx
  obtain ⟨a, b⟩ := hm.row r hr
  rw [rowOk_dI, decide_eq_true a, decide_eq_true b]; rfl
theorem dW_inj {a b : List (List Int)} (e : dW a = dW b) : a = b := by
  have i1 : ∀ x y : List Int, dI x = dI y → x = y := fun x y e => by
    have e : x.map D.int = y.map D.int := by unfold dI at e; injection e
    exact List.map_inj_right (fun u v h => by injection h) |>.mp e
  have e : a.map dI = b.map dI := by unfold dW at e; injection e
  exact List.map_inj_right i1 |>.mp e
/-- comprehensions over any data -/
theorem rn_lcX {gt : EG} {e : EE} {σ : Sg} {h : Hd} (val : D → D) (xs : List D) {Q : List D → Hd → Prop}
    (hs : ∀ x, x ∈ xs → Rn (gt x σ h) fun σ1 h1 => Rn (e σ1 h1) fun d h2 => d = val x ∧ h2 = h) (hd : Q (xs.map val) h) : Rn (lcF gt tTT (lcOne e) [] σ xs h) Q := by
  have := rn_lcP (gt := gt) (e := e) (σ := σ) (h := h) (Q := Q) id val xs (fun i x hx => hs x (List.mem_of_getElem? hx)) hd
  rwa [List.map_id] at this
theorem all_pairs {m : List (List Int)} : (((List.range m.length).map fun u => (List.range m.length).map fun v => decide (ent m u v = ent m v u) && decide (ent m u u = 0)).flatten.all fun b => b) = true ↔ ∀ u v, u < m.length → v < m.length → ent m u v = ent m v u ∧ ent m u u = 0 := by
  rw [List.all_eq_true]
  constructor
  · intro h u v hu hv
    have := h _ (List.mem_flatten.mpr ⟨_, List.mem_map.mpr ⟨u, List.mem_range.mpr hu, rfl⟩, List.mem_map.mpr ⟨v, List.mem_range.mpr hv, rfl⟩⟩)
    simpa using this
  · intro h b hb
    obtain ⟨l, hl, hb⟩ := List.mem_flatten.mp hb
    obtain ⟨u, hu, rfl⟩ := List.mem_map.mp hl
    obtain ⟨v, hv, rfl⟩ := List.mem_map.mp hb
    simpa using h u v (List.mem_range.mp hu) (List.mem_range.mp hv)
theorem pairs_eq {m : List (List Int)} (hm : Sq m) (w2 w3 w4 : Option D) (h : Hd) : eLc false [3, 4] (iRg1 (aCons (eVar 1) aNil)) (gVar 3) tTT (lcIn [4] (iRg1 (aCons (eVar 1) aNil)) (gVar 4) tTT (lcOne (eAnd (eAp2 gEq (eAp2 gIx (eAp2 gIx (eVar 0) (eVar 3)) (eVar 4)) (eAp2 gIx (eAp2 gIx (eVar 0) (eVar 4)) (eVar 3))) (eAp2 gEq (eAp2 gIx (eAp2 gIx (eVar 0) (eVar 3)) (eVar 3)) (eC (.int 0)))))) [some (dW m), some (.int m.length), w2, w3, w4] h =
      .ok (.lst (((List.range m.length).map fun u => (List.range m.length).map fun v => decide (ent m u v = ent m v u) && decide (ent m u u = 0)).flatten.map fun b => .bl b)) h := by
  have l10 := hm.n10
  have hat : ∀ u v, u < m.length → v < m.length → gIx [dI (m.getD u []), .int (v : Int)] h = .ok (.int (ent m u v)) h := fun u v hu hv => by
    have hr := (hm.row (m.getD u []) (by simp [hu])).1
    exact gIx_dI (by rw [hr]; exact hv) h
  have hb : -BIG ≤ (m.length : Int) ∧ (m.length : Int) ≤ BIG := by unfold BIG; omega
  have hr : rngItems 0 (m.length : Int).toNat = (List.range m.length).map fun (i : Nat) => D.int (i : Int) := by
    unfold rngItems
    simp
  simp only [eLc, lcIn, wipe, fn, fnK, gIsN, gNotN, isNon, sNop, sSeq, sEx, sRet, sIf, sBrk, sCnt, sAsg, gVar, gAll, gTup, gSub, sAug, sAugS, sPar2, sPar3, eVar, eC, aNil, aCons, eAp, eAp1_eq, eAp2_eq, tB, tAnd, tOr, tNot, tTT, eT, eIf, eAnd, eOr, eNot, eCh, oNo, oP, eSl, eMtL, eTup_eq, eLst_eq, eLstR_eq, Res.bind_ok, Res.bind_bad, Res.bind_exc, List.map_cons, List.map_nil, List.length_cons, List.length_nil, List.replicate, List.cons_append, List.nil_append, List.getElem?_cons_zero, List.getElem?_cons_succ, List.set_cons_zero, List.set_cons_succ, if_true, if_false, Nat.reduceAdd, Nat.reduceSub, Nat.reduceEqDiff, reduceIte, Bool.false_eq_true, iRg1, hb, and_self, hr]
  rw [lcF_map (fun (i : Nat) => D.int (i : Int)) (fun u => (List.range m.length).map fun v => D.bl (decide (ent m u v = ent m v u) && decide (ent m u u = 0))) (List.range m.length) fun u hu => ⟨_, rfl, rfl, by
    have hu := List.mem_range.mp hu
    simp only [fn, fnK, gIsN, gNotN, isNon, sNop, sSeq, sEx, sRet, sIf, sBrk, sCnt, sAsg, gVar, gAll, gTup, gSub, sAug, sAugS, sPar2, sPar3, eVar, eC, aNil, aCons, eAp, eAp1_eq, eAp2_eq, tB, tAnd, tOr, tNot, tTT, eT, eIf, eAnd, eOr, eNot, eCh, oNo, oP, eSl, eMtL, eTup_eq, eLst_eq, eLstR_eq, Res.bind_ok, Res.bind_bad, Res.bind_exc, List.map_cons, List.map_nil, List.length_cons, List.length_nil, List.replicate, List.cons_append, List.nil_append, List.getElem?_cons_zero, List.getElem?_cons_succ, List.set_cons_zero, List.set_cons_succ, if_true, if_false, Nat.reduceAdd, Nat.reduceSub, Nat.reduceEqDiff, reduceIte, Bool.false_eq_true, lcIn, iRg1, wipe, hb, and_self, hr]
    rw [lcF_one (fun (i : Nat) => D.int (i : Int)) (fun v => D.bl (decide (ent m u v = ent m v u) && decide (ent m u u = 0))) (List.range m.length) fun v hv => ⟨_, rfl, rfl, by
      have hv := List.mem_range.mp hv
      by_cases z : ent m u v = ent m v u
      · simp only [fn, fnK, gIsN, gNotN, isNon, sNop, sSeq, sEx, sRet, sIf, sBrk, sCnt, sAsg, gVar, gAll, gTup, gSub, sAug, sAugS, sPar2, sPar3, eVar, eC, aNil, aCons, eAp, eAp1_eq, eAp2_eq, tB, tAnd, tOr, tNot, tTT, eT, eIf, eAnd, eOr, eNot, eCh, oNo, oP, eSl, eMtL, eTup_eq, eLst_eq, eLstR_eq, Res.bind_ok, Res.bind_bad, Res.bind_exc, List.map_cons, List.map_nil, List.length_cons, List.length_nil, List.replicate, List.cons_append, List.nil_append, List.getElem?_cons_zero, List.getElem?_cons_succ, List.set_cons_zero, List.set_cons_succ, if_true, if_false, Nat.reduceAdd, Nat.reduceSub, Nat.reduceEqDiff, reduceIte, Bool.false_eq_true, gIx_dW hu, gIx_dW hv, hat u v hu hv, hat v u hv hu, hat u u hu hu, gEq_int, z, decide_true, Bool.true_and]
      · simp only [fn, fnK, gIsN, gNotN, isNon, sNop, sSeq, sEx, sRet, sIf, sBrk, sCnt, sAsg, gVar, gAll, gTup, gSub, sAug, sAugS, sPar2, sPar3, eVar, eC, aNil, aCons, eAp, eAp1_eq, eAp2_eq, tB, tAnd, tOr, tNot, tTT, eT, eIf, eAnd, eOr, eNot, eCh, oNo, oP, eSl, eMtL, eTup_eq, eLst_eq, eLstR_eq, Res.bind_ok, Res.bind_bad, Res.bind_exc, List.map_cons, List.map_nil, List.length_cons, List.length_nil, List.replicate, List.cons_append, List.nil_append, List.getElem?_cons_zero, List.getElem?_cons_succ, List.set_cons_zero, List.set_cons_succ, if_true, if_false, Nat.reduceAdd, Nat.reduceSub, Nat.reduceEqDiff, reduceIte, Bool.false_eq_true, gIx_dW hu, gIx_dW hv, hat u v hu hv, hat v u hv hu, hat u u hu hu, gEq_int, z, decide_false, Bool.false_and]⟩]⟩]
  have e : ((List.range m.length).map fun u => (List.range m.length).map fun v => D.bl (decide (ent m u v = ent m v u) && decide (ent m u u = 0))).flatten = (((List.range m.length).map fun u => (List.range m.length).map fun v => decide (ent m u v = ent m v u) && decide (ent m u u = 0)).flatten.map fun b => .bl b) := by
    simp [List.map_flatten, Function.comp_def]
  have : (((List.range m.length).map fun u => (List.range m.length).map fun v => D.bl (decide (ent m u v = ent m v u) && decide (ent m u u = 0))).flatten).length ≤ LIM := by
    have e : ((List.range m.length).map fun u => (List.range m.length).map fun v => D.bl (decide (ent m u v = ent m v u) && decide (ent m u u = 0))).flatten.length = m.length * m.length := by
      simp [List.length_flatten, Function.comp_def, List.map_const', List.sum_replicate_nat]
    rw [e]
    unfold LIM
    have : m.length * m.length ≤ 10 * 10 := Nat.mul_le_mul l10 l10
    omega
  simp only [Res.bind_ok, lcEnd, this, if_true, Bool.false_eq_true, if_false]
  rw [e]
theorem web_of {m : List (List Int)} (hm : Sq m) (nn : ∀ r ∈ m, ∀ i ∈ r, 0 ≤ i) (sy : ∀ u v, u < m.length → v < m.length → ent m u v = ent m v u ∧ ent m u u = 0) (su : (m.map List.sum).sum ≤ 24) (co : Con m) : IsWeb m :=
  ⟨hm.n1, hm.n10, fun r hr => ⟨(hm.row r hr).1, nn r hr⟩, fun u v hu hv => (sy u v hu hv).1, fun u hu => (sy u u hu hu).2, su, fun S s0 sc => co S s0 sc⟩
theorem is_web_any {d : D} (dt : Dat 4 d) (h : Hd) : ∃ b, f_is_web [d] h = .ok (.bl b) h ∧ (b = true ↔ IsW d) := by
  have no : ∀ d : D, (∀ xs, d ≠ .tup xs) → (false = true ↔ IsW d) := fun d hd => ⟨fun z => (by cases z), fun ⟨m, e, _⟩ => absurd e (hd _)⟩
  cases dt with
  | non => exact ⟨false, by simp [f_is_web, fn, fnK, gIsN, gNotN, isNon, sNop, sSeq, sEx, sRet, sIf, sBrk, sCnt, sAsg, gVar, gAll, gTup, gSub, sAug, sAugS, sPar2, sPar3, eVar, eC, aNil, aCons, eAp, eAp1_eq, eAp2_eq, tB, tAnd, tOr, tNot, tTT, eT, eIf, eAnd, eOr, eNot, eCh, oNo, oP, eSl, eMtL, eTup_eq, eLst_eq, eLstR_eq, Res.bind_ok, Res.bind_bad, Res.bind_exc, List.map_cons, List.map_nil, List.length_cons, List.length_nil, List.replicate, List.cons_append, List.nil_append, List.getElem?_cons_zero, List.getElem?_cons_succ, List.set_cons_zero, List.set_cons_succ, if_true, if_false, Nat.reduceAdd, Nat.reduceSub, Nat.reduceEqDiff, reduceIte, Bool.false_eq_true, eIs, tyOf, subTy, fin_bl], no _ fun xs e => by cases e⟩
  | bl b => exact ⟨false, by simp [f_is_web, fn, fnK, gIsN, gNotN, isNon, sNop, sSeq, sEx, sRet, sIf, sBrk, sCnt, sAsg, gVar, gAll, gTup, gSub, sAug, sAugS, sPar2, sPar3, eVar, eC, aNil, aCons, eAp, eAp1_eq, eAp2_eq, tB, tAnd, tOr, tNot, tTT, eT, eIf, eAnd, eOr, eNot, eCh, oNo, oP, eSl, eMtL, eTup_eq, eLst_eq, eLstR_eq, Res.bind_ok, Res.bind_bad, Res.bind_exc, List.map_cons, List.map_nil, List.length_cons, List.length_nil, List.replicate, List.cons_append, List.nil_append, List.getElem?_cons_zero, List.getElem?_cons_succ, List.set_cons_zero, List.set_cons_succ, if_true, if_false, Nat.reduceAdd, Nat.reduceSub, Nat.reduceEqDiff, reduceIte, Bool.false_eq_true, eIs, tyOf, subTy, fin_bl], no _ fun xs e => by cases e⟩
  | int i => exact ⟨false, by simp [f_is_web, fn, fnK, gIsN, gNotN, isNon, sNop, sSeq, sEx, sRet, sIf, sBrk, sCnt, sAsg, gVar, gAll, gTup, gSub, sAug, sAugS, sPar2, sPar3, eVar, eC, aNil, aCons, eAp, eAp1_eq, eAp2_eq, tB, tAnd, tOr, tNot, tTT, eT, eIf, eAnd, eOr, eNot, eCh, oNo, oP, eSl, eMtL, eTup_eq, eLst_eq, eLstR_eq, Res.bind_ok, Res.bind_bad, Res.bind_exc, List.map_cons, List.map_nil, List.length_cons, List.length_nil, List.replicate, List.cons_append, List.nil_append, List.getElem?_cons_zero, List.getElem?_cons_succ, List.set_cons_zero, List.set_cons_succ, if_true, if_false, Nat.reduceAdd, Nat.reduceSub, Nat.reduceEqDiff, reduceIte, Bool.false_eq_true, eIs, tyOf, subTy, fin_bl], no _ fun xs e => by cases e⟩
  | str i => exact ⟨false, by simp [f_is_web, fn, fnK, gIsN, gNotN, isNon, sNop, sSeq, sEx, sRet, sIf, sBrk, sCnt, sAsg, gVar, gAll, gTup, gSub, sAug, sAugS, sPar2, sPar3, eVar, eC, aNil, aCons, eAp, eAp1_eq, eAp2_eq, tB, tAnd, tOr, tNot, tTT, eT, eIf, eAnd, eOr, eNot, eCh, oNo, oP, eSl, eMtL, eTup_eq, eLst_eq, eLstR_eq, Res.bind_ok, Res.bind_bad, Res.bind_exc, List.map_cons, List.map_nil, List.length_cons, List.length_nil, List.replicate, List.cons_append, List.nil_append, List.getElem?_cons_zero, List.getElem?_cons_succ, List.set_cons_zero, List.set_cons_succ, if_true, if_false, Nat.reduceAdd, Nat.reduceSub, Nat.reduceEqDiff, reduceIte, Bool.false_eq_true, eIs, tyOf, subTy, fin_bl], no _ fun xs e => by cases e⟩
  | lst a b => exact ⟨false, by simp [f_is_web, fn, fnK, gIsN, gNotN, isNon, sNop, sSeq, sEx, sRet, sIf, sBrk, sCnt, sAsg, gVar, gAll, gTup, gSub, sAug, sAugS, sPar2, sPar3, eVar, eC, aNil, aCons, eAp, eAp1_eq, eAp2_eq, tB, tAnd, tOr, tNot, tTT, eT, eIf, eAnd, eOr, eNot, eCh, oNo, oP, eSl, eMtL, eTup_eq, eLst_eq, eLstR_eq, Res.bind_ok, Res.bind_bad, Res.bind_exc, List.map_cons, List.map_nil, List.length_cons, List.length_nil, List.replicate, List.cons_append, List.nil_append, List.getElem?_cons_zero, List.getElem?_cons_succ, List.set_cons_zero, List.set_cons_succ, if_true, if_false, Nat.reduceAdd, Nat.reduceSub, Nat.reduceEqDiff, reduceIte, Bool.false_eq_true, eIs, tyOf, subTy, fin_bl], no _ fun xs e => by cases e⟩
  | tup hl hd =>
    rename_i xs
    have key : Rn (f_is_web [.tup xs] h) fun r h' => ∃ b, r = .bl b ∧ h' = h ∧ (b = true ↔ IsW (.tup xs)) := by
      have out : ¬ IsW (.tup xs) → Rn (fin h (.bl false) h) fun r h' => ∃ b, r = .bl b ∧ h' = h ∧ (b = true ↔ IsW (.tup xs)) := fun z => rn_fin rfl ⟨_, rfl, rfl, ⟨fun e => (by cases e), fun w => absurd w z⟩⟩
      unfold f_is_web
      refine rf_fn rfl ?_
      and_intros
      simp only [st_0, st_1, st_2, st_3, st_4, st_5, st_6, st_7, st_8, st_9, st_10, st_11, st_12, st_13, st_14, st_15, st_16, st_17, st_18, st_19, st_20, st_21, st_22, st_23, st_24, st_25, st_26, st_27, st_28, st_29, st_30, st_31, st_32, st_33, st_34, st_35, Bool.not_true, Bool.not_false]
      refine ⟨fun z => (by cases z), fun _ => ?_⟩
      and_intros
      refine ⟨fun z1 => ?_, fun z1 => ?_⟩
      rotate_left
      · and_intros
        refine ⟨fun _ => ?_, fun z => (by cases z)⟩
        and_intros
        have z1 : ¬ (1 : Int) ≤ xs.length := of_decide_eq_false z1
        exact out fun w => by have := (isW_len w).1; omega
      have z1 : (1 : Int) ≤ xs.length := of_decide_eq_true z1
      and_intros
      refine ⟨fun z2 => ?_, fun z2 => ?_⟩
      · and_intros
        exact out fun w => by have := (isW_len w).2.1; simp at z2; omega
      have z2 : xs.length ≤ 10 := by simp at z2; omega
      and_intros
      refine rn_lcX (fun x => .bl (rowOk xs.length x)) xs (fun x hx => ?_) ?_
      · and_intros
        refine rn_eq (row_any (hd x hx) h) ?_
        refine ⟨_, rfl, fun z => ?_, fun z => ?_⟩
        · obtain ⟨r, rfl, lr⟩ := isRow_get z
          obtain ⟨a, ea⟩ : ∃ a, r.min? = some a := by
            cases r with
            | nil => simp at lr; omega
            | cons x r => exact ⟨_, List.min?_cons' ..⟩
          have ha : decide (0 ≤ a) = decide (∀ i ∈ r, 0 ≤ i) := by
            rw [Bool.eq_iff_iff, decide_eq_true_iff, decide_eq_true_iff]
            exact ⟨fun z i hi => by
              have := (List.min?_eq_some_iff.mp ea).2 i hi
              omega, fun z => z a (List.min?_mem ea)⟩
          and_intros
          refine rn_eq (gMin_dI ea h) ?_
          and_intros
          refine ⟨?_, rfl⟩
          rw [rowOk_dI, decide_eq_true lr, Bool.true_and, ← ha]
        · refine ⟨?_, rfl⟩
          unfold rowOk
          rw [z, Bool.false_and]
      refine rl_end (by rw [List.length_map]; unfold LIM; omega) ?_
      and_intros
      refine rn_eq (gEvery_map (rowOk xs.length) xs h) ?_
      and_intros
      refine ⟨fun z => ?_, fun z => ?_⟩
      · and_intros
        refine out fun w => ?_
        have h1 := (isW_len w).2.2
        rw [Bool.not_eq_true', List.all_eq_false] at z
        obtain ⟨x, hx, hn⟩ := z
        exact hn (h1 x hx)
      have z : xs.all (rowOk xs.length) = true := by simpa using z
      rw [List.all_eq_true] at z
      obtain ⟨m, em, hr⟩ := rows_get xs fun x hx => by
        have := z x hx
        unfold rowOk at this
        exact (Bool.and_eq_true _ _ ▸ this).1
      have lm : xs.length = m.length := by rw [em, List.length_map]
      have hm : Sq m := ⟨by omega, by omega, by rw [← lm]; exact hr⟩
      have nn : ∀ r ∈ m, ∀ i ∈ r, 0 ≤ i := fun r hr => by
        have := z (dI r) (by rw [em]; exact List.mem_map.mpr ⟨r, hr, rfl⟩)
        rw [rowOk_dI, Bool.and_eq_true] at this
        exact of_decide_eq_true this.2
      have ed : D.tup xs = dW m := by rw [em]; rfl
      have esame : IsW (.tup xs) ↔ IsWeb m := ⟨fun ⟨m', e, w⟩ => by rw [dW_inj (ed.symm.trans e)]; exact w, fun w => ⟨m, ed, w⟩⟩
      have out2 : ¬ IsWeb m → Rn (fin h (.bl false) h) fun r h' => ∃ b, r = .bl b ∧ h' = h ∧ (b = true ↔ IsW (.tup xs)) := fun z => out (fun w => z (esame.mp w))
      clear out
      rw [esame] at *
      rw [lm, ed]
      clear z em lm ed esame
      refine rs_nop ?_
      refine rk_nx ?_
      refine rs_seq ?_
      refine rs_if ?_
      refine rt_not ?_
      refine rt_B ?_
      refine re_ap ?_
      refine ra_cons ?_
      refine rn_eq (pairs_eq hm _ _ _ _) ?_
      and_intros
      refine rn_eq (gEvery_map (fun b => b) _ h) ?_
      and_intros
      refine ⟨fun z => ?_, fun z => ?_⟩
      · and_intros
        refine out2 fun w => ?_
        rw [Bool.not_eq_true', ← Bool.not_eq_true, all_pairs] at z
        exact z fun u v hu hv => ⟨w.sym u v hu hv, w.nul u hu⟩
      rw [Bool.not_eq_false', all_pairs] at z
      and_intros
      refine rn_lcP dI (fun r => .int r.sum) m (fun i r _ => ?_) ?_
      · and_intros
        exact ⟨rfl, rfl⟩
      have l10 := hm.n10
      refine rl_end (by rw [List.length_map]; unfold LIM; omega) ?_
      rw [show m.map (fun r => D.int r.sum) = (m.map List.sum).map D.int by rw [List.map_map]; rfl]
      and_intros
      refine rn_eq (a := .int 24) (by simp only [gMul]; rw [if_pos (show mulOk 2 12 from .inl ⟨by decide, by decide⟩)]; rfl) ?_
      and_intros
      obtain ⟨ks, vs, ej, ek⟩ := joined_any hm h
      refine ⟨fun z5 => ?_, fun z5 => ?_⟩
      · and_intros
        refine rn_eq ej ?_
        and_intros
        refine rn_eq (a := .int (ks.length : Int)) (h := h) (by simp only [gLen]) ?_
        and_intros
        refine rn_fin rfl ⟨_, rfl, rfl, ?_⟩
        rw [eq_len, decide_eq_true_iff, ek]
        exact ⟨fun c => web_of hm nn z (of_decide_eq_true z5) c, fun w S s0 sc => w.con S s0 sc⟩
      · and_intros
        exact out2 fun w => by have := w.sum; have := of_decide_eq_false z5; omega
    obtain ⟨d, h', e, b, rfl, rfl, i⟩ := key
    exact ⟨b, e, i⟩
end BR

namespace BR
open PySem
local macro_rules
  | `(tactic| and_intros) => `(tactic| repeat (first | (with_reducible refine rs_seq ?_) | (with_reducible refine rs_asg ?_) | (with_reducible refine re_apK ?_) | (with_reducible refine re_ap ?_) | (with_reducible refine ra_cons ?_) | (with_reducible refine ra_nil ?_) | (with_reducible refine re_c ?_) | (with_reducible refine re_ap2 ?_) | (with_reducible refine re_ap1 ?_) | (with_reducible refine rg_var ?_) | (with_reducible refine rk_nx ?_) | (with_reducible refine rk_N ?_) | (with_reducible refine rs_if ?_) | (with_reducible refine rt_B ?_) | (with_reducible refine rs_ex ?_) | (with_reducible refine rs_ret ?_) | (with_reducible refine rt_not ?_) | (with_reducible refine re_T ?_) | (with_reducible refine rk_rt ?_) | (with_reducible refine re_mt ?_) | (with_reducible refine re_mx ?_) | (with_reducible refine re_sl ?_) | (with_reducible refine ro_no ?_) | (with_reducible refine ro_p ?_) | (with_reducible refine rg_add ?_) | (with_reducible refine rg_sbt ?_) | (with_reducible refine rg_iadd ?_) | (with_reducible refine rg_isub ?_) | (with_reducible refine rg_neg ?_) | (with_reducible refine rg_lt ?_) | (with_reducible refine rg_le ?_) | (with_reducible refine rg_gt ?_) | (with_reducible refine rg_ge ?_) | (with_reducible refine rg_isb ?_) | (with_reducible refine rg_isnb ?_) | (with_reducible refine rg_eqI ?_) | (with_reducible refine rg_neI ?_) | (with_reducible refine rg_eqR ?_) | (with_reducible refine rg_lenW ?_) | (with_reducible refine rg_lenI ?_) | (with_reducible refine rg_lenT ?_) | (with_reducible refine rg_lenL ?_) | (with_reducible refine rg_sumI ?_) | (with_reducible refine rg_sumL ?_) | (with_reducible refine rg_intI ?_) | (with_reducible refine rg_intB ?_) | (with_reducible refine rg_tupL ?_) | (with_reducible refine rs_nop ?_) | (with_reducible refine re_tup ?_) | (with_reducible refine re_lst ?_) | (with_reducible refine re_lstR ?_) | (with_reducible refine al0 ?_) | (with_reducible refine al1 ?_) | (with_reducible refine al2 ?_) | (with_reducible refine al3 ?_) | (with_reducible refine al4 ?_) | (with_reducible refine al5 ?_) | (with_reducible refine al6 ?_) | (with_reducible refine re_and ?_) | (with_reducible refine re_or ?_) | (with_reducible refine re_not ?_) | (with_reducible refine re_ch ?_) | (with_reducible refine re_if ?_) | (with_reducible refine rt_and ?_) | (with_reducible refine rt_or ?_) | (with_reducible refine rt_TT ?_) | (with_reducible refine rs_for ?_) | (with_reducible refine ri_val ?_) | (with_reducible refine ri_rg1 ?_) | (with_reducible refine ri_rg2 ?_) | (with_reducible refine ri_en ?_) | (with_reducible refine ri_zip ?_) | (with_reducible refine re_is ?_) | (with_reducible refine rt_B ?_) | (with_reducible refine re_lc ?_) | (with_reducible refine rl_in ?_) | (with_reducible refine rl_one ?_) | (with_reducible refine rs_par2 ?_) | (with_reducible refine rs_par3 ?_) | (with_reducible refine rg_tup ?_) | (with_reducible refine rg_all ?_) | (with_reducible refine rg_all_nil ?_) | (with_reducible refine rg_sub ?_) | (with_reducible refine rs_augS ?_) | (with_reducible refine re_var ?_; refine ⟨_, rfl, ?_⟩) | (with_reducible refine rs_aug ?_; refine ⟨_, rfl, ?_⟩) | refine ⟨_, rfl, ?_⟩ | with_reducible refine ⟨_, _, rfl, ?_⟩ | with_reducible refine ⟨_, _, _, rfl, ?_⟩ | refine ⟨⟨rfl, rfl⟩, ?_⟩ | refine ⟨by unfold BIG; omega, ?_⟩))
end BR

namespace BR
open PySem
local macro_rules
  | `(tactic| and_intros) => `(tactic| repeat (first | (with_reducible refine rs_seq ?_) | (with_reducible refine rs_asg ?_) | (with_reducible refine re_apK ?_) | (with_reducible refine re_ap ?_) | (with_reducible refine ra_cons ?_) | (with_reducible refine ra_nil ?_) | (with_reducible refine re_c ?_) | (with_reducible refine re_ap2 ?_) | (with_reducible refine re_ap1 ?_) | (with_reducible refine rg_var ?_) | (with_reducible refine rk_nx ?_) | (with_reducible refine rk_N ?_) | (with_reducible refine rs_if ?_) | (with_reducible refine rt_B ?_) | (with_reducible refine rs_ex ?_) | (with_reducible refine rs_ret ?_) | (with_reducible refine rt_not ?_) | (with_reducible refine re_T ?_) | (with_reducible refine rk_rt ?_) | (with_reducible refine re_mt ?_) | (with_reducible refine re_mx ?_) | (with_reducible refine re_sl ?_) | (with_reducible refine ro_no ?_) | (with_reducible refine ro_p ?_) | (with_reducible refine rg_add ?_) | (with_reducible refine rg_sbt ?_) | (with_reducible refine rg_iadd ?_) | (with_reducible refine rg_isub ?_) | (with_reducible refine rg_neg ?_) | (with_reducible refine rg_lt ?_) | (with_reducible refine rg_le ?_) | (with_reducible refine rg_gt ?_) | (with_reducible refine rg_ge ?_) | (with_reducible refine rg_isb ?_) | (with_reducible refine rg_isnb ?_) | (with_reducible refine rg_eqI ?_) | (with_reducible refine rg_neI ?_) | (with_reducible refine rg_eqR ?_) | (with_reducible refine rg_lenW ?_) | (with_reducible refine rg_lenI ?_) | (with_reducible refine rg_lenT ?_) | (with_reducible refine rg_lenL ?_) | (with_reducible refine rg_sumI ?_) | (with_reducible refine rg_sumL ?_) | (with_reducible refine rg_intI ?_) | (with_reducible refine rg_intB ?_) | (with_reducible refine rg_tupL ?_) | (with_reducible refine rs_nop ?_) | (with_reducible refine re_tup ?_) | (with_reducible refine re_lst ?_) | (with_reducible refine re_lstR ?_) | (with_reducible refine al0 ?_) | (with_reducible refine al1 ?_) | (with_reducible refine al2 ?_) | (with_reducible refine al3 ?_) | (with_reducible refine al4 ?_) | (with_reducible refine al5 ?_) | (with_reducible refine al6 ?_) | (with_reducible refine re_and ?_) | (with_reducible refine re_or ?_) | (with_reducible refine re_not ?_) | (with_reducible refine re_ch ?_) | (with_reducible refine re_if ?_) | (with_reducible refine rt_and ?_) | (with_reducible refine rt_or ?_) | (with_reducible refine rt_TT ?_) | (with_reducible refine rs_for ?_) | (with_reducible refine ri_val ?_) | (with_reducible refine ri_rg1 ?_) | (with_reducible refine ri_rg2 ?_) | (with_reducible refine ri_en ?_) | (with_reducible refine ri_zip ?_) | (with_reducible refine re_is ?_) | (with_reducible refine rt_B ?_) | (with_reducible refine re_lc ?_) | (with_reducible refine rl_in ?_) | (with_reducible refine rl_one ?_) | (with_reducible refine rs_par2 ?_) | (with_reducible refine rs_par3 ?_) | (with_reducible refine rg_tup ?_) | (with_reducible refine rg_all ?_) | (with_reducible refine rg_all_nil ?_) | (with_reducible refine rg_sub ?_) | (with_reducible refine rs_augS ?_) | (with_reducible refine re_var ?_; refine ⟨_, rfl, ?_⟩) | (with_reducible refine rs_aug ?_; refine ⟨_, rfl, ?_⟩) | refine ⟨_, rfl, ?_⟩ | with_reducible refine ⟨_, _, rfl, ?_⟩ | with_reducible refine ⟨_, _, _, rfl, ?_⟩ | refine ⟨⟨rfl, rfl⟩, ?_⟩ | refine ⟨by unfold BIG; omega, ?_⟩))
/-- things in a row, rows, things -/
def En (x : D) : Prop := Dat 2 x ∧ Shw x 8 1
def Rw (x : D) : Prop := Dat 3 x ∧ Shw x 117 2
def Tg (x : D) : Prop := Dat 4 x ∧ Shw x 1534 3
def Lf (x : D) : Prop := Dat 0 x ∧ Shw x 3 0
theorem ff_non : Lf .non := ⟨.non, shw_non _ _⟩
theorem ff_bl (b : Bool) : Lf (.bl b) := ⟨.bl b, shw_bl _ _ _⟩
theorem ff_int {i : Int} (h : i.natAbs < 10 ^ 110) : Lf (.int i) := ⟨.int i, shw_int h _ _⟩
theorem ff_one (i : Int) (h1 : -(10 ^ 40) ≤ i) (h2 : i ≤ 10 ^ 40) : Lf (.int i) := ff_int (natAbs_lt (B := 10 ^ 109) (by omega) (by omega) (by decide))
theorem Lf.en {x : D} (h : Lf x) : En x := ⟨h.1.le (by decide), h.2.le (by decide) (by decide)⟩
theorem Lf.rw {x : D} (h : Lf x) : Rw x := ⟨h.1.le (by decide), h.2.le (by decide) (by decide)⟩
theorem Lf.tg {x : D} (h : Lf x) : Tg x := ⟨h.1.le (by decide), h.2.le (by decide) (by decide)⟩
theorem rw_tup {xs : List D} (l : xs.length ≤ 13) (hx : ∀ x ∈ xs, En x) : Rw (.tup xs) := ⟨.tup (by omega) fun x h => (hx x h).1, shw_tup (n := 8) (k := 1) (fun x h => (hx x h).2) (by omega)⟩
theorem rw_lst {xs : List D} (l : xs.length ≤ 13) (hx : ∀ x ∈ xs, En x) : Rw (.lst xs) := ⟨.lst (by omega) fun x h => (hx x h).1, shw_lst (n := 8) (k := 1) (fun x h => (hx x h).2) (by omega)⟩
theorem tg_tup {xs : List D} (l : xs.length ≤ 13) (hx : ∀ x ∈ xs, Rw x) : Tg (.tup xs) := ⟨.tup (by omega) fun x h => (hx x h).1, shw_tup (n := 117) (k := 2) (fun x h => (hx x h).2) (by omega)⟩
theorem tg_lst {xs : List D} (l : xs.length ≤ 13) (hx : ∀ x ∈ xs, Rw x) : Tg (.lst xs) := ⟨.lst (by omega) fun x h => (hx x h).1, shw_lst (n := 117) (k := 2) (fun x h => (hx x h).2) (by omega)⟩
theorem alln {P : D → Prop} : ∀ x ∈ ([] : List D), P x := fun x h => by cases h
theorem allc {P : D → Prop} {a : D} {l : List D} (h : P a) (h2 : ∀ x ∈ l, P x) : ∀ x ∈ a :: l, P x := fun x hx => by
  rcases List.mem_cons.mp hx with rfl | hx
  · exact h
  · exact h2 x hx
theorem alla {P : D → Prop} {a b : List D} (h : ∀ x ∈ a, P x) (h2 : ∀ x ∈ b, P x) : ∀ x ∈ a ++ b, P x := fun x hx => by
  rcases List.mem_append.mp hx with hx | hx
  · exact h x hx
  · exact h2 x hx
/-- a square of things -/
def Gd (P : D → Prop) (n : Nat) (xs : List D) : Prop := xs.length = n ∧ ∀ x ∈ xs, ∃ ys, x = .tup ys ∧ ys.length = n ∧ ∀ y ∈ ys, P y
def IB (B : Int) (x : D) : Prop := ∃ i, x = .int i ∧ -B ≤ i ∧ i ≤ B
theorem Gd.imp {P P' : D → Prop} {n : Nat} {xs : List D} (g : Gd P n xs) (i : ∀ x, P x → P' x) : Gd P' n xs := ⟨g.1, fun x hx => by
  obtain ⟨ys, e, l, h⟩ := g.2 x hx
  exact ⟨ys, e, l, fun y hy => i y (h y hy)⟩⟩
theorem ib_en {B : Int} (hB : B ≤ 10 ^ 40) {x : D} (h : IB B x) : En x := by
  obtain ⟨i, rfl, h1, h2⟩ := h
  exact (ff_one i (by omega) (by omega)).en
theorem Gd.rw {n : Nat} {xs : List D} (g : Gd En n xs) (hn : n ≤ 12) : ∀ x ∈ xs, Rw x := fun x hx => by
  obtain ⟨ys, rfl, l, h⟩ := g.2 x hx
  exact rw_tup (by omega) h
theorem Gd.tg {n : Nat} {xs : List D} (g : Gd En n xs) (hn : n ≤ 12) : Tg (.tup xs) := tg_tup (by have := g.1; omega) (g.rw hn)
theorem Gd.at {P : D → Prop} {n : Nat} {xs : List D} (g : Gd P n xs) {u : Nat} (hu : u < n) : ∃ ys, xs.getD u .non = .tup ys ∧ ys.length = n ∧ ∀ y ∈ ys, P y := g.2 _ (getD_mem (by rw [g.1]; exact hu))
theorem Gd.set {P : D → Prop} {n : Nat} {xs ys : List D} (g : Gd P n xs) {u v : Nat} {x : D} (hx : P x) (l : ys.length = n) (h : ∀ y ∈ ys, P y) : Gd P n (xs.set u (.tup (ys.set v x))) := ⟨by rw [List.length_set]; exact g.1, fun z hz => by
  rcases List.mem_or_eq_of_mem_set hz with hz | hz
  · exact g.2 z hz
  · refine ⟨_, hz, by rw [List.length_set]; exact l, fun y hy => ?_⟩
    rcases List.mem_or_eq_of_mem_set hy with hy | hy
    · exact h y hy
    · rw [hy]; exact hx⟩
theorem gd_dW {m : List (List Int)} {n : Nat} (l : m.length = n) (hr : ∀ r ∈ m, r.length = n ∧ Bd (10 ^ 30) r) : Gd (IB (10 ^ 30)) n (m.map dI) := ⟨by rw [List.length_map]; exact l, fun x hx => by
  obtain ⟨r, h, rfl⟩ := List.mem_map.mp hx
  obtain ⟨a, b⟩ := hr r h
  refine ⟨r.map D.int, rfl, by rw [List.length_map]; exact a, fun y hy => ?_⟩
  obtain ⟨i, hi, rfl⟩ := List.mem_map.mp hy
  exact ⟨i, rfl, b i hi⟩⟩
theorem web_bd {m : List (List Int)} (hm : IsWeb m) : ∀ r ∈ m, r.length = m.length ∧ Bd (10 ^ 30) r := fun r hr => ⟨(hm.row r hr).1, fun i hi => by
  have h0 := (hm.row r hr).2 i hi
  have s1 : i ≤ r.sum := (le_sum (hm.row r hr).2).2 i hi
  have s2 : r.sum ≤ (m.map List.sum).sum := (le_sum (fun y hy => by
    obtain ⟨r', hr', rfl⟩ := List.mem_map.mp hy
    exact (le_sum (hm.row r' hr').2).1)).2 _ (List.mem_map.mpr ⟨r, hr, rfl⟩)
  have := hm.sum
  omega⟩
section
variable {c : List Int} {r h : Hd} {N : Int} {Q : D → Hd → Prop}
theorem rg_cutTF {xs : List D} {k : Nat} (hk : k ≤ xs.length) (q : Q (.tup (xs.drop k)) h) : Rn (gCut (.tup xs) (some (k : Int)) none h) Q := by
  refine ⟨_, h, ?_, q⟩
  unfold gCut cutD
  have e : HT.sIx xs.length xs.length none = xs.length := rfl
  simp only [e]
  rw [HT.sIx_nat, Nat.min_eq_left hk, List.take_of_length_le (by simp)]
theorem rg_cutTB {xs : List D} (h1 : 1 ≤ xs.length) (q : Q (.tup (xs.take (xs.length - 1))) h) : Rn (gCut (.tup xs) none (some (-1)) h) Q := by
  refine ⟨_, h, ?_, q⟩
  unfold gCut cutD
  have e : HT.sIx xs.length xs.length (some (-1)) = xs.length - 1 := by
    show (if (-1 : Int) < 0 then ((-1 : Int) + (xs.length : Int)).toNat else min (-1 : Int).toNat xs.length) = _
    rw [if_pos (by decide)]
    omega
  simp only [e]
  rfl
theorem tg_nr {x : D} (h : Tg x) (k : Nat) : noRef k x = true := by
  obtain ⟨p, h1, _⟩ := h.2
  exact noRef_py k [] x (h1 [])
end
end BR

namespace BR
open PySem
local macro_rules
  | `(tactic| and_intros) => `(tactic| repeat (first | (with_reducible refine rs_seq ?_) | (with_reducible refine rs_asg ?_) | (with_reducible refine re_apK ?_) | (with_reducible refine re_ap ?_) | (with_reducible refine ra_cons ?_) | (with_reducible refine ra_nil ?_) | (with_reducible refine re_c ?_) | (with_reducible refine re_ap2 ?_) | (with_reducible refine re_ap1 ?_) | (with_reducible refine rg_var ?_) | (with_reducible refine rk_nx ?_) | (with_reducible refine rk_N ?_) | (with_reducible refine rs_if ?_) | (with_reducible refine rt_B ?_) | (with_reducible refine rs_ex ?_) | (with_reducible refine rs_ret ?_) | (with_reducible refine rt_not ?_) | (with_reducible refine re_T ?_) | (with_reducible refine rk_rt ?_) | (with_reducible refine re_mt ?_) | (with_reducible refine re_mx ?_) | (with_reducible refine re_sl ?_) | (with_reducible refine ro_no ?_) | (with_reducible refine ro_p ?_) | (with_reducible refine rg_add ?_) | (with_reducible refine rg_sbt ?_) | (with_reducible refine rg_iadd ?_) | (with_reducible refine rg_isub ?_) | (with_reducible refine rg_neg ?_) | (with_reducible refine rg_lt ?_) | (with_reducible refine rg_le ?_) | (with_reducible refine rg_gt ?_) | (with_reducible refine rg_ge ?_) | (with_reducible refine rg_isb ?_) | (with_reducible refine rg_isnb ?_) | (with_reducible refine rg_eqI ?_) | (with_reducible refine rg_neI ?_) | (with_reducible refine rg_eqR ?_) | (with_reducible refine rg_lenW ?_) | (with_reducible refine rg_lenI ?_) | (with_reducible refine rg_lenT ?_) | (with_reducible refine rg_lenL ?_) | (with_reducible refine rg_sumI ?_) | (with_reducible refine rg_sumL ?_) | (with_reducible refine rg_intI ?_) | (with_reducible refine rg_intB ?_) | (with_reducible refine rg_tupL ?_) | (with_reducible refine rs_nop ?_) | (with_reducible refine re_tup ?_) | (with_reducible refine re_lst ?_) | (with_reducible refine re_lstR ?_) | (with_reducible refine al0 ?_) | (with_reducible refine al1 ?_) | (with_reducible refine al2 ?_) | (with_reducible refine al3 ?_) | (with_reducible refine al4 ?_) | (with_reducible refine al5 ?_) | (with_reducible refine al6 ?_) | (with_reducible refine re_and ?_) | (with_reducible refine re_or ?_) | (with_reducible refine re_not ?_) | (with_reducible refine re_ch ?_) | (with_reducible refine re_if ?_) | (with_reducible refine rt_and ?_) | (with_reducible refine rt_or ?_) | (with_reducible refine rt_TT ?_) | (with_reducible refine rs_for ?_) | (with_reducible refine ri_val ?_) | (with_reducible refine ri_rg1 ?_) | (with_reducible refine ri_rg2 ?_) | (with_reducible refine ri_en ?_) | (with_reducible refine ri_zip ?_) | (with_reducible refine re_is ?_) | (with_reducible refine rt_B ?_) | (with_reducible refine re_lc ?_) | (with_reducible refine rl_in ?_) | (with_reducible refine rl_one ?_) | (with_reducible refine rs_par2 ?_) | (with_reducible refine rs_par3 ?_) | (with_reducible refine rg_tup ?_) | (with_reducible refine rg_all ?_) | (with_reducible refine rg_all_nil ?_) | (with_reducible refine rg_sub ?_) | (with_reducible refine rs_augS ?_) | (with_reducible refine re_var ?_; refine ⟨_, rfl, ?_⟩) | (with_reducible refine rs_aug ?_; refine ⟨_, rfl, ?_⟩) | refine ⟨_, rfl, ?_⟩ | with_reducible refine ⟨_, _, rfl, ?_⟩ | with_reducible refine ⟨_, _, _, rfl, ?_⟩ | refine ⟨⟨rfl, rfl⟩, ?_⟩ | refine ⟨by unfold BIG; omega, ?_⟩))
theorem Pen.at {c : List Int} {r h : Hd} {N : Int} {R : Hd} (p : Pen c (r ++ R) h N) {v : Nat} (hv : v < R.length) : h[r.length + 2 + v]? = some R[v] := by
  have e : r ++ R = (r ++ R.take v) ++ R[v] :: R.drop (v + 1) := by
    rw [List.append_assoc, ← List.drop_eq_getElem_cons hv, List.take_append_drop]
  rw [e] at p
  have := p.get
  rw [List.length_append, List.length_take, Nat.min_eq_left (by omega)] at this
  rw [show r.length + 2 + v = r.length + v + 2 by omega]
  exact this
/-- rows as they lie -/
def Lr (rows : List (List Int)) : Hd := rows.map fun row => Ob.lst (row.map D.int)
theorem Lr_len (rows : List (List Int)) : (Lr rows).length = rows.length := by unfold Lr; simp
theorem Lr_at {rows : List (List Int)} {v : Nat} (hv : v < rows.length) : (Lr rows)[v]? = some (.lst ((rows.getD v []).map D.int)) := by
  unfold Lr
  simp [List.getD_eq_getElem?_getD, hv]
section
variable {c : List Int} {r h : Hd} {N : Int} {Q : D → Hd → Prop}
theorem Pen.row {rows : List (List Int)} (p : Pen c (r ++ Lr rows) h N) {v : Nat} (hv : v < rows.length) : h[r.length + 2 + v]? = some (.lst ((rows.getD v []).map D.int)) := by
  have hl : v < (Lr rows).length := by rw [Lr_len]; exact hv
  have := p.at hl
  rw [this, ← List.getElem?_eq_getElem hl, Lr_at hv]
end
end BR

namespace BR
open PySem
local macro_rules
  | `(tactic| and_intros) => `(tactic| repeat (first | (with_reducible refine rs_seq ?_) | (with_reducible refine rs_asg ?_) | (with_reducible refine re_apK ?_) | (with_reducible refine re_ap ?_) | (with_reducible refine ra_cons ?_) | (with_reducible refine ra_nil ?_) | (with_reducible refine re_c ?_) | (with_reducible refine re_ap2 ?_) | (with_reducible refine re_ap1 ?_) | (with_reducible refine rg_var ?_) | (with_reducible refine rk_nx ?_) | (with_reducible refine rk_N ?_) | (with_reducible refine rs_if ?_) | (with_reducible refine rt_B ?_) | (with_reducible refine rs_ex ?_) | (with_reducible refine rs_ret ?_) | (with_reducible refine rt_not ?_) | (with_reducible refine re_T ?_) | (with_reducible refine rk_rt ?_) | (with_reducible refine re_mt ?_) | (with_reducible refine re_mx ?_) | (with_reducible refine re_sl ?_) | (with_reducible refine ro_no ?_) | (with_reducible refine ro_p ?_) | (with_reducible refine rg_add ?_) | (with_reducible refine rg_sbt ?_) | (with_reducible refine rg_iadd ?_) | (with_reducible refine rg_isub ?_) | (with_reducible refine rg_neg ?_) | (with_reducible refine rg_lt ?_) | (with_reducible refine rg_le ?_) | (with_reducible refine rg_gt ?_) | (with_reducible refine rg_ge ?_) | (with_reducible refine rg_isb ?_) | (with_reducible refine rg_isnb ?_) | (with_reducible refine rg_eqI ?_) | (with_reducible refine rg_neI ?_) | (with_reducible refine rg_eqR ?_) | (with_reducible refine rg_lenW ?_) | (with_reducible refine rg_lenI ?_) | (with_reducible refine rg_lenT ?_) | (with_reducible refine rg_lenL ?_) | (with_reducible refine rg_sumI ?_) | (with_reducible refine rg_sumL ?_) | (with_reducible refine rg_intI ?_) | (with_reducible refine rg_intB ?_) | (with_reducible refine rg_tupL ?_) | (with_reducible refine rs_nop ?_) | (with_reducible refine re_tup ?_) | (with_reducible refine re_lst ?_) | (with_reducible refine re_lstR ?_) | (with_reducible refine al0 ?_) | (with_reducible refine al1 ?_) | (with_reducible refine al2 ?_) | (with_reducible refine al3 ?_) | (with_reducible refine al4 ?_) | (with_reducible refine al5 ?_) | (with_reducible refine al6 ?_) | (with_reducible refine re_and ?_) | (with_reducible refine re_or ?_) | (with_reducible refine re_not ?_) | (with_reducible refine re_ch ?_) | (with_reducible refine re_if ?_) | (with_reducible refine rt_and ?_) | (with_reducible refine rt_or ?_) | (with_reducible refine rt_TT ?_) | (with_reducible refine rs_for ?_) | (with_reducible refine ri_val ?_) | (with_reducible refine ri_rg1 ?_) | (with_reducible refine ri_rg2 ?_) | (with_reducible refine ri_en ?_) | (with_reducible refine ri_zip ?_) | (with_reducible refine re_is ?_) | (with_reducible refine rt_B ?_) | (with_reducible refine re_lc ?_) | (with_reducible refine rl_in ?_) | (with_reducible refine rl_one ?_) | (with_reducible refine rs_par2 ?_) | (with_reducible refine rs_par3 ?_) | (with_reducible refine rg_tup ?_) | (with_reducible refine rg_all ?_) | (with_reducible refine rg_all_nil ?_) | (with_reducible refine rg_sub ?_) | (with_reducible refine rs_augS ?_) | (with_reducible refine re_var ?_; refine ⟨_, rfl, ?_⟩) | (with_reducible refine rs_aug ?_; refine ⟨_, rfl, ?_⟩) | refine ⟨_, rfl, ?_⟩ | with_reducible refine ⟨_, _, rfl, ?_⟩ | with_reducible refine ⟨_, _, _, rfl, ?_⟩ | refine ⟨⟨rfl, rfl⟩, ?_⟩ | refine ⟨by unfold BIG; omega, ?_⟩))
theorem al12 {α : Type} {P : Prop} {x1 x2 x3 x4 x5 x6 x7 x8 x9 x10 x11 x12 : α} (p : P) : ([x1, x2, x3, x4, x5, x6, x7, x8, x9, x10, x11, x12].length ≤ LIM) ∧ P := ⟨show 12 ≤ LIM by decide, p⟩
section
variable {c : List Int} {r h : Hd} {N : Int} {Q : D → Hd → Prop}
theorem lf_web : Lf (.str "web") := ⟨.str _, shw_str (by decide +kernel) _ _ (by decide +kernel)⟩
end
end BR

namespace BR
open PySem
local macro_rules
  | `(tactic| and_intros) => `(tactic| repeat (first | (with_reducible refine rs_seq ?_) | (with_reducible refine rs_asg ?_) | (with_reducible refine re_apK ?_) | (with_reducible refine re_ap ?_) | (with_reducible refine ra_cons ?_) | (with_reducible refine ra_nil ?_) | (with_reducible refine re_c ?_) | (with_reducible refine re_ap2 ?_) | (with_reducible refine re_ap1 ?_) | (with_reducible refine rg_var ?_) | (with_reducible refine rk_nx ?_) | (with_reducible refine rk_N ?_) | (with_reducible refine rs_if ?_) | (with_reducible refine rt_B ?_) | (with_reducible refine rs_ex ?_) | (with_reducible refine rs_ret ?_) | (with_reducible refine rt_not ?_) | (with_reducible refine re_T ?_) | (with_reducible refine rk_rt ?_) | (with_reducible refine re_mt ?_) | (with_reducible refine re_mx ?_) | (with_reducible refine re_sl ?_) | (with_reducible refine ro_no ?_) | (with_reducible refine ro_p ?_) | (with_reducible refine rg_add ?_) | (with_reducible refine rg_sbt ?_) | (with_reducible refine rg_iadd ?_) | (with_reducible refine rg_isub ?_) | (with_reducible refine rg_neg ?_) | (with_reducible refine rg_lt ?_) | (with_reducible refine rg_le ?_) | (with_reducible refine rg_gt ?_) | (with_reducible refine rg_ge ?_) | (with_reducible refine rg_isb ?_) | (with_reducible refine rg_isnb ?_) | (with_reducible refine rg_eqI ?_) | (with_reducible refine rg_neI ?_) | (with_reducible refine rg_eqR ?_) | (with_reducible refine rg_lenW ?_) | (with_reducible refine rg_lenI ?_) | (with_reducible refine rg_lenT ?_) | (with_reducible refine rg_lenL ?_) | (with_reducible refine rg_sumI ?_) | (with_reducible refine rg_sumL ?_) | (with_reducible refine rg_intI ?_) | (with_reducible refine rg_intB ?_) | (with_reducible refine rg_tupL ?_) | (with_reducible refine rs_nop ?_) | (with_reducible refine re_tup ?_) | (with_reducible refine re_lst ?_) | (with_reducible refine re_lstR ?_) | (with_reducible refine al0 ?_) | (with_reducible refine al1 ?_) | (with_reducible refine al2 ?_) | (with_reducible refine al3 ?_) | (with_reducible refine al4 ?_) | (with_reducible refine al5 ?_) | (with_reducible refine al6 ?_) | (with_reducible refine re_and ?_) | (with_reducible refine re_or ?_) | (with_reducible refine re_not ?_) | (with_reducible refine re_ch ?_) | (with_reducible refine re_if ?_) | (with_reducible refine rt_and ?_) | (with_reducible refine rt_or ?_) | (with_reducible refine rt_TT ?_) | (with_reducible refine rs_for ?_) | (with_reducible refine ri_val ?_) | (with_reducible refine ri_rg1 ?_) | (with_reducible refine ri_rg2 ?_) | (with_reducible refine ri_en ?_) | (with_reducible refine ri_zip ?_) | (with_reducible refine re_is ?_) | (with_reducible refine rt_B ?_) | (with_reducible refine re_lc ?_) | (with_reducible refine rl_in ?_) | (with_reducible refine rl_one ?_) | (with_reducible refine rs_par2 ?_) | (with_reducible refine rs_par3 ?_) | (with_reducible refine rg_tup ?_) | (with_reducible refine rg_all ?_) | (with_reducible refine rg_all_nil ?_) | (with_reducible refine rg_sub ?_) | (with_reducible refine rs_augS ?_) | (with_reducible refine re_var ?_; refine ⟨_, rfl, ?_⟩) | (with_reducible refine rs_aug ?_; refine ⟨_, rfl, ?_⟩) | refine ⟨_, rfl, ?_⟩ | with_reducible refine ⟨_, _, rfl, ?_⟩ | with_reducible refine ⟨_, _, _, rfl, ?_⟩ | refine ⟨⟨rfl, rfl⟩, ?_⟩ | refine ⟨by unfold BIG; omega, ?_⟩))
theorem only_ok {α : Type} (a : α) (h : Hd) : (Res.ok a h).only = .ok a h := rfl
section
variable {σ : Sg} {h : Hd} {e f k : EE} {as ks : EA} {c : ET} {s t : SS} {g : EG} {d : D} {F : EF} {i j n m : Nat} {sub : Nat → Bool}
theorem rn_only {α : Type} {r : Res α} {Q : α → Hd → Prop} (q : Rn r Q) : Rn r.only Q := by
  obtain ⟨a, h, e, q⟩ := q
  exact ⟨a, h, by rw [e]; rfl, q⟩
theorem re_V {Q : D → Hd → Prop} (q : Rn (e σ h) Q) : Rn (eV e σ h) Q := rn_only q
theorem ra_V {Q : List D → Hd → Prop} (q : Rn (as σ h) Q) : Rn (aV as σ h) Q := rn_only q
theorem rt_V {Q : Bool → Hd → Prop} (q : Rn (c σ h) Q) : Rn (tV c σ h) Q := rn_only q
theorem rs_V {Q : Fl → Hd → Prop} (q : Rn (s σ h) Q) : Rn (sV s σ h) Q := rn_only q
theorem rg_V {Q : Sg → Hd → Prop} (q : Rn (g d σ h) Q) : Rn (gV g d σ h) Q := rn_only q
theorem re_ap1X {Q : D → Hd → Prop} (q : Rn (e σ h) fun x h1 => Rn (F [x] h1) Q) : Rn (eAp1X F e σ h) Q := rn_bind (rn_imp q fun _ _ q => rn_only q)
theorem re_ap2X {Q : D → Hd → Prop} (q : Rn (e σ h) fun x h1 => Rn (f σ h1) fun y h2 => Rn (F [x, y] h2) Q) : Rn (eAp2X F e f σ h) Q := rn_bind (rn_imp q fun _ _ q => rn_bind (rn_imp (rn_only q) fun _ _ q => rn_only q))
theorem re_apKX {rest : List D} {Q : D → Hd → Prop} (q : Rn (as σ h) fun ds h1 => Rn (ks σ h1) fun es h2 => (ds.length = n ∧ es.length = j) ∧ Rn (F (ds ++ (es ++ rest)) h2) Q) : Rn (eApKX F n j as ks rest σ h) Q := rn_bind (rn_imp (rn_only q) fun _ _ q => rn_bind (rn_imp (rn_only q) fun _ _ ⟨z, q⟩ => by rw [if_pos z]; exact q))
theorem rs_try_ex {c : Nat} {xs : List D} {h1 : Hd} {Q : Fl → Hd → Prop} (e : s σ h = .exc c xs h1) (hc : sub c = true) (hi : i < σ.length) (hj : j < σ.length) (q : Q (.nx ((σ.set i none).set j (some (.ref h1.length)))) (h1 ++ [.exo c])) : Rn (sTryS sub s i j σ h) Q :=
  ⟨_, _, by unfold sTryS; rw [e]; simp only [hc, hi, hj, and_self, if_true], q⟩
theorem re_isX_exo {Q : D → Hd → Prop} (q : Rn (e σ h) fun d h1 => ∃ n c, d = .ref n ∧ h1[n]? = some (.exo c) ∧ Q (.bl (sub c)) h1) : Rn (eIsX sub e σ h) Q := rn_bind (rn_imp q fun _ _ ⟨n, c, z, w, q⟩ => by subst z; simp only [w]; exact rn_ok q)
end
section
variable {σ σ' : Sg} {h : Hd} {d : D} {s : SS} {i n m : Nat} {it : EI} {gt : EG} {c : ET} {el : Sg → Hd → Res (List D)} {rf : Bool} {vs : List Nat} {e : EE} {as : EA} {F : EF}
theorem rg_varN {Q : Sg → Hd → Prop} (e : σ.set i (some d) = σ') (q : Q σ' h) : Rn (gVar i d σ h) Q := rn_ok (by rw [e]; exact q)
theorem rf_fnN {ds : List D} {Q : D → Hd → Prop} (hl : ds.length = n) (e : ds.map some ++ List.replicate (m - n) none = σ') (q : Rn (s σ' h) fun fl h1 => match fl with
    | .rt d => Rn (fin h d h1) Q
    | .nx _ => Rn (fin h .non h1) Q
    | _ => False) : Rn (fn n m s ds h) Q := rf_fn hl (by rw [e]; exact q)
theorem re_lcN {Q : D → Hd → Prop} (e : wipe σ vs = σ') (q : Rn (it σ h) fun I h1 => Rn (lcF gt c el I.chk σ' I.items h1) fun ys h2 => Rn (lcEnd rf ys h2) Q) : Rn (eLc rf vs it gt c el σ h) Q := re_lc (by rw [e]; exact q)
end
def webOf : D → List (List Int)
  | .tup xs => xs.map fun x => match x with
    | .tup ys => intsD' ys
    | _ => []
  | _ => []
where intsD' : List D → List Int
  | .int i :: r => i :: intsD' r
  | _ => []
theorem intsD'_map (r : List Int) : webOf.intsD' (r.map D.int) = r := by
  induction r with
  | nil => rfl
  | cons x r ih => rw [List.map_cons, webOf.intsD', ih]
theorem webOf_dW (m : List (List Int)) : webOf (dW m) = m := by
  show ((m.map dI).map _) = m
  rw [List.map_map]
  conv => rhs; rw [← List.map_id m]
  exact List.map_congr_left fun r _ => intsD'_map r
def badm (m : List (List Int)) : Bool := !((List.range m.length).all fun u => (List.range m.length).all fun v => decide (ent m u v = ent m v u) && decide (ent m u u = 0)) || !decide ((m.map List.sum).sum ≤ 24)
theorem badm_no {m : List (List Int)} (hm : IsWeb m) : badm m = false := by
  have h1 : ((List.range m.length).all fun u => (List.range m.length).all fun v => decide (ent m u v = ent m v u) && decide (ent m u u = 0)) = true := by
    rw [List.all_eq_true]
    intro u hu
    rw [List.all_eq_true]
    intro v hv
    have hu := List.mem_range.mp hu
    have hv := List.mem_range.mp hv
    rw [decide_eq_true (hm.sym u v hu hv), decide_eq_true (hm.nul u hu)]; rfl
  unfold badm
  rw [h1, decide_eq_true hm.sum]; rfl
theorem now_m (m : List (List Int)) (h : badm m = true) : ¬ IsW (dW m) := fun ⟨m', e, hm⟩ => by
  have := congrArg webOf e
  rw [webOf_dW, webOf_dW] at this
  subst this
  rw [badm_no hm] at h; cases h
theorem now_con {m : List (List Int)} (h : ¬ IsWeb m) : ¬ IsW (dW m) := fun ⟨m', e, hm⟩ => by
  have := congrArg webOf e
  rw [webOf_dW, webOf_dW] at this
  subst this
  exact h hm
theorem now_row {xs : List D} (h : (decide (1 ≤ xs.length) && xs.all (rowOk xs.length)) = false) : ¬ IsW (.tup xs) := fun w => by
  obtain ⟨a, b, c⟩ := isW_len w
  rw [decide_eq_true a, List.all_eq_true.mpr c] at h; cases h
theorem now_in {xs : List D} {x : D} (hx : x ∈ xs) (h : rowOk xs.length x = false) : ¬ IsW (.tup xs) := fun w => by
  rw [(isW_len w).2.2 x hx] at h; cases h
theorem now_lst {xs : List D} : ¬ IsW (.lst xs) := fun ⟨m, e, _⟩ => by cases e
theorem now_non : ¬ IsW .non := fun ⟨m, e, _⟩ => by cases e
theorem now_int {i : Int} : ¬ IsW (.int i) := fun ⟨m, e, _⟩ => by cases e
theorem now_bl {b : Bool} : ¬ IsW (.bl b) := fun ⟨m, e, _⟩ => by cases e
theorem now_str {x : Str} : ¬ IsW (.str x) := fun ⟨m, e, _⟩ => by cases e
theorem now_00 : ¬ IsWeb [[0, 0], [0, 0]] := fun hm => by
  have := hm.con (fun v => v = 0) rfl (fun u v hu hv h1 h2 => by
    subst h1
    match v, hv with
    | 0, _ => rfl
    | 1, _ => exact absurd h2 (by decide)) 1 (by decide)
  cases this
theorem now_44 : ¬ IsWeb [[0, 1, 0, 0], [1, 0, 0, 0], [0, 0, 0, 1], [0, 0, 1, 0]] := fun hm => by
  have := hm.con (fun v => v < 2) (by decide) (fun u v hu hv h1 h2 => by
    match u, v, h1, hv with
    | 0, 0, _, _ => decide
    | 0, 1, _, _ => decide
    | 1, 0, _, _ => decide
    | 1, 1, _, _ => decide
    | 0, 2, _, _ => exact absurd h2 (by decide)
    | 0, 3, _, _ => exact absurd h2 (by decide)
    | 1, 2, _, _ => exact absurd h2 (by decide)
    | 1, 3, _, _ => exact absurd h2 (by decide)) 2 (by decide)
  omega
def Nw (d : D) : Prop := Tg d ∧ ¬ IsW d
theorem nws {xs : List D} (a : ∀ x ∈ xs, Tg x) (b : ∀ x ∈ xs, ¬ IsW x) : ∀ x ∈ xs, Nw x := fun x hx => ⟨a x hx, b x hx⟩
section
variable {c : List Int} {r h : Hd} {N : Int} {Q : D → Hd → Prop} {P : D → Prop}
theorem rg_addP {A B : List D} (p : Pen c r h N) {a b : Nat} (la : A.length = a) (lb : B.length = b) (hl : a + b ≤ 1000) (tA : ∀ x ∈ A, P x) (tB : ∀ x ∈ B, P x) (q : ∀ C r' h', C.length = a + b → (∀ x ∈ C, P x) → Pen c (r ++ r') h' N → Q (.ref h'.length) (h' ++ [.lst C])) : Rn (gAddR [.ref h.length, .lst B] (h ++ [.lst A])) Q := by
  refine rg_addR (xs := A) (by simp) (by unfold LIM; omega) ?_
  exact q (A ++ B) [.lst A] _ (by rw [List.length_append, la, lb]) (alla tA tB) (p.new _)
theorem rn_appP {A : List D} {x : D} (p : Pen c r h N) {a : Nat} (la : A.length = a) (hl : a < 1000) (tA : ∀ x ∈ A, P x) (tx : P x) (q : ∀ C, C.length = a + 1 → (∀ x ∈ C, P x) → Q .non (h ++ [.lst C])) : Rn (mAppend [.ref h.length, x] (h ++ [.lst A])) Q := by
  refine rg_append (xs := A) (by simp) (by unfold LIM; omega) ?_
  rw [show (h ++ [Ob.lst A]).set h.length (.lst (A ++ [x])) = h ++ [.lst (A ++ [x])] by simp]
  exact q _ (by rw [List.length_append, List.length_singleton, la]) (alla tA (allc tx alln))
theorem rn_no_web {m : List (List Int)} (hm : IsWeb m) (p : Pen c r h N) (hN : N + 1000 ≤ TM) (q : ∀ d h', Nw d → Pen c r h' (N + 10) → Q d h') : Rn (f_law_wrong_web [.ref 1, dW m] h) Q := by
  have l1 := hm.n1
  have l10 := hm.n10
  unfold f_law_wrong_web
  refine rf_fn rfl ?_
  and_intros
  refine al12 ?_
  and_intros
  have gE : Gd En m.length (m.map dI) := (gd_dW rfl (web_bd hm)).imp fun x h => ib_en (by decide) h
  have rowm : ∀ x ∈ m.map dI, ∀ k, k ≠ m.length → rowOk k x = false := fun x hx k hk => by
    obtain ⟨r, hr, rfl⟩ := List.mem_map.mp hx
    rw [rowOk_dI, (hm.row r hr).1, decide_eq_false (fun e => hk e.symm), Bool.false_and]
  have rw_all := gE.rw (by omega)
  have rw_take : ∀ k, ∀ x ∈ (m.map dI).take k, Rw x := fun k x hx => rw_all x (List.mem_of_mem_take hx)
  have rw_drop : ∀ k, ∀ x ∈ (m.map dI).drop k, Rw x := fun k x hx => rw_all x (List.mem_of_mem_drop hx)
  obtain ⟨ys, ey, ly, hy⟩ := gE.at (u := 0) (by omega)
  have lx : (m.map dI).length = m.length := by simp
  have y0 : D.tup ys ∈ m.map dI := by rw [← ey]; exact getD_mem (by omega)
  unfold dW at *
  generalize m.map dI = xs at *
  have ix0 : ∀ h, gIx [.tup xs, .int 0] h = .ok (.tup ys) h := fun h => by
    rw [← ey]
    exact gIx_at rfl (by omega) (by omega)
  refine rg_addP (P := Nw) (a := 12) (b := 5) p rfl rfl (by decide) (nws (by repeat (first | exact alln | refine allc ?_ ?_ | exact ff_non.tg | exact (ff_bl _).tg | exact lf_web.tg | exact (ff_one _ (by decide) (by decide)).tg | exact (ff_bl _).en | exact (ff_one _ (by decide) (by decide)).en | refine tg_tup (by decide) ?_ | refine tg_lst (by decide) ?_ | refine rw_tup (by decide) ?_ | refine rw_lst (by decide) ?_)) (allc now_non (allc now_int (allc now_bl (allc now_str (allc (now_row rfl) (allc (now_row rfl) (allc (now_m [[1]] rfl) (allc now_lst (allc (now_row rfl) (allc (now_row rfl) (allc (now_m [[0, 1], [0, 0]] rfl) (allc (now_m [[0, 1], [1, 1]] rfl) alln)))))))))))))
    (nws (by repeat (first | exact alln | refine allc ?_ ?_ | exact ff_non.tg | exact (ff_bl _).tg | exact lf_web.tg | exact (ff_one _ (by decide) (by decide)).tg | exact (ff_bl _).en | exact (ff_one _ (by decide) (by decide)).en | refine tg_tup (by decide) ?_ | refine tg_lst (by decide) ?_ | refine rw_tup (by decide) ?_ | refine rw_lst (by decide) ?_)) (allc (now_con now_00) (allc (now_row rfl) (allc (now_m [[0, 13], [13, 0]] rfl) (allc (now_row rfl) (allc (now_row rfl) alln)))))) fun A r2 h2 la tA p2 => ?_
  and_intros
  refine rn_eq (a := .lst xs) rfl ?_
  and_intros
  refine rn_eq (ix0 _) ?_
  and_intros
  refine rg_addT (by simp; unfold LIM; omega) ?_
  and_intros
  refine rg_cutTB (by omega) ?_
  and_intros
  refine rg_addT (by simp; unfold LIM; omega) ?_
  and_intros
  refine rg_addP (P := Nw) (a := 12 + 5) (b := 4) p2 la rfl (by decide) tA (nws (allc ?_ (allc (tg_lst (by omega) rw_all) (allc (tg_tup (by simp; omega) (alla rw_all (allc (rw_tup (by omega) hy) alln))) (allc (tg_tup (by simp; omega) (alla (rw_take _) (allc ff_non.rw alln))) alln))))
    (allc (now_row rfl) (allc now_lst (allc (now_in (x := .tup ys) (by simp) (rowm _ y0 _ (by simp; omega))) (allc (now_in (x := .non) (by simp) rfl) alln))))) fun A r3 h3 la tA p3 => ?_
  · repeat (first | exact alln | refine allc ?_ ?_ | exact ff_non.tg | exact (ff_bl _).tg | exact lf_web.tg | exact (ff_one _ (by decide) (by decide)).tg | exact (ff_bl _).en | exact (ff_one _ (by decide) (by decide)).en | refine tg_tup (by decide) ?_ | refine tg_lst (by decide) ?_ | refine rw_tup (by decide) ?_ | refine rw_lst (by decide) ?_)
  and_intros
  refine ⟨by simp [lstOf], ?_⟩
  and_intros
  refine rn_eq (ix0 _) ?_
  and_intros
  refine rn_eq (a := .lst ys) rfl ?_
  and_intros
  refine rg_cutTF (k := 1) (by omega) ?_
  refine rg_addT (by simp; unfold LIM; omega) ?_
  and_intros
  refine rn_appP (P := Nw) p3 la (by decide) tA ⟨tg_tup (by simp; omega) (alla (allc (rw_lst (by omega) hy) alln) (rw_drop _)), now_in (x := .lst ys) (by simp) rfl⟩ fun A la tA => ?_
  and_intros
  refine rn_eq (gPow10 40 (by decide) _) ?_
  and_intros
  refine rn_eq (gPow10 40 (by decide) _) ?_
  and_intros
  refine rg_addP (P := Nw) (a := 12 + 5 + 4 + 1) (b := 2) p3 la rfl (by decide) tA (nws (by repeat (first | exact alln | refine allc ?_ ?_ | exact ff_non.tg | exact (ff_bl _).tg | exact lf_web.tg | exact (ff_one _ (by decide) (by decide)).tg | exact (ff_bl _).en | exact (ff_one _ (by decide) (by decide)).en | refine tg_tup (by decide) ?_ | refine tg_lst (by decide) ?_ | refine rw_tup (by decide) ?_ | refine rw_lst (by decide) ?_)) (allc (now_con now_44) (allc (now_m [[0, 10 ^ 40], [10 ^ 40, 0]] (by decide)) alln))) fun A r4 h4 la tA p4 => ?_
  and_intros
  have p5 := p4.new (.lst A)
  refine rg_lenR (xs := A) (by simp) ?_
  and_intros
  rw [la]
  refine rn_take (m := (24 : Nat)) p5 (by omega) (by decide) (by decide) fun z h5 z0 z1 p6 => ?_
  and_intros
  have hg : h5[h4.length]? = some (.lst A) := by rw [p4.len]; exact p6.get
  refine rg_ixR hg z0 (by rw [la]; exact z1) fun d hd => ?_
  simp only [List.append_assoc] at p6
  exact rn_finP p p6 (tg_nr (tA d hd).1 _) fun h' p' => q _ h' (tA d hd) (p'.mono (by omega))
end
theorem need_web_x_ok {m : List (List Int)} (hm : IsWeb m) (h : Hd) : f_need_web_x [dW m] h = .ok .non h := by
  obtain ⟨b, e, i⟩ := is_web_any (dat_dW hm |>.le (by decide)) h
  have : b = true := i.mpr ⟨m, rfl, hm⟩
  subst this
  unfold f_need_web_x
  simp only [fnX, fn, fnK, gIsN, gNotN, isNon, sNop, sSeq, sEx, sRet, sIf, sBrk, sCnt, sAsg, gVar, gAll, gTup, gSub, sAug, sAugS, sPar2, sPar3, eVar, eC, aNil, aCons, eAp, eAp1_eq, eAp2_eq, tB, tAnd, tOr, tNot, tTT, eT, eIf, eAnd, eOr, eNot, eCh, oNo, oP, eSl, eMtL, eTup_eq, eLst_eq, eLstR_eq, Res.bind_ok, Res.bind_bad, Res.bind_exc, List.map_cons, List.map_nil, List.length_cons, List.length_nil, List.replicate, List.cons_append, List.nil_append, List.getElem?_cons_zero, List.getElem?_cons_succ, List.set_cons_zero, List.set_cons_succ, if_true, if_false, Nat.reduceAdd, Nat.reduceSub, Nat.reduceEqDiff, reduceIte, Bool.false_eq_true, tV, aV, eV, sV, only_ok, e, Bool.not_true, fin_non]
theorem need_web_x_no {d : D} (t : Dat 4 d) (nw : ¬ IsW d) (h : Hd) : f_need_web_x [d] h = .exc 0 [] h := by
  obtain ⟨b, e, i⟩ := is_web_any t h
  have : b = false := by
    cases b with
    | false => rfl
    | true => exact absurd (i.mp rfl) nw
  subst this
  unfold f_need_web_x
  simp only [fnX, fn, fnK, gIsN, gNotN, isNon, sNop, sSeq, sEx, sRet, sIf, sBrk, sCnt, sAsg, gVar, gAll, gTup, gSub, sAug, sAugS, sPar2, sPar3, eVar, eC, aNil, aCons, eAp, eAp1_eq, eAp2_eq, tB, tAnd, tOr, tNot, tTT, eT, eIf, eAnd, eOr, eNot, eCh, oNo, oP, eSl, eMtL, eTup_eq, eLst_eq, eLstR_eq, Res.bind_ok, Res.bind_bad, Res.bind_exc, List.map_cons, List.map_nil, List.length_cons, List.length_nil, List.replicate, List.cons_append, List.nil_append, List.getElem?_cons_zero, List.getElem?_cons_succ, List.set_cons_zero, List.set_cons_succ, if_true, if_false, Nat.reduceAdd, Nat.reduceSub, Nat.reduceEqDiff, reduceIte, Bool.false_eq_true, tV, aV, eV, sV, only_ok, e, Bool.not_false, sRaise, fin_non]
end BR

namespace BR
open PySem
local macro_rules
  | `(tactic| and_intros) => `(tactic| repeat (first | (with_reducible refine rs_seq ?_) | (with_reducible refine rs_asg ?_) | (with_reducible refine re_apK ?_) | (with_reducible refine re_ap ?_) | (with_reducible refine ra_cons ?_) | (with_reducible refine ra_nil ?_) | (with_reducible refine re_c ?_) | (with_reducible refine re_ap2 ?_) | (with_reducible refine re_ap1 ?_) | (with_reducible refine rg_var ?_) | (with_reducible refine rk_nx ?_) | (with_reducible refine rk_N ?_) | (with_reducible refine rs_if ?_) | (with_reducible refine rt_B ?_) | (with_reducible refine rs_ex ?_) | (with_reducible refine rs_ret ?_) | (with_reducible refine rt_not ?_) | (with_reducible refine re_T ?_) | (with_reducible refine rk_rt ?_) | (with_reducible refine re_mt ?_) | (with_reducible refine re_mx ?_) | (with_reducible refine re_sl ?_) | (with_reducible refine ro_no ?_) | (with_reducible refine ro_p ?_) | (with_reducible refine rg_add ?_) | (with_reducible refine rg_sbt ?_) | (with_reducible refine rg_iadd ?_) | (with_reducible refine rg_isub ?_) | (with_reducible refine rg_neg ?_) | (with_reducible refine rg_lt ?_) | (with_reducible refine rg_le ?_) | (with_reducible refine rg_gt ?_) | (with_reducible refine rg_ge ?_) | (with_reducible refine rg_isb ?_) | (with_reducible refine rg_isnb ?_) | (with_reducible refine rg_eqI ?_) | (with_reducible refine rg_neI ?_) | (with_reducible refine rg_eqR ?_) | (with_reducible refine rg_lenW ?_) | (with_reducible refine rg_lenI ?_) | (with_reducible refine rg_lenT ?_) | (with_reducible refine rg_lenL ?_) | (with_reducible refine rg_sumI ?_) | (with_reducible refine rg_sumL ?_) | (with_reducible refine rg_intI ?_) | (with_reducible refine rg_intB ?_) | (with_reducible refine rg_tupL ?_) | (with_reducible refine rs_nop ?_) | (with_reducible refine re_tup ?_) | (with_reducible refine re_lst ?_) | (with_reducible refine re_lstR ?_) | (with_reducible refine al0 ?_) | (with_reducible refine al1 ?_) | (with_reducible refine al2 ?_) | (with_reducible refine al3 ?_) | (with_reducible refine al4 ?_) | (with_reducible refine al5 ?_) | (with_reducible refine al6 ?_) | (with_reducible refine re_and ?_) | (with_reducible refine re_or ?_) | (with_reducible refine re_not ?_) | (with_reducible refine re_ch ?_) | (with_reducible refine re_if ?_) | (with_reducible refine rt_and ?_) | (with_reducible refine rt_or ?_) | (with_reducible refine rt_TT ?_) | (with_reducible refine rs_for ?_) | (with_reducible refine ri_val ?_) | (with_reducible refine ri_rg1 ?_) | (with_reducible refine ri_rg2 ?_) | (with_reducible refine ri_en ?_) | (with_reducible refine ri_zip ?_) | (with_reducible refine re_is ?_) | (with_reducible refine rt_B ?_) | (with_reducible refine re_lc ?_) | (with_reducible refine rl_in ?_) | (with_reducible refine rl_one ?_) | (with_reducible refine rs_par2 ?_) | (with_reducible refine rs_par3 ?_) | (with_reducible refine rg_tup ?_) | (with_reducible refine rg_all ?_) | (with_reducible refine rg_all_nil ?_) | (with_reducible refine rg_sub ?_) | (with_reducible refine rs_augS ?_) | (with_reducible refine re_var ?_; refine ⟨_, rfl, ?_⟩) | (with_reducible refine rs_aug ?_; refine ⟨_, rfl, ?_⟩) | refine ⟨_, rfl, ?_⟩ | with_reducible refine ⟨_, _, rfl, ?_⟩ | with_reducible refine ⟨_, _, _, rfl, ?_⟩ | refine ⟨⟨rfl, rfl⟩, ?_⟩ | refine ⟨by unfold BIG; omega, ?_⟩))
structure Or (n : Nat) (l : List Nat) : Prop where
  nd : l.Nodup
  mem : ∀ x, x ∈ l ↔ x < n
  len : l.length = n
theorem Or.ord {n : Nat} {l : List Nat} (o : Or n l) : IsOrd n (nI l) := by
  unfold IsOrd nI
  refine List.Perm.map _ ((List.perm_ext_iff_of_nodup o.nd List.nodup_range).mpr fun a => ?_)
  rw [o.mem, List.mem_range]
theorem Or.of {n : Nat} {o : List Int} (h : IsOrd n o) : ∃ l, o = nI l ∧ Or n l := by
  obtain ⟨l, e, a, b, c⟩ := ord_nI h
  exact ⟨l, e, a, b, c⟩
theorem Or.at {n : Nat} {l : List Nat} (o : Or n l) {i : Nat} (hi : i < n) : l.getD i 0 < n := (o.mem _).mp (getD_mem (by rw [o.len]; exact hi))
theorem Or.inj {n : Nat} {l : List Nat} (o : Or n l) {i j : Nat} (hi : i < n) (hj : j < n) (e : l.getD i 0 = l.getD j 0) : i = j := by
  rw [List.getD_eq_getElem?_getD, List.getD_eq_getElem?_getD, List.getElem?_eq_getElem (by rw [o.len]; exact hi), List.getElem?_eq_getElem (by rw [o.len]; exact hj)] at e
  have e : l[i]'(by rw [o.len]; exact hi) = l[j]'(by rw [o.len]; exact hj) := e
  have nd := List.pairwise_iff_getElem.mp o.nd
  rcases Nat.lt_trichotomy i j with z | z | z
  · exact absurd e (nd i j _ _ z)
  · exact z
  · exact absurd e.symm (nd j i _ _ z)
theorem Or.surj {n : Nat} {l : List Nat} (o : Or n l) {v : Nat} (hv : v < n) : ∃ i, i < n ∧ l.getD i 0 = v := by
  obtain ⟨i, hi⟩ := List.getElem?_of_mem ((o.mem v).mpr hv)
  refine ⟨i, by rw [← o.len]; exact (List.getElem?_eq_some_iff.mp hi).1, ?_⟩
  rw [List.getD_eq_getElem?_getD, hi]; rfl
theorem Or.pl {n : Nat} {l : List Nat} (o : Or n l) : Pl n l := ⟨o.nd, fun u hu => (o.mem u).mp hu⟩
end BR

namespace BR
open PySem
local macro_rules
  | `(tactic| and_intros) => `(tactic| repeat (first | (with_reducible refine rs_seq ?_) | (with_reducible refine rs_asg ?_) | (with_reducible refine re_apK ?_) | (with_reducible refine re_ap ?_) | (with_reducible refine ra_cons ?_) | (with_reducible refine ra_nil ?_) | (with_reducible refine re_c ?_) | (with_reducible refine re_ap2 ?_) | (with_reducible refine re_ap1 ?_) | (with_reducible refine rg_var ?_) | (with_reducible refine rk_nx ?_) | (with_reducible refine rk_N ?_) | (with_reducible refine rs_if ?_) | (with_reducible refine rt_B ?_) | (with_reducible refine rs_ex ?_) | (with_reducible refine rs_ret ?_) | (with_reducible refine rt_not ?_) | (with_reducible refine re_T ?_) | (with_reducible refine rk_rt ?_) | (with_reducible refine re_mt ?_) | (with_reducible refine re_mx ?_) | (with_reducible refine re_sl ?_) | (with_reducible refine ro_no ?_) | (with_reducible refine ro_p ?_) | (with_reducible refine rg_add ?_) | (with_reducible refine rg_sbt ?_) | (with_reducible refine rg_iadd ?_) | (with_reducible refine rg_isub ?_) | (with_reducible refine rg_neg ?_) | (with_reducible refine rg_lt ?_) | (with_reducible refine rg_le ?_) | (with_reducible refine rg_gt ?_) | (with_reducible refine rg_ge ?_) | (with_reducible refine rg_isb ?_) | (with_reducible refine rg_isnb ?_) | (with_reducible refine rg_eqI ?_) | (with_reducible refine rg_neI ?_) | (with_reducible refine rg_eqR ?_) | (with_reducible refine rg_lenW ?_) | (with_reducible refine rg_lenI ?_) | (with_reducible refine rg_lenT ?_) | (with_reducible refine rg_lenL ?_) | (with_reducible refine rg_sumI ?_) | (with_reducible refine rg_sumL ?_) | (with_reducible refine rg_intI ?_) | (with_reducible refine rg_intB ?_) | (with_reducible refine rg_tupL ?_) | (with_reducible refine rs_nop ?_) | (with_reducible refine re_tup ?_) | (with_reducible refine re_lst ?_) | (with_reducible refine re_lstR ?_) | (with_reducible refine al0 ?_) | (with_reducible refine al1 ?_) | (with_reducible refine al2 ?_) | (with_reducible refine al3 ?_) | (with_reducible refine al4 ?_) | (with_reducible refine al5 ?_) | (with_reducible refine al6 ?_) | (with_reducible refine re_and ?_) | (with_reducible refine re_or ?_) | (with_reducible refine re_not ?_) | (with_reducible refine re_ch ?_) | (with_reducible refine re_if ?_) | (with_reducible refine rt_and ?_) | (with_reducible refine rt_or ?_) | (with_reducible refine rt_TT ?_) | (with_reducible refine rs_for ?_) | (with_reducible refine ri_val ?_) | (with_reducible refine ri_rg1 ?_) | (with_reducible refine ri_rg2 ?_) | (with_reducible refine ri_en ?_) | (with_reducible refine ri_zip ?_) | (with_reducible refine re_is ?_) | (with_reducible refine rt_B ?_) | (with_reducible refine re_lc ?_) | (with_reducible refine rl_in ?_) | (with_reducible refine rl_one ?_) | (with_reducible refine rs_par2 ?_) | (with_reducible refine rs_par3 ?_) | (with_reducible refine rg_tup ?_) | (with_reducible refine rg_all ?_) | (with_reducible refine rg_all_nil ?_) | (with_reducible refine rg_sub ?_) | (with_reducible refine rs_augS ?_) | (with_reducible refine re_var ?_; refine ⟨_, rfl, ?_⟩) | (with_reducible refine rs_aug ?_; refine ⟨_, rfl, ?_⟩) | refine ⟨_, rfl, ?_⟩ | with_reducible refine ⟨_, _, rfl, ?_⟩ | with_reducible refine ⟨_, _, _, rfl, ?_⟩ | refine ⟨⟨rfl, rfl⟩, ?_⟩ | refine ⟨by unfold BIG; omega, ?_⟩))
end BR

namespace BR
open PySem
local macro_rules
  | `(tactic| and_intros) => `(tactic| repeat (first | (with_reducible refine re_V ?_) | (with_reducible refine ra_V ?_) | (with_reducible refine rt_V ?_) | (with_reducible refine rs_V ?_) | (with_reducible refine rg_V ?_) | (with_reducible refine re_ap1X ?_) | (with_reducible refine re_ap2X ?_) | (with_reducible refine re_apKX ?_) | (refine rg_varN (by simp only [List.set_cons_zero, List.set_cons_succ]; exact rfl) ?_) | (refine re_lcN (by simp only [wipe, List.set_cons_zero, List.set_cons_succ]; exact rfl) ?_) | (with_reducible refine And.intro (show (lstOf _ (D.lst _)).isSome = true from rfl) ?_) | (with_reducible refine rs_seq ?_) | (with_reducible refine rs_asg ?_) | (with_reducible refine re_apK ?_) | (with_reducible refine re_ap ?_) | (with_reducible refine ra_cons ?_) | (with_reducible refine ra_nil ?_) | (with_reducible refine re_c ?_) | (with_reducible refine re_ap2 ?_) | (with_reducible refine re_ap1 ?_) | (with_reducible refine rg_var ?_) | (with_reducible refine rk_nx ?_) | (with_reducible refine rk_N ?_) | (with_reducible refine rs_if ?_) | (with_reducible refine rt_B ?_) | (with_reducible refine rs_ex ?_) | (with_reducible refine rs_ret ?_) | (with_reducible refine rt_not ?_) | (with_reducible refine re_T ?_) | (with_reducible refine rk_rt ?_) | (with_reducible refine re_mt ?_) | (with_reducible refine re_mx ?_) | (with_reducible refine re_sl ?_) | (with_reducible refine ro_no ?_) | (with_reducible refine ro_p ?_) | (with_reducible refine rg_add ?_) | (with_reducible refine rg_sbt ?_) | (with_reducible refine rg_iadd ?_) | (with_reducible refine rg_isub ?_) | (with_reducible refine rg_neg ?_) | (with_reducible refine rg_lt ?_) | (with_reducible refine rg_le ?_) | (with_reducible refine rg_gt ?_) | (with_reducible refine rg_ge ?_) | (with_reducible refine rg_isb ?_) | (with_reducible refine rg_isnb ?_) | (with_reducible refine rg_eqI ?_) | (with_reducible refine rg_neI ?_) | (with_reducible refine rg_eqR ?_) | (with_reducible refine rg_lenW ?_) | (with_reducible refine rg_lenI ?_) | (with_reducible refine rg_lenT ?_) | (with_reducible refine rg_lenL ?_) | (with_reducible refine rg_sumI ?_) | (with_reducible refine rg_sumL ?_) | (with_reducible refine rg_intI ?_) | (with_reducible refine rg_intB ?_) | (with_reducible refine rg_tupL ?_) | (with_reducible refine rs_nop ?_) | (with_reducible refine re_tup ?_) | (with_reducible refine re_lst ?_) | (with_reducible refine re_lstR ?_) | (with_reducible refine al0 ?_) | (with_reducible refine al1 ?_) | (with_reducible refine al2 ?_) | (with_reducible refine al3 ?_) | (with_reducible refine al4 ?_) | (with_reducible refine al5 ?_) | (with_reducible refine al6 ?_) | (with_reducible refine re_and ?_) | (with_reducible refine re_or ?_) | (with_reducible refine re_not ?_) | (with_reducible refine re_ch ?_) | (with_reducible refine re_if ?_) | (with_reducible refine rt_and ?_) | (with_reducible refine rt_or ?_) | (with_reducible refine rt_TT ?_) | (with_reducible refine rs_for ?_) | (with_reducible refine ri_val ?_) | (with_reducible refine ri_rg1 ?_) | (with_reducible refine ri_rg2 ?_) | (with_reducible refine ri_en ?_) | (with_reducible refine ri_zip ?_) | (with_reducible refine re_is ?_) | (with_reducible refine rt_B ?_) | (with_reducible refine re_lc ?_) | (with_reducible refine rl_in ?_) | (with_reducible refine rl_one ?_) | (with_reducible refine rs_par2 ?_) | (with_reducible refine rs_par3 ?_) | (with_reducible refine rg_tup ?_) | (with_reducible refine rg_all ?_) | (with_reducible refine rg_all_nil ?_) | (with_reducible refine rg_sub ?_) | (with_reducible refine rs_augS ?_) | (with_reducible refine re_var ?_; refine ⟨_, rfl, ?_⟩) | (with_reducible refine rs_aug ?_; refine ⟨_, rfl, ?_⟩) | refine ⟨_, rfl, ?_⟩ | with_reducible refine ⟨_, _, rfl, ?_⟩ | with_reducible refine ⟨_, _, _, rfl, ?_⟩ | refine ⟨⟨rfl, rfl⟩, ?_⟩ | refine ⟨by unfold BIG; omega, ?_⟩))
end BR

namespace BR
open PySem
local macro_rules
  | `(tactic| and_intros) => `(tactic| repeat (first | (with_reducible refine rs_seq ?_) | (with_reducible refine rs_asg ?_) | (with_reducible refine re_apK ?_) | (with_reducible refine re_ap ?_) | (with_reducible refine ra_cons ?_) | (with_reducible refine ra_nil ?_) | (with_reducible refine re_c ?_) | (with_reducible refine re_ap2 ?_) | (with_reducible refine re_ap1 ?_) | (with_reducible refine rg_var ?_) | (with_reducible refine rk_nx ?_) | (with_reducible refine rk_N ?_) | (with_reducible refine rs_if ?_) | (with_reducible refine rt_B ?_) | (with_reducible refine rs_ex ?_) | (with_reducible refine rs_ret ?_) | (with_reducible refine rt_not ?_) | (with_reducible refine re_T ?_) | (with_reducible refine rk_rt ?_) | (with_reducible refine re_mt ?_) | (with_reducible refine re_mx ?_) | (with_reducible refine re_sl ?_) | (with_reducible refine ro_no ?_) | (with_reducible refine ro_p ?_) | (with_reducible refine rg_add ?_) | (with_reducible refine rg_sbt ?_) | (with_reducible refine rg_iadd ?_) | (with_reducible refine rg_isub ?_) | (with_reducible refine rg_neg ?_) | (with_reducible refine rg_lt ?_) | (with_reducible refine rg_le ?_) | (with_reducible refine rg_gt ?_) | (with_reducible refine rg_ge ?_) | (with_reducible refine rg_isb ?_) | (with_reducible refine rg_isnb ?_) | (with_reducible refine rg_eqI ?_) | (with_reducible refine rg_neI ?_) | (with_reducible refine rg_eqR ?_) | (with_reducible refine rg_lenW ?_) | (with_reducible refine rg_lenI ?_) | (with_reducible refine rg_lenT ?_) | (with_reducible refine rg_lenL ?_) | (with_reducible refine rg_sumI ?_) | (with_reducible refine rg_sumL ?_) | (with_reducible refine rg_intI ?_) | (with_reducible refine rg_intB ?_) | (with_reducible refine rg_tupL ?_) | (with_reducible refine rs_nop ?_) | (with_reducible refine re_tup ?_) | (with_reducible refine re_lst ?_) | (with_reducible refine re_lstR ?_) | (with_reducible refine al0 ?_) | (with_reducible refine al1 ?_) | (with_reducible refine al2 ?_) | (with_reducible refine al3 ?_) | (with_reducible refine al4 ?_) | (with_reducible refine al5 ?_) | (with_reducible refine al6 ?_) | (with_reducible refine re_and ?_) | (with_reducible refine re_or ?_) | (with_reducible refine re_not ?_) | (with_reducible refine re_ch ?_) | (with_reducible refine re_if ?_) | (with_reducible refine rt_and ?_) | (with_reducible refine rt_or ?_) | (with_reducible refine rt_TT ?_) | (with_reducible refine rs_for ?_) | (with_reducible refine ri_val ?_) | (with_reducible refine ri_rg1 ?_) | (with_reducible refine ri_rg2 ?_) | (with_reducible refine ri_en ?_) | (with_reducible refine ri_zip ?_) | (with_reducible refine re_is ?_) | (with_reducible refine rt_B ?_) | (with_reducible refine re_lc ?_) | (with_reducible refine rl_in ?_) | (with_reducible refine rl_one ?_) | (with_reducible refine rs_par2 ?_) | (with_reducible refine rs_par3 ?_) | (with_reducible refine rg_tup ?_) | (with_reducible refine rg_all ?_) | (with_reducible refine rg_all_nil ?_) | (with_reducible refine rg_sub ?_) | (with_reducible refine rs_augS ?_) | (with_reducible refine re_var ?_; refine ⟨_, rfl, ?_⟩) | (with_reducible refine rs_aug ?_; refine ⟨_, rfl, ?_⟩) | refine ⟨_, rfl, ?_⟩ | with_reducible refine ⟨_, _, rfl, ?_⟩ | with_reducible refine ⟨_, _, _, rfl, ?_⟩ | refine ⟨⟨rfl, rfl⟩, ?_⟩ | refine ⟨by unfold BIG; omega, ?_⟩))
section
variable {c : List Int} {r h : Hd} {N : Int} {Q : D → Hd → Prop}
end
end BR

namespace BR
open PySem
local macro_rules
  | `(tactic| and_intros) => `(tactic| repeat (first | (with_reducible refine re_V ?_) | (with_reducible refine ra_V ?_) | (with_reducible refine rt_V ?_) | (with_reducible refine rs_V ?_) | (with_reducible refine rg_V ?_) | (with_reducible refine re_ap1X ?_) | (with_reducible refine re_ap2X ?_) | (with_reducible refine re_apKX ?_) | (refine rg_varN (by simp only [List.set_cons_zero, List.set_cons_succ]; exact rfl) ?_) | (refine re_lcN (by simp only [wipe, List.set_cons_zero, List.set_cons_succ]; exact rfl) ?_) | (with_reducible refine And.intro (show (lstOf _ (D.lst _)).isSome = true from rfl) ?_) | (with_reducible refine rs_seq ?_) | (with_reducible refine rs_asg ?_) | (with_reducible refine re_apK ?_) | (with_reducible refine re_ap ?_) | (with_reducible refine ra_cons ?_) | (with_reducible refine ra_nil ?_) | (with_reducible refine re_c ?_) | (with_reducible refine re_ap2 ?_) | (with_reducible refine re_ap1 ?_) | (with_reducible refine rg_var ?_) | (with_reducible refine rk_nx ?_) | (with_reducible refine rk_N ?_) | (with_reducible refine rs_if ?_) | (with_reducible refine rt_B ?_) | (with_reducible refine rs_ex ?_) | (with_reducible refine rs_ret ?_) | (with_reducible refine rt_not ?_) | (with_reducible refine re_T ?_) | (with_reducible refine rk_rt ?_) | (with_reducible refine re_mt ?_) | (with_reducible refine re_mx ?_) | (with_reducible refine re_sl ?_) | (with_reducible refine ro_no ?_) | (with_reducible refine ro_p ?_) | (with_reducible refine rg_add ?_) | (with_reducible refine rg_sbt ?_) | (with_reducible refine rg_iadd ?_) | (with_reducible refine rg_isub ?_) | (with_reducible refine rg_neg ?_) | (with_reducible refine rg_lt ?_) | (with_reducible refine rg_le ?_) | (with_reducible refine rg_gt ?_) | (with_reducible refine rg_ge ?_) | (with_reducible refine rg_isb ?_) | (with_reducible refine rg_isnb ?_) | (with_reducible refine rg_eqI ?_) | (with_reducible refine rg_neI ?_) | (with_reducible refine rg_eqR ?_) | (with_reducible refine rg_lenW ?_) | (with_reducible refine rg_lenI ?_) | (with_reducible refine rg_lenT ?_) | (with_reducible refine rg_lenL ?_) | (with_reducible refine rg_sumI ?_) | (with_reducible refine rg_sumL ?_) | (with_reducible refine rg_intI ?_) | (with_reducible refine rg_intB ?_) | (with_reducible refine rg_tupL ?_) | (with_reducible refine rs_nop ?_) | (with_reducible refine re_tup ?_) | (with_reducible refine re_lst ?_) | (with_reducible refine re_lstR ?_) | (with_reducible refine al0 ?_) | (with_reducible refine al1 ?_) | (with_reducible refine al2 ?_) | (with_reducible refine al3 ?_) | (with_reducible refine al4 ?_) | (with_reducible refine al5 ?_) | (with_reducible refine al6 ?_) | (with_reducible refine re_and ?_) | (with_reducible refine re_or ?_) | (with_reducible refine re_not ?_) | (with_reducible refine re_ch ?_) | (with_reducible refine re_if ?_) | (with_reducible refine rt_and ?_) | (with_reducible refine rt_or ?_) | (with_reducible refine rt_TT ?_) | (with_reducible refine rs_for ?_) | (with_reducible refine ri_val ?_) | (with_reducible refine ri_rg1 ?_) | (with_reducible refine ri_rg2 ?_) | (with_reducible refine ri_en ?_) | (with_reducible refine ri_zip ?_) | (with_reducible refine re_is ?_) | (with_reducible refine rt_B ?_) | (with_reducible refine re_lc ?_) | (with_reducible refine rl_in ?_) | (with_reducible refine rl_one ?_) | (with_reducible refine rs_par2 ?_) | (with_reducible refine rs_par3 ?_) | (with_reducible refine rg_tup ?_) | (with_reducible refine rg_all ?_) | (with_reducible refine rg_all_nil ?_) | (with_reducible refine rg_sub ?_) | (with_reducible refine rs_augS ?_) | (with_reducible refine re_var ?_; refine ⟨_, rfl, ?_⟩) | (with_reducible refine rs_aug ?_; refine ⟨_, rfl, ?_⟩) | refine ⟨_, rfl, ?_⟩ | with_reducible refine ⟨_, _, rfl, ?_⟩ | with_reducible refine ⟨_, _, _, rfl, ?_⟩ | refine ⟨⟨rfl, rfl⟩, ?_⟩ | refine ⟨by unfold BIG; omega, ?_⟩))
def ownL (m : List (List Int)) : List Int := (List.range m.length).map fun v => (m.getD v []).sum - 2
theorem own_eq {m : List (List Int)} (hm : IsWeb m) (h : Hd) : f_own_heap [dW m] h = .ok (dI (ownL m)) h := by
  have l10 := hm.n10
  have key : Rn (f_own_heap [dW m] h) fun r h' => r = dI (ownL m) ∧ h' = h := by
    unfold f_own_heap
    refine rf_fnN rfl (by simp only [List.map_cons, List.map_nil, List.cons_append, List.nil_append, List.replicate, Nat.reduceSub]; exact rfl) ?_
    and_intros
    refine rn_eq (need_web_eq hm _) ?_
    and_intros
    refine rn_lcP dI (fun r => .int (r.sum - 2)) m (fun i r _ => ?_) ?_
    · and_intros
      exact ⟨rfl, rfl⟩
    refine rl_end (by rw [List.length_map]; unfold LIM; omega) ?_
    have e : m.map (fun r => D.int (r.sum - 2)) = (ownL m).map D.int := by
      apply List.ext_getElem
      · simp [ownL]
      · intro i h1 h2
        simp at h1
        simp [ownL, List.getD_eq_getElem?_getD, h1]
    rw [e]
    and_intros
    exact rn_fin (noRef_dI _ _) ⟨rfl, rfl⟩
  obtain ⟨d, h', e, rfl, rfl⟩ := key
  exact e
end BR

namespace BR
/-- f 0 + .. + f (n-1) -/
def sN : Nat → (Nat → Int) → Int
  | 0, _ => 0
  | n + 1, f => sN n f + f n
theorem sN_zero {f : Nat → Int} : ∀ {n : Nat}, (∀ i, i < n → f i = 0) → sN n f = 0
  | 0, _ => rfl
  | n + 1, h => by
    show sN n f + f n = 0
    rw [sN_zero (n := n) fun i hi => h i (by omega), h n (by omega)]; rfl
/-- one term alone -/
theorem sN_one {f : Nat → Int} {k : Nat} : ∀ {n : Nat}, k < n → (∀ i, i < n → i ≠ k → f i = 0) → sN n f = f k
  | 0, hk, _ => by omega
  | n + 1, hk, h => by
    show sN n f + f n = f k
    by_cases e : k = n
    · subst e
      rw [sN_zero fun i hi => h i (by omega) (by omega)]; omega
    · rw [sN_one (n := n) (by omega) fun i hi => h i (by omega), h n (by omega) (fun z => e z.symm)]; omega
/-- past j -/
def skp (j b : Nat) : Nat := if b < j then b else b + 1
/-- minus one, so many times -/
def sgn (j : Nat) : Int := if j % 2 = 0 then 1 else -1
def det : Nat → (Nat → Nat → Int) → Int
  | 0, _ => 1
  | n + 1, M => sN (n + 1) fun j => sgn j * M 0 j * det n fun a b => M (a + 1) (skp j b)
/-- 1 on the diagonal -/
def idm (i j : Nat) : Int := if i = j then 1 else 0
end BR

namespace BR
section
variable (m : Nat) (A : Nat → Nat → Int)
/-- the first k columns, then those of 1 -/
def pm (k : Nat) : Nat → Nat → Int := fun s r => if r < k then A s r else idm s r
def dd (k : Nat) : Int := det (m + 1) (pm A k)
end
section
variable {m : Nat} {A : Nat → Nat → Int}
/-- the elimination, step by step -/
def el (A : Nat → Nat → Int) : Nat → (Nat → Nat → Int) × Int
  | 0 => (A, 1)
  | k + 1 => let p := el A k
    (fun i j => if i = k then p.1 k j else (p.1 k k * p.1 i j - p.1 i k * p.1 k j).fdiv p.2, p.1 k k)
end
section
variable {m : Nat} {A : Nat → Nat → Int} {G : Nat → Int}
end
end BR

namespace BR
open PySem
/-- 1, 26, .. -/
def rr : Nat → Int
  | 0 => 0
  | k + 1 => 25 * rr k + 1
theorem sm_sN (n : Nat) (f : Nat → Int) : sm n f = sN n f := by
  induction n with
  | zero => rfl
  | succ n ih => rw [sm_succ, ih]; rfl
end BR

namespace BR
open PySem
local macro_rules
  | `(tactic| and_intros) => `(tactic| repeat (first | (with_reducible refine re_V ?_) | (with_reducible refine ra_V ?_) | (with_reducible refine rt_V ?_) | (with_reducible refine rs_V ?_) | (with_reducible refine rg_V ?_) | (with_reducible refine re_ap1X ?_) | (with_reducible refine re_ap2X ?_) | (with_reducible refine re_apKX ?_) | (refine rg_varN (by simp only [List.set_cons_zero, List.set_cons_succ]; exact rfl) ?_) | (refine re_lcN (by simp only [wipe, List.set_cons_zero, List.set_cons_succ]; exact rfl) ?_) | (with_reducible refine And.intro (show (lstOf _ (D.lst _)).isSome = true from rfl) ?_) | (with_reducible refine rs_seq ?_) | (with_reducible refine rs_asg ?_) | (with_reducible refine re_apK ?_) | (with_reducible refine re_ap ?_) | (with_reducible refine ra_cons ?_) | (with_reducible refine ra_nil ?_) | (with_reducible refine re_c ?_) | (with_reducible refine re_ap2 ?_) | (with_reducible refine re_ap1 ?_) | (with_reducible refine rg_var ?_) | (with_reducible refine rk_nx ?_) | (with_reducible refine rk_N ?_) | (with_reducible refine rs_if ?_) | (with_reducible refine rt_B ?_) | (with_reducible refine rs_ex ?_) | (with_reducible refine rs_ret ?_) | (with_reducible refine rt_not ?_) | (with_reducible refine re_T ?_) | (with_reducible refine rk_rt ?_) | (with_reducible refine re_mt ?_) | (with_reducible refine re_mx ?_) | (with_reducible refine re_sl ?_) | (with_reducible refine ro_no ?_) | (with_reducible refine ro_p ?_) | (with_reducible refine rg_add ?_) | (with_reducible refine rg_sbt ?_) | (with_reducible refine rg_iadd ?_) | (with_reducible refine rg_isub ?_) | (with_reducible refine rg_neg ?_) | (with_reducible refine rg_lt ?_) | (with_reducible refine rg_le ?_) | (with_reducible refine rg_gt ?_) | (with_reducible refine rg_ge ?_) | (with_reducible refine rg_isb ?_) | (with_reducible refine rg_isnb ?_) | (with_reducible refine rg_eqI ?_) | (with_reducible refine rg_neI ?_) | (with_reducible refine rg_eqR ?_) | (with_reducible refine rg_lenW ?_) | (with_reducible refine rg_lenI ?_) | (with_reducible refine rg_lenT ?_) | (with_reducible refine rg_lenL ?_) | (with_reducible refine rg_sumI ?_) | (with_reducible refine rg_sumL ?_) | (with_reducible refine rg_intI ?_) | (with_reducible refine rg_intB ?_) | (with_reducible refine rg_tupL ?_) | (with_reducible refine rs_nop ?_) | (with_reducible refine re_tup ?_) | (with_reducible refine re_lst ?_) | (with_reducible refine re_lstR ?_) | (with_reducible refine al0 ?_) | (with_reducible refine al1 ?_) | (with_reducible refine al2 ?_) | (with_reducible refine al3 ?_) | (with_reducible refine al4 ?_) | (with_reducible refine al5 ?_) | (with_reducible refine al6 ?_) | (with_reducible refine re_and ?_) | (with_reducible refine re_or ?_) | (with_reducible refine re_not ?_) | (with_reducible refine re_ch ?_) | (with_reducible refine re_if ?_) | (with_reducible refine rt_and ?_) | (with_reducible refine rt_or ?_) | (with_reducible refine rt_TT ?_) | (with_reducible refine rs_for ?_) | (with_reducible refine ri_val ?_) | (with_reducible refine ri_rg1 ?_) | (with_reducible refine ri_rg2 ?_) | (with_reducible refine ri_en ?_) | (with_reducible refine ri_zip ?_) | (with_reducible refine re_is ?_) | (with_reducible refine rt_B ?_) | (with_reducible refine re_lc ?_) | (with_reducible refine rl_in ?_) | (with_reducible refine rl_one ?_) | (with_reducible refine rs_par2 ?_) | (with_reducible refine rs_par3 ?_) | (with_reducible refine rg_tup ?_) | (with_reducible refine rg_all ?_) | (with_reducible refine rg_all_nil ?_) | (with_reducible refine rg_sub ?_) | (with_reducible refine rs_augS ?_) | (with_reducible refine re_var ?_; refine ⟨_, rfl, ?_⟩) | (with_reducible refine rs_aug ?_; refine ⟨_, rfl, ?_⟩) | refine ⟨_, rfl, ?_⟩ | with_reducible refine ⟨_, _, rfl, ?_⟩ | with_reducible refine ⟨_, _, _, rfl, ?_⟩ | refine ⟨⟨rfl, rfl⟩, ?_⟩ | refine ⟨by unfold BIG; omega, ?_⟩))
/-- numbers in a row, as a list or a tuple, that stand still -/
def IsQ (h : Hd) (d : D) (x : List Int) : Prop := ∀ r, seqOf (h ++ r) d = some (x.map D.int)
section
variable {h : Hd} {d : D} {x : List Int} {Q : D → Hd → Prop}
theorem IsQ.here (q : IsQ h d x) : seqOf h d = some (x.map D.int) := by have := q []; rwa [List.append_nil] at this
end
/-- one step -/
def stp (F : Nat → Nat → Int) (k : Nat) (b : Int) (i j : Nat) : Int := if i = k then F k j else (F k k * F i j - F i k * F k j).fdiv b
theorem rf_fnK {s : SS} {n m : Nat} {ds : List D} {h : Hd} {σ' : Sg} {Q : D → Hd → Prop} (hl : ds.length = n) (e : ds.map some ++ List.replicate (m - n) none = σ') (q : Rn (s σ' h) fun fl h1 => match fl with
    | .rt d => Q d h1
    | .nx _ => Q .non h1
    | _ => False) : Rn (fnK n m s ds h) Q := by
  subst e
  unfold fnK
  rw [if_pos hl]
  refine rn_bind (rn_imp q fun fl h1 q => ?_)
  cases fl with
  | rt d => exact rn_ok q
  | nx σ => exact rn_ok q
  | _ => exact q.elim
end BR

namespace BR
open PySem
local macro_rules
  | `(tactic| and_intros) => `(tactic| repeat (first | (with_reducible refine re_V ?_) | (with_reducible refine ra_V ?_) | (with_reducible refine rt_V ?_) | (with_reducible refine rs_V ?_) | (with_reducible refine rg_V ?_) | (with_reducible refine re_ap1X ?_) | (with_reducible refine re_ap2X ?_) | (with_reducible refine re_apKX ?_) | (refine rg_varN (by simp only [List.set_cons_zero, List.set_cons_succ]; exact rfl) ?_) | (refine re_lcN (by simp only [wipe, List.set_cons_zero, List.set_cons_succ]; exact rfl) ?_) | (with_reducible refine And.intro (show (lstOf _ (D.lst _)).isSome = true from rfl) ?_) | (with_reducible refine rs_seq ?_) | (with_reducible refine rs_asg ?_) | (with_reducible refine re_apK ?_) | (with_reducible refine re_ap ?_) | (with_reducible refine ra_cons ?_) | (with_reducible refine ra_nil ?_) | (with_reducible refine re_c ?_) | (with_reducible refine re_ap2 ?_) | (with_reducible refine re_ap1 ?_) | (with_reducible refine rg_var ?_) | (with_reducible refine rk_nx ?_) | (with_reducible refine rk_N ?_) | (with_reducible refine rs_if ?_) | (with_reducible refine rt_B ?_) | (with_reducible refine rs_ex ?_) | (with_reducible refine rs_ret ?_) | (with_reducible refine rt_not ?_) | (with_reducible refine re_T ?_) | (with_reducible refine rk_rt ?_) | (with_reducible refine re_mt ?_) | (with_reducible refine re_mx ?_) | (with_reducible refine re_sl ?_) | (with_reducible refine ro_no ?_) | (with_reducible refine ro_p ?_) | (with_reducible refine rg_add ?_) | (with_reducible refine rg_sbt ?_) | (with_reducible refine rg_iadd ?_) | (with_reducible refine rg_isub ?_) | (with_reducible refine rg_neg ?_) | (with_reducible refine rg_lt ?_) | (with_reducible refine rg_le ?_) | (with_reducible refine rg_gt ?_) | (with_reducible refine rg_ge ?_) | (with_reducible refine rg_isb ?_) | (with_reducible refine rg_isnb ?_) | (with_reducible refine rg_eqI ?_) | (with_reducible refine rg_neI ?_) | (with_reducible refine rg_eqR ?_) | (with_reducible refine rg_lenW ?_) | (with_reducible refine rg_lenI ?_) | (with_reducible refine rg_lenT ?_) | (with_reducible refine rg_lenL ?_) | (with_reducible refine rg_sumI ?_) | (with_reducible refine rg_sumL ?_) | (with_reducible refine rg_intI ?_) | (with_reducible refine rg_intB ?_) | (with_reducible refine rg_tupL ?_) | (with_reducible refine rs_nop ?_) | (with_reducible refine re_tup ?_) | (with_reducible refine re_lst ?_) | (with_reducible refine re_lstR ?_) | (with_reducible refine al0 ?_) | (with_reducible refine al1 ?_) | (with_reducible refine al2 ?_) | (with_reducible refine al3 ?_) | (with_reducible refine al4 ?_) | (with_reducible refine al5 ?_) | (with_reducible refine al6 ?_) | (with_reducible refine re_and ?_) | (with_reducible refine re_or ?_) | (with_reducible refine re_not ?_) | (with_reducible refine re_ch ?_) | (with_reducible refine re_if ?_) | (with_reducible refine rt_and ?_) | (with_reducible refine rt_or ?_) | (with_reducible refine rt_TT ?_) | (with_reducible refine rs_for ?_) | (with_reducible refine ri_val ?_) | (with_reducible refine ri_rg1 ?_) | (with_reducible refine ri_rg2 ?_) | (with_reducible refine ri_en ?_) | (with_reducible refine ri_zip ?_) | (with_reducible refine re_is ?_) | (with_reducible refine rt_B ?_) | (with_reducible refine re_lc ?_) | (with_reducible refine rl_in ?_) | (with_reducible refine rl_one ?_) | (with_reducible refine rs_par2 ?_) | (with_reducible refine rs_par3 ?_) | (with_reducible refine rg_tup ?_) | (with_reducible refine rg_all ?_) | (with_reducible refine rg_all_nil ?_) | (with_reducible refine rg_sub ?_) | (with_reducible refine rs_augS ?_) | (with_reducible refine re_var ?_; refine ⟨_, rfl, ?_⟩) | (with_reducible refine rs_aug ?_; refine ⟨_, rfl, ?_⟩) | refine ⟨_, rfl, ?_⟩ | with_reducible refine ⟨_, _, rfl, ?_⟩ | with_reducible refine ⟨_, _, _, rfl, ?_⟩ | refine ⟨⟨rfl, rfl⟩, ?_⟩ | refine ⟨by unfold BIG; omega, ?_⟩))
end BR

namespace BR
open PySem
local macro_rules
  | `(tactic| and_intros) => `(tactic| repeat (first | (with_reducible refine re_V ?_) | (with_reducible refine ra_V ?_) | (with_reducible refine rt_V ?_) | (with_reducible refine rs_V ?_) | (with_reducible refine rg_V ?_) | (with_reducible refine re_ap1X ?_) | (with_reducible refine re_ap2X ?_) | (with_reducible refine re_apKX ?_) | (refine rg_varN (by simp only [List.set_cons_zero, List.set_cons_succ]; exact rfl) ?_) | (refine re_lcN (by simp only [wipe, List.set_cons_zero, List.set_cons_succ]; exact rfl) ?_) | (with_reducible refine And.intro (show (lstOf _ (D.lst _)).isSome = true from rfl) ?_) | (with_reducible refine rs_seq ?_) | (with_reducible refine rs_asg ?_) | (with_reducible refine re_apK ?_) | (with_reducible refine re_ap ?_) | (with_reducible refine ra_cons ?_) | (with_reducible refine ra_nil ?_) | (with_reducible refine re_c ?_) | (with_reducible refine re_ap2 ?_) | (with_reducible refine re_ap1 ?_) | (with_reducible refine rg_var ?_) | (with_reducible refine rk_nx ?_) | (with_reducible refine rk_N ?_) | (with_reducible refine rs_if ?_) | (with_reducible refine rt_B ?_) | (with_reducible refine rs_ex ?_) | (with_reducible refine rs_ret ?_) | (with_reducible refine rt_not ?_) | (with_reducible refine re_T ?_) | (with_reducible refine rk_rt ?_) | (with_reducible refine re_mt ?_) | (with_reducible refine re_mx ?_) | (with_reducible refine re_sl ?_) | (with_reducible refine ro_no ?_) | (with_reducible refine ro_p ?_) | (with_reducible refine rg_add ?_) | (with_reducible refine rg_sbt ?_) | (with_reducible refine rg_iadd ?_) | (with_reducible refine rg_isub ?_) | (with_reducible refine rg_neg ?_) | (with_reducible refine rg_lt ?_) | (with_reducible refine rg_le ?_) | (with_reducible refine rg_gt ?_) | (with_reducible refine rg_ge ?_) | (with_reducible refine rg_isb ?_) | (with_reducible refine rg_isnb ?_) | (with_reducible refine rg_eqI ?_) | (with_reducible refine rg_neI ?_) | (with_reducible refine rg_eqR ?_) | (with_reducible refine rg_lenW ?_) | (with_reducible refine rg_lenI ?_) | (with_reducible refine rg_lenT ?_) | (with_reducible refine rg_lenL ?_) | (with_reducible refine rg_sumI ?_) | (with_reducible refine rg_sumL ?_) | (with_reducible refine rg_intI ?_) | (with_reducible refine rg_intB ?_) | (with_reducible refine rg_tupL ?_) | (with_reducible refine rs_nop ?_) | (with_reducible refine re_tup ?_) | (with_reducible refine re_lst ?_) | (with_reducible refine re_lstR ?_) | (with_reducible refine al0 ?_) | (with_reducible refine al1 ?_) | (with_reducible refine al2 ?_) | (with_reducible refine al3 ?_) | (with_reducible refine al4 ?_) | (with_reducible refine al5 ?_) | (with_reducible refine al6 ?_) | (with_reducible refine re_and ?_) | (with_reducible refine re_or ?_) | (with_reducible refine re_not ?_) | (with_reducible refine re_ch ?_) | (with_reducible refine re_if ?_) | (with_reducible refine rt_and ?_) | (with_reducible refine rt_or ?_) | (with_reducible refine rt_TT ?_) | (with_reducible refine rs_for ?_) | (with_reducible refine ri_val ?_) | (with_reducible refine ri_rg1 ?_) | (with_reducible refine ri_rg2 ?_) | (with_reducible refine ri_en ?_) | (with_reducible refine ri_zip ?_) | (with_reducible refine re_is ?_) | (with_reducible refine rt_B ?_) | (with_reducible refine re_lc ?_) | (with_reducible refine rl_in ?_) | (with_reducible refine rl_one ?_) | (with_reducible refine rs_par2 ?_) | (with_reducible refine rs_par3 ?_) | (with_reducible refine rg_tup ?_) | (with_reducible refine rg_all ?_) | (with_reducible refine rg_all_nil ?_) | (with_reducible refine rg_sub ?_) | (with_reducible refine rs_augS ?_) | (with_reducible refine re_var ?_; refine ⟨_, rfl, ?_⟩) | (with_reducible refine rs_aug ?_; refine ⟨_, rfl, ?_⟩) | refine ⟨_, rfl, ?_⟩ | with_reducible refine ⟨_, _, rfl, ?_⟩ | with_reducible refine ⟨_, _, _, rfl, ?_⟩ | refine ⟨⟨rfl, rfl⟩, ?_⟩ | refine ⟨by unfold BIG; omega, ?_⟩))
theorem rng_at {n i v : Nat} (e : (List.range n)[i]? = some v) : v = i ∧ i < n := by
  obtain ⟨h1, h2⟩ := List.getElem?_eq_some_iff.mp e
  rw [List.getElem_range] at h2
  rw [List.length_range] at h1
  exact ⟨h2.symm, h1⟩
end BR

namespace BR
open PySem
local macro_rules
  | `(tactic| and_intros) => `(tactic| repeat (first | (with_reducible refine re_V ?_) | (with_reducible refine ra_V ?_) | (with_reducible refine rt_V ?_) | (with_reducible refine rs_V ?_) | (with_reducible refine rg_V ?_) | (with_reducible refine re_ap1X ?_) | (with_reducible refine re_ap2X ?_) | (with_reducible refine re_apKX ?_) | (refine rg_varN (by simp only [List.set_cons_zero, List.set_cons_succ]; exact rfl) ?_) | (refine re_lcN (by simp only [wipe, List.set_cons_zero, List.set_cons_succ]; exact rfl) ?_) | (with_reducible refine And.intro (show (lstOf _ (D.lst _)).isSome = true from rfl) ?_) | (with_reducible refine rs_seq ?_) | (with_reducible refine rs_asg ?_) | (with_reducible refine re_apK ?_) | (with_reducible refine re_ap ?_) | (with_reducible refine ra_cons ?_) | (with_reducible refine ra_nil ?_) | (with_reducible refine re_c ?_) | (with_reducible refine re_ap2 ?_) | (with_reducible refine re_ap1 ?_) | (with_reducible refine rg_var ?_) | (with_reducible refine rk_nx ?_) | (with_reducible refine rk_N ?_) | (with_reducible refine rs_if ?_) | (with_reducible refine rt_B ?_) | (with_reducible refine rs_ex ?_) | (with_reducible refine rs_ret ?_) | (with_reducible refine rt_not ?_) | (with_reducible refine re_T ?_) | (with_reducible refine rk_rt ?_) | (with_reducible refine re_mt ?_) | (with_reducible refine re_mx ?_) | (with_reducible refine re_sl ?_) | (with_reducible refine ro_no ?_) | (with_reducible refine ro_p ?_) | (with_reducible refine rg_add ?_) | (with_reducible refine rg_sbt ?_) | (with_reducible refine rg_iadd ?_) | (with_reducible refine rg_isub ?_) | (with_reducible refine rg_neg ?_) | (with_reducible refine rg_lt ?_) | (with_reducible refine rg_le ?_) | (with_reducible refine rg_gt ?_) | (with_reducible refine rg_ge ?_) | (with_reducible refine rg_isb ?_) | (with_reducible refine rg_isnb ?_) | (with_reducible refine rg_eqI ?_) | (with_reducible refine rg_neI ?_) | (with_reducible refine rg_eqR ?_) | (with_reducible refine rg_lenW ?_) | (with_reducible refine rg_lenI ?_) | (with_reducible refine rg_lenT ?_) | (with_reducible refine rg_lenL ?_) | (with_reducible refine rg_sumI ?_) | (with_reducible refine rg_sumL ?_) | (with_reducible refine rg_intI ?_) | (with_reducible refine rg_intB ?_) | (with_reducible refine rg_tupL ?_) | (with_reducible refine rs_nop ?_) | (with_reducible refine re_tup ?_) | (with_reducible refine re_lst ?_) | (with_reducible refine re_lstR ?_) | (with_reducible refine al0 ?_) | (with_reducible refine al1 ?_) | (with_reducible refine al2 ?_) | (with_reducible refine al3 ?_) | (with_reducible refine al4 ?_) | (with_reducible refine al5 ?_) | (with_reducible refine al6 ?_) | (with_reducible refine re_and ?_) | (with_reducible refine re_or ?_) | (with_reducible refine re_not ?_) | (with_reducible refine re_ch ?_) | (with_reducible refine re_if ?_) | (with_reducible refine rt_and ?_) | (with_reducible refine rt_or ?_) | (with_reducible refine rt_TT ?_) | (with_reducible refine rs_for ?_) | (with_reducible refine ri_val ?_) | (with_reducible refine ri_rg1 ?_) | (with_reducible refine ri_rg2 ?_) | (with_reducible refine ri_en ?_) | (with_reducible refine ri_zip ?_) | (with_reducible refine re_is ?_) | (with_reducible refine rt_B ?_) | (with_reducible refine re_lc ?_) | (with_reducible refine rl_in ?_) | (with_reducible refine rl_one ?_) | (with_reducible refine rs_par2 ?_) | (with_reducible refine rs_par3 ?_) | (with_reducible refine rg_tup ?_) | (with_reducible refine rg_all ?_) | (with_reducible refine rg_all_nil ?_) | (with_reducible refine rg_sub ?_) | (with_reducible refine rs_augS ?_) | (with_reducible refine re_var ?_; refine ⟨_, rfl, ?_⟩) | (with_reducible refine rs_aug ?_; refine ⟨_, rfl, ?_⟩) | refine ⟨_, rfl, ?_⟩ | with_reducible refine ⟨_, _, rfl, ?_⟩ | with_reducible refine ⟨_, _, _, rfl, ?_⟩ | refine ⟨⟨rfl, rfl⟩, ?_⟩ | refine ⟨by unfold BIG; omega, ?_⟩))
theorem sm_unit {n v : Nat} (hv : v < n) (a : Nat → Int) (t : Int) : (sm n fun w => a w * (if w = v then t else 0)) = a v * t := by
  rw [sm_sN, sN_one (k := v) hv fun i hi hne => by rw [if_neg hne, Int.mul_zero], if_pos rfl]
section
variable {h : Hd} {a q : Nat} {m : List (List Int)} {F : List Int} {y : List Int}
end
end BR

namespace BR
open PySem
local macro_rules
  | `(tactic| and_intros) => `(tactic| repeat (first | (with_reducible refine re_V ?_) | (with_reducible refine ra_V ?_) | (with_reducible refine rt_V ?_) | (with_reducible refine rs_V ?_) | (with_reducible refine rg_V ?_) | (with_reducible refine re_ap1X ?_) | (with_reducible refine re_ap2X ?_) | (with_reducible refine re_apKX ?_) | (refine rg_varN (by simp only [List.set_cons_zero, List.set_cons_succ]; exact rfl) ?_) | (refine re_lcN (by simp only [wipe, List.set_cons_zero, List.set_cons_succ]; exact rfl) ?_) | (with_reducible refine And.intro (show (lstOf _ (D.lst _)).isSome = true from rfl) ?_) | (with_reducible refine rs_seq ?_) | (with_reducible refine rs_asg ?_) | (with_reducible refine re_apK ?_) | (with_reducible refine re_ap ?_) | (with_reducible refine ra_cons ?_) | (with_reducible refine ra_nil ?_) | (with_reducible refine re_c ?_) | (with_reducible refine re_ap2 ?_) | (with_reducible refine re_ap1 ?_) | (with_reducible refine rg_var ?_) | (with_reducible refine rk_nx ?_) | (with_reducible refine rk_N ?_) | (with_reducible refine rs_if ?_) | (with_reducible refine rt_B ?_) | (with_reducible refine rs_ex ?_) | (with_reducible refine rs_ret ?_) | (with_reducible refine rt_not ?_) | (with_reducible refine re_T ?_) | (with_reducible refine rk_rt ?_) | (with_reducible refine re_mt ?_) | (with_reducible refine re_mx ?_) | (with_reducible refine re_sl ?_) | (with_reducible refine ro_no ?_) | (with_reducible refine ro_p ?_) | (with_reducible refine rg_add ?_) | (with_reducible refine rg_sbt ?_) | (with_reducible refine rg_iadd ?_) | (with_reducible refine rg_isub ?_) | (with_reducible refine rg_neg ?_) | (with_reducible refine rg_lt ?_) | (with_reducible refine rg_le ?_) | (with_reducible refine rg_gt ?_) | (with_reducible refine rg_ge ?_) | (with_reducible refine rg_isb ?_) | (with_reducible refine rg_isnb ?_) | (with_reducible refine rg_eqI ?_) | (with_reducible refine rg_neI ?_) | (with_reducible refine rg_eqR ?_) | (with_reducible refine rg_lenW ?_) | (with_reducible refine rg_lenI ?_) | (with_reducible refine rg_lenT ?_) | (with_reducible refine rg_lenL ?_) | (with_reducible refine rg_sumI ?_) | (with_reducible refine rg_sumL ?_) | (with_reducible refine rg_intI ?_) | (with_reducible refine rg_intB ?_) | (with_reducible refine rg_tupL ?_) | (with_reducible refine rs_nop ?_) | (with_reducible refine re_tup ?_) | (with_reducible refine re_lst ?_) | (with_reducible refine re_lstR ?_) | (with_reducible refine al0 ?_) | (with_reducible refine al1 ?_) | (with_reducible refine al2 ?_) | (with_reducible refine al3 ?_) | (with_reducible refine al4 ?_) | (with_reducible refine al5 ?_) | (with_reducible refine al6 ?_) | (with_reducible refine re_and ?_) | (with_reducible refine re_or ?_) | (with_reducible refine re_not ?_) | (with_reducible refine re_ch ?_) | (with_reducible refine re_if ?_) | (with_reducible refine rt_and ?_) | (with_reducible refine rt_or ?_) | (with_reducible refine rt_TT ?_) | (with_reducible refine rs_for ?_) | (with_reducible refine ri_val ?_) | (with_reducible refine ri_rg1 ?_) | (with_reducible refine ri_rg2 ?_) | (with_reducible refine ri_en ?_) | (with_reducible refine ri_zip ?_) | (with_reducible refine re_is ?_) | (with_reducible refine rt_B ?_) | (with_reducible refine re_lc ?_) | (with_reducible refine rl_in ?_) | (with_reducible refine rl_one ?_) | (with_reducible refine rs_par2 ?_) | (with_reducible refine rs_par3 ?_) | (with_reducible refine rg_tup ?_) | (with_reducible refine rg_all ?_) | (with_reducible refine rg_all_nil ?_) | (with_reducible refine rg_sub ?_) | (with_reducible refine rs_augS ?_) | (with_reducible refine re_var ?_; refine ⟨_, rfl, ?_⟩) | (with_reducible refine rs_aug ?_; refine ⟨_, rfl, ?_⟩) | refine ⟨_, rfl, ?_⟩ | with_reducible refine ⟨_, _, rfl, ?_⟩ | with_reducible refine ⟨_, _, _, rfl, ?_⟩ | refine ⟨⟨rfl, rfl⟩, ?_⟩ | refine ⟨by unfold BIG; omega, ?_⟩))
/-- ties of u to a place behind it -/
def tiesR (m : List (List Int)) (u : Nat) : List (Nat × Nat) := (List.range (m.length - (u + 1))).flatMap fun d => List.replicate (ent m u (u + 1 + d)).toNat (u, u + 1 + d)
def tiesL (m : List (List Int)) : List (Nat × Nat) := (List.range m.length).flatMap (tiesR m)
theorem fm_take {α β : Type} (f : α → List β) {l : List α} {i : Nat} {x : α} (h : l[i]? = some x) : (l.take (i + 1)).flatMap f = (l.take i).flatMap f ++ f x := by
  rw [List.take_add_one, h]
  simp [List.flatMap_append]
theorem fm_len {α β : Type} (f : α → List β) (B : Nat) : ∀ (l : List α), (∀ x ∈ l, (f x).length ≤ B) → (l.flatMap f).length ≤ B * l.length
  | [], _ => by simp
  | x :: l, h => by
    have h1 := h x (by simp)
    have h2 := fm_len f B l fun y hy => h y (List.mem_cons_of_mem _ hy)
    rw [List.flatMap_cons, List.length_append, List.length_cons, Nat.mul_add, Nat.mul_one]
    omega
theorem tiesR_len {m : List (List Int)} (hm : IsWeb m) {u : Nat} (hu : u < m.length) : (tiesR m u).length ≤ 240 := by
  have l10 := hm.n10
  have := fm_len (fun d => List.replicate (ent m u (u + 1 + d)).toNat (u, u + 1 + d)) 24 (List.range (m.length - (u + 1))) fun d hd => by
    have hd := List.mem_range.mp hd
    have := ent_hi hm hu (v := u + 1 + d) (by omega)
    simp only [List.length_replicate]; omega
  rw [List.length_range] at this
  unfold tiesR
  omega
theorem tiesL_len {m : List (List Int)} (hm : IsWeb m) : (tiesL m).length ≤ 2400 := by
  have l10 := hm.n10
  have := fm_len (tiesR m) 240 (List.range m.length) fun u hu => tiesR_len hm (List.mem_range.mp hu)
  rw [List.length_range] at this
  unfold tiesL
  omega
section
variable {h : Hd}
/-- the comprehension of ties -/
theorem ties_lc {m : List (List Int)} (hm : IsWeb m) {Q : List D → Hd → Prop} (q : Q ((tiesL m).map pD) h) :
    Rn (lcF (gVar 2) tTT (lcIn [3, 4] (iRg2 (aCons (eAp2 gAdd (eVar 2) (eC (.int 1))) (aCons (eVar 1) aNil))) (gVar 3) tTT (lcIn [4] (iRg1 (aCons (eAp2 gIx (eAp2 gIx (eVar 0) (eVar 2)) (eVar 3)) aNil)) (gVar 4) tTT (lcOne (eTup (aCons (eVar 2) (aCons (eVar 3) aNil)))))) [] [some (dW m), some (.int (m.length : Int)), none, none, none] ((List.range m.length).map fun (i : Nat) => D.int (i : Int)) h) Q := by
  have l10 := hm.n10
  refine rn_lc (fun (i : Nat) => D.int (i : Int)) (List.range m.length) (fun k ys h' => ys = (((List.range m.length).take k).flatMap (tiesR m)).map pD ∧ h' = h) (fun _ _ _ _ => okChk_nil _) ⟨rfl, rfl⟩ (fun i u ys h' hi hI => ?_) fun ys h' hI => ?_
  · obtain ⟨rfl, rfl⟩ := hI
    obtain ⟨rfl, hu⟩ := rng_at hi
    rw [fm_take _ hi, List.map_append]
    and_intros
    refine ⟨fun _ => ?_, fun z => (by cases z)⟩
    refine rl_in (ri_rg2 ?_)
    refine ra_cons (re_ap2 (re_var ⟨_, rfl, re_c (rg_add ?_)⟩))
    refine ra_cons (re_var ⟨_, rfl, ra_nil ?_⟩)
    refine ⟨_, _, rfl, by unfold BIG; omega, ?_⟩
    rw [show ((m.length : Int) - ((u : Int) + 1)).toNat = m.length - (u + 1) by omega]
    simp only [wipe, List.set_cons_zero, List.set_cons_succ]
    refine rn_lc (fun (d : Nat) => D.int ((u : Int) + 1 + (d : Int))) (List.range (m.length - (u + 1))) (fun k zs h2 => zs = (((List.range (m.length - (u + 1))).take k).flatMap fun d => List.replicate (ent m u (u + 1 + d)).toNat (u, u + 1 + d)).map pD ∧ h2 = h') (fun _ _ _ _ => okChk_nil _) ⟨rfl, rfl⟩ (fun j d zs h2 hj hJ => ?_) fun zs h2 hJ => ?_
    · obtain ⟨rfl, rfl⟩ := hJ
      obtain ⟨rfl, hd⟩ := rng_at hj
      rw [fm_take _ hj, List.map_append, show (u : Int) + 1 + (d : Int) = ((u + 1 + d : Nat) : Int) by omega]
      have hv : u + 1 + d < m.length := by omega
      generalize u + 1 + d = v at hv
      and_intros
      refine ⟨fun _ => ?_, fun z => (by cases z)⟩
      refine rl_in ?_
      and_intros
      refine rg_ixW hu ?_
      and_intros
      refine rg_ixI (by rw [(hm.row _ (getD_mem hu)).1]; exact hv) ?_
      have e0 := ent_lo hm hu hv
      have e1 := ent_hi hm hu hv
      have e2 : (m.getD u []).getD v 0 = ent m u v := rfl
      rw [e2]
      and_intros
      simp only [wipe, List.set_cons_zero, List.set_cons_succ]
      refine rn_lcP (fun (i : Nat) => D.int (i : Int)) (fun _ => pD (u, v)) (List.range (ent m u v).toNat) (fun i t _ => ?_) ?_
      · and_intros
        exact ⟨rfl, rfl⟩
      refine ⟨?_, rfl⟩
      congr 1
      apply List.ext_getElem
      · simp
      · intro i h1 h2; simp
    · obtain ⟨rfl, rfl⟩ := hJ
      rw [List.take_of_length_le (l := List.range (m.length - (u + 1))) (by rw [List.length_range]; exact Nat.le_refl _)]
      exact ⟨rfl, rfl⟩
  · obtain ⟨rfl, rfl⟩ := hI
    rw [List.take_of_length_le (by rw [List.length_range]; exact Nat.le_refl _)]
    exact q
end
theorem ties_of_eq {m : List (List Int)} (hm : IsWeb m) (h : Hd) : f_ties_of [dW m] h = .ok (.ref h.length) (h ++ [.lst ((tiesL m).map pD)]) := by
  have l10 := hm.n10
  have lt := tiesL_len hm
  have key : Rn (f_ties_of [dW m] h) fun r h' => r = .ref h.length ∧ h' = h ++ [.lst ((tiesL m).map pD)] := by
    unfold f_ties_of
    refine rf_fnK rfl (by simp only [List.map_cons, List.map_nil, List.cons_append, List.nil_append, List.replicate, Nat.reduceSub]; exact rfl) ?_
    and_intros
    refine rn_eq (need_web_eq hm h) ?_
    and_intros
    refine ties_lc hm ?_
    refine rl_endR (by rw [List.length_map]; unfold LIM; omega) ?_
    and_intros
    exact ⟨rfl, rfl⟩
  obtain ⟨d, h', e, rfl, rfl⟩ := key
  exact e
theorem mul_pairs {p : Nat × Nat} {i : Int} (h0 : 0 ≤ i) (h1 : i ≤ 24) (h : Hd) : gMul [.lst [pD p], .int i] h = .ok (.lst ((List.replicate i.toNat p).map pD)) h := by
  have e1 : i ≤ BIG ∧ -BIG ≤ i ∧ [pD p].length * i.toNat ≤ LIM := ⟨by unfold BIG; omega, by unfold BIG; omega, by unfold LIM; simp; omega⟩
  unfold gMul
  simp only [e1, and_self, if_true]
  congr 2
  simp
theorem all_ties_eq {m : List (List Int)} (hm : IsWeb m) (h : Hd) : f_law_all_ties [dW m] h = .ok (.lst ((tiesL m).map pD)) h := by
  have l10 := hm.n10
  have key : Rn (f_law_all_ties [dW m] h) fun r h' => r = .lst ((tiesL m).map pD) ∧ h' = h := by
    unfold f_law_all_ties
    refine rf_fnN rfl (by simp only [List.map_cons, List.map_nil, List.cons_append, List.nil_append, List.replicate, Nat.reduceSub]; exact rfl) ?_
    and_intros
    refine rn_for0 (fun (i : Nat) => D.int (i : Int)) (List.range m.length) (fun k σ h' => ∃ w3 w4, σ = [some (dW m), some (.int (m.length : Int)), some (.lst ((((List.range m.length).take k).flatMap (tiesR m)).map pD)), w3, w4] ∧ h' = h) ⟨_, _, rfl, rfl⟩ (fun i u σ h' hi hI => ?_) fun σ h' hI => ?_
    · obtain ⟨w3, w4, rfl, rfl⟩ := hI
      obtain ⟨rfl, hu⟩ := rng_at hi
      refine rg_varN (by simp only [List.set_cons_zero, List.set_cons_succ]; exact rfl) ?_
      refine rs_for (ri_rg2 ?_)
      refine ra_cons (re_ap2 (re_var ⟨_, rfl, re_c (rg_add ?_)⟩))
      refine ra_cons (re_var ⟨_, rfl, ra_nil ?_⟩)
      refine ⟨_, _, rfl, by unfold BIG; omega, ?_⟩
      rw [show ((m.length : Int) - ((u : Int) + 1)).toNat = m.length - (u + 1) by omega]
      have b0 := fm_len (tiesR m) 240 ((List.range m.length).take u) fun v hv => tiesR_len hm (List.mem_range.mp (List.mem_of_mem_take hv))
      rw [List.length_take, List.length_range] at b0
      refine rn_for0 (fun (d : Nat) => D.int ((u : Int) + 1 + (d : Int))) (List.range (m.length - (u + 1))) (fun k σ h2 => ∃ w4, σ = [some (dW m), some (.int (m.length : Int)), some (.lst ((((List.range m.length).take u).flatMap (tiesR m) ++ ((List.range (m.length - (u + 1))).take k).flatMap fun d => List.replicate (ent m u (u + 1 + d)).toNat (u, u + 1 + d)).map pD)), some (.int (u : Int)), w4] ∧ h2 = h') ⟨_, by simp; rfl, rfl⟩ (fun j d σ h2 hj hJ => ?_) fun σ h2 hJ => ?_
      · obtain ⟨w4, rfl, rfl⟩ := hJ
        obtain ⟨rfl, hd⟩ := rng_at hj
        have b1 := fm_len (fun d => List.replicate (ent m u (u + 1 + d)).toNat (u, u + 1 + d)) 24 ((List.range (m.length - (u + 1))).take d) fun e he => by
          have he := List.mem_range.mp (List.mem_of_mem_take he)
          have := ent_hi hm hu (v := u + 1 + e) (by omega)
          simp only [List.length_replicate]; omega
        rw [List.length_take, List.length_range] at b1
        rw [show (u : Int) + 1 + (d : Int) = ((u + 1 + d : Nat) : Int) by omega]
        have hv : u + 1 + d < m.length := by omega
        and_intros
        refine rg_ixW hu ?_
        and_intros
        refine rg_ixI (by rw [(hm.row _ (getD_mem hu)).1]; exact hv) ?_
        have e0 := ent_lo hm hu hv
        have e1 := ent_hi hm hu hv
        have e2 : (m.getD u []).getD (u + 1 + d) 0 = ent m u (u + 1 + d) := rfl
        rw [e2]
        refine rn_eq (mul_pairs (p := (u, u + 1 + d)) e0 e1 _) ?_
        refine rg_addLL (by rw [List.length_map, List.length_map, List.length_append, List.length_replicate]; unfold LIM; omega) ?_
        and_intros
        rw [fm_take _ hj, ← List.append_assoc, ← List.map_append]
        exact ⟨_, rfl, rfl⟩
      · obtain ⟨w4, rfl, rfl⟩ := hJ
        refine ⟨some (.int (u : Int)), w4, ?_, rfl⟩
        rw [fm_take _ hi, List.take_of_length_le (l := List.range (m.length - (u + 1))) (by rw [List.length_range]; exact Nat.le_refl _)]
        rfl
    · obtain ⟨w3, w4, rfl, rfl⟩ := hI
      and_intros
      rw [List.take_of_length_le (by rw [List.length_range]; exact Nat.le_refl _)]
      refine rn_fin ?_ ⟨rfl, rfl⟩
      show noRef.go _ _ = true
      rw [noRef_go]
      exact pD_noRef _ _
  obtain ⟨d, h', e, rfl, rfl⟩ := key
  exact e
theorem shape_eq {m : List (List Int)} (hm : IsWeb m) (h : Hd) : f_shape [dW m] h = .ok (.int ((tiesL m).length - m.length + 1)) h := by
  have key : Rn (f_shape [dW m] h) fun r h' => r = .int ((tiesL m).length - m.length + 1) ∧ h' = h := by
    unfold f_shape
    refine rf_fnN rfl (by simp only [List.map_cons, List.map_nil, List.cons_append, List.nil_append, List.replicate, Nat.reduceSub]; exact rfl) ?_
    and_intros
    refine rn_eq (ties_of_eq hm h) ?_
    and_intros
    refine rn_eq (a := .int (tiesL m).length) (h := h ++ [.lst ((tiesL m).map pD)]) (by simp [gLen]) ?_
    and_intros
    exact rn_fin0 rfl ⟨rfl, rfl⟩
  obtain ⟨d, h', e, rfl, rfl⟩ := key
  exact e
theorem reach_eq {m : List (List Int)} (hm : IsWeb m) {v : Nat} (hv : v < m.length) (h : Hd) : f_reach [dW m, .int (v : Int)] h = .ok (.int (m.getD v []).sum) h := by
  have key : Rn (f_reach [dW m, .int (v : Int)] h) fun r h' => r = .int (m.getD v []).sum ∧ h' = h := by
    unfold f_reach
    refine rf_fnN rfl (by simp only [List.map_cons, List.map_nil, List.cons_append, List.nil_append, List.replicate, Nat.reduceSub]; exact rfl) ?_
    and_intros
    refine rn_eq (need_web_eq hm h) ?_
    and_intros
    refine rn_eq (need_place_eq hv h) ?_
    and_intros
    refine rg_ixW hv ?_
    and_intros
    exact rn_fin rfl ⟨rfl, rfl⟩
  obtain ⟨d, h', e, rfl, rfl⟩ := key
  exact e
/-- ties at a place -/
theorem ties_at {m : List (List Int)} (hm : IsWeb m) {v : Nat} (hv : v < m.length) : (((tiesL m).filter fun p => decide (v = p.1) || decide (v = p.2)).length : Int) = (m.getD v []).sum := by
  have cnt : ∀ (l : List (Nat × Nat)), ((l.filter fun p => decide (v = p.1) || decide (v = p.2)).length : Int) = (l.map fun p => if v = p.1 ∨ v = p.2 then (1 : Int) else 0).sum := by
    intro l
    induction l with
    | nil => rfl
    | cons p l ih =>
      rw [List.map_cons, List.sum_cons, ← ih]
      by_cases z : v = p.1 ∨ v = p.2
      · rw [List.filter_cons_of_pos (by simpa using z), if_pos z, List.length_cons]; omega
      · rw [List.filter_cons_of_neg (by simpa using z), if_neg z]; omega
  have fms : ∀ {α : Type} (f : α → List (Nat × Nat)) (l : List α), ((l.flatMap f).map fun p => if v = p.1 ∨ v = p.2 then (1 : Int) else 0).sum = (l.map fun x => ((f x).map fun p => if v = p.1 ∨ v = p.2 then (1 : Int) else 0).sum).sum := by
    intro α f l
    induction l with
    | nil => rfl
    | cons x l ih => rw [List.flatMap_cons, List.map_append, sum_app, List.map_cons, List.sum_cons, ih]
  have rep : ∀ (k : Nat) (p : Nat × Nat), ((List.replicate k p).map fun p => if v = p.1 ∨ v = p.2 then (1 : Int) else 0).sum = if v = p.1 ∨ v = p.2 then (k : Int) else 0 := by
    intro k p
    induction k with
    | zero => simp
    | succ k ih => rw [List.replicate_succ, List.map_cons, List.sum_cons, ih]; split <;> omega
  have sh : ∀ (k : Nat) (f : Nat → Int) (n : Nat), sm (n - k) (fun d => f (k + d)) = sm n fun w => if k ≤ w then f w else 0 := by
    intro k f n
    induction n with
    | zero => simp [sm]
    | succ n ih =>
      rw [sm_succ, ← ih]
      by_cases z : k ≤ n
      · rw [if_pos z, show n + 1 - k = (n - k) + 1 by omega, sm_succ, show k + (n - k) = n by omega]
      · rw [if_neg z, show n + 1 - k = 0 by omega, show n - k = 0 by omega]; simp
  have inner : ∀ u, u < m.length → ((tiesR m u).map fun p => if v = p.1 ∨ v = p.2 then (1 : Int) else 0).sum = (if u = v then sm m.length (fun w => if v + 1 ≤ w then ent m v w else 0) else 0) + if u < v then ent m v u else 0 := by
    intro u hu
    unfold tiesR
    rw [fms]
    have e1 : ((List.range (m.length - (u + 1))).map fun d => ((List.replicate (ent m u (u + 1 + d)).toNat (u, u + 1 + d)).map fun p => if v = p.1 ∨ v = p.2 then (1 : Int) else 0).sum) = (List.range (m.length - (u + 1))).map fun d => (fun w => if v = u ∨ v = w then ent m u w else 0) (u + 1 + d) := by
      apply List.map_congr_left
      intro d hd
      have hd := List.mem_range.mp hd
      have := ent_lo hm hu (v := u + 1 + d) (by omega)
      rw [rep]
      simp only
      split <;> omega
    rw [e1]
    show sm (m.length - (u + 1)) (fun d => (fun w => if v = u ∨ v = w then ent m u w else 0) (u + 1 + d)) = _
    refine (sh (u + 1) (fun w => if v = u ∨ v = w then ent m u w else 0) m.length).trans ?_
    by_cases z : u = v
    · subst z
      rw [if_pos rfl, if_neg (by omega), Int.add_zero]
      exact sm_congr fun w _ => by simp
    · rw [if_neg z, Int.zero_add]
      by_cases y : u < v
      · rw [if_pos y]
        have : (sm m.length fun w => if u + 1 ≤ w then (if v = u ∨ v = w then ent m u w else 0) else 0) = sm m.length fun w => ent m u w * (if w = v then 1 else 0) := sm_congr fun w _ => by
          by_cases x : w = v
          · subst x; simp; omega
          · have : ¬ (v = u ∨ v = w) := by omega
            simp [this, x]
        rw [this, sm_unit hv, Int.mul_one, hm.sym u v hu hv]
      · rw [if_neg y]
        have : (sm m.length fun w => if u + 1 ≤ w then (if v = u ∨ v = w then ent m u w else 0) else 0) = sm m.length fun _ => 0 := sm_congr fun w _ => by
          by_cases x : u + 1 ≤ w
          · rw [if_pos x, if_neg (by omega)]
          · rw [if_neg x]
        rw [this, sm_nil]
  rw [cnt]
  unfold tiesL
  rw [fms, row_sum hm hv]
  show sm m.length (fun u => ((tiesR m u).map fun p => if v = p.1 ∨ v = p.2 then (1 : Int) else 0).sum) = _
  rw [sm_congr inner, sm_add]
  have a1 : (sm m.length fun u => if u = v then sm m.length (fun w => if v + 1 ≤ w then ent m v w else 0) else 0) = sm m.length fun w => if v + 1 ≤ w then ent m v w else 0 := by
    have : (sm m.length fun u => if u = v then sm m.length (fun w => if v + 1 ≤ w then ent m v w else 0) else 0) = sm m.length fun u => (fun _ => (1 : Int)) u * (if u = v then sm m.length (fun w => if v + 1 ≤ w then ent m v w else 0) else 0) := sm_congr fun w _ => by simp
    rw [this, sm_unit hv, Int.one_mul]
  rw [a1, ← sm_add]
  refine sm_congr fun w hw => ?_
  have n0 := hm.nul v hv
  by_cases x : v + 1 ≤ w
  · rw [if_pos x, if_neg (by omega)]; omega
  · by_cases y : w < v
    · rw [if_neg x, if_pos y]; omega
    · have : w = v := by omega
      subst this
      rw [if_neg x, if_neg y, n0]; rfl
end BR

namespace BR
open PySem
local macro_rules
  | `(tactic| and_intros) => `(tactic| repeat (first | (with_reducible refine re_V ?_) | (with_reducible refine ra_V ?_) | (with_reducible refine rt_V ?_) | (with_reducible refine rs_V ?_) | (with_reducible refine rg_V ?_) | (with_reducible refine re_ap1X ?_) | (with_reducible refine re_ap2X ?_) | (with_reducible refine re_apKX ?_) | (refine rg_varN (by simp only [List.set_cons_zero, List.set_cons_succ]; exact rfl) ?_) | (refine re_lcN (by simp only [wipe, List.set_cons_zero, List.set_cons_succ]; exact rfl) ?_) | (with_reducible refine And.intro (show (lstOf _ (D.lst _)).isSome = true from rfl) ?_) | (with_reducible refine rs_seq ?_) | (with_reducible refine rs_asg ?_) | (with_reducible refine re_apK ?_) | (with_reducible refine re_ap ?_) | (with_reducible refine ra_cons ?_) | (with_reducible refine ra_nil ?_) | (with_reducible refine re_c ?_) | (with_reducible refine re_ap2 ?_) | (with_reducible refine re_ap1 ?_) | (with_reducible refine rg_var ?_) | (with_reducible refine rk_nx ?_) | (with_reducible refine rk_N ?_) | (with_reducible refine rs_if ?_) | (with_reducible refine rt_B ?_) | (with_reducible refine rs_ex ?_) | (with_reducible refine rs_ret ?_) | (with_reducible refine rt_not ?_) | (with_reducible refine re_T ?_) | (with_reducible refine rk_rt ?_) | (with_reducible refine re_mt ?_) | (with_reducible refine re_mx ?_) | (with_reducible refine re_sl ?_) | (with_reducible refine ro_no ?_) | (with_reducible refine ro_p ?_) | (with_reducible refine rg_add ?_) | (with_reducible refine rg_sbt ?_) | (with_reducible refine rg_iadd ?_) | (with_reducible refine rg_isub ?_) | (with_reducible refine rg_neg ?_) | (with_reducible refine rg_lt ?_) | (with_reducible refine rg_le ?_) | (with_reducible refine rg_gt ?_) | (with_reducible refine rg_ge ?_) | (with_reducible refine rg_isb ?_) | (with_reducible refine rg_isnb ?_) | (with_reducible refine rg_eqI ?_) | (with_reducible refine rg_neI ?_) | (with_reducible refine rg_eqR ?_) | (with_reducible refine rg_lenW ?_) | (with_reducible refine rg_lenI ?_) | (with_reducible refine rg_lenT ?_) | (with_reducible refine rg_lenL ?_) | (with_reducible refine rg_sumI ?_) | (with_reducible refine rg_sumL ?_) | (with_reducible refine rg_intI ?_) | (with_reducible refine rg_intB ?_) | (with_reducible refine rg_tupL ?_) | (with_reducible refine rs_nop ?_) | (with_reducible refine re_tup ?_) | (with_reducible refine re_lst ?_) | (with_reducible refine re_lstR ?_) | (with_reducible refine al0 ?_) | (with_reducible refine al1 ?_) | (with_reducible refine al2 ?_) | (with_reducible refine al3 ?_) | (with_reducible refine al4 ?_) | (with_reducible refine al5 ?_) | (with_reducible refine al6 ?_) | (with_reducible refine re_and ?_) | (with_reducible refine re_or ?_) | (with_reducible refine re_not ?_) | (with_reducible refine re_ch ?_) | (with_reducible refine re_if ?_) | (with_reducible refine rt_and ?_) | (with_reducible refine rt_or ?_) | (with_reducible refine rt_TT ?_) | (with_reducible refine rs_for ?_) | (with_reducible refine ri_val ?_) | (with_reducible refine ri_rg1 ?_) | (with_reducible refine ri_rg2 ?_) | (with_reducible refine ri_en ?_) | (with_reducible refine ri_zip ?_) | (with_reducible refine re_is ?_) | (with_reducible refine rt_B ?_) | (with_reducible refine re_lc ?_) | (with_reducible refine rl_in ?_) | (with_reducible refine rl_one ?_) | (with_reducible refine rs_par2 ?_) | (with_reducible refine rs_par3 ?_) | (with_reducible refine rg_tup ?_) | (with_reducible refine rg_all ?_) | (with_reducible refine rg_all_nil ?_) | (with_reducible refine rg_sub ?_) | (with_reducible refine rs_augS ?_) | (with_reducible refine re_var ?_; refine ⟨_, rfl, ?_⟩) | (with_reducible refine rs_aug ?_; refine ⟨_, rfl, ?_⟩) | refine ⟨_, rfl, ?_⟩ | with_reducible refine ⟨_, _, rfl, ?_⟩ | with_reducible refine ⟨_, _, _, rfl, ?_⟩ | refine ⟨⟨rfl, rfl⟩, ?_⟩ | refine ⟨by unfold BIG; omega, ?_⟩))
theorem ties_x_no {d : D} (t : Dat 4 d) (nw : ¬ IsW d) (h : Hd) : f_ties_of_x [d] h = .exc 0 [] h := by
  unfold f_ties_of_x
  simp only [fnX, fn, fnK, gIsN, gNotN, isNon, sNop, sSeq, sEx, sRet, sIf, sBrk, sCnt, sAsg, gVar, gAll, gTup, gSub, sAug, sAugS, sPar2, sPar3, eVar, eC, aNil, aCons, eAp, eAp1_eq, eAp2_eq, tB, tAnd, tOr, tNot, tTT, eT, eIf, eAnd, eOr, eNot, eCh, oNo, oP, eSl, eMtL, eTup_eq, eLst_eq, eLstR_eq, Res.bind_ok, Res.bind_bad, Res.bind_exc, List.map_cons, List.map_nil, List.length_cons, List.length_nil, List.replicate, List.cons_append, List.nil_append, List.getElem?_cons_zero, List.getElem?_cons_succ, List.set_cons_zero, List.set_cons_succ, if_true, if_false, Nat.reduceAdd, Nat.reduceSub, Nat.reduceEqDiff, reduceIte, Bool.false_eq_true, tV, aV, eV, only_ok, need_web_x_no t nw, fin_non]
theorem shape_x_no {d : D} (t : Dat 4 d) (nw : ¬ IsW d) (h : Hd) : f_shape_x [d] h = .exc 0 [] h := by
  unfold f_shape_x
  simp only [fnX, fn, fnK, gIsN, gNotN, isNon, sNop, sSeq, sEx, sRet, sIf, sBrk, sCnt, sAsg, gVar, gAll, gTup, gSub, sAug, sAugS, sPar2, sPar3, eVar, eC, aNil, aCons, eAp, eAp1_eq, eAp2_eq, tB, tAnd, tOr, tNot, tTT, eT, eIf, eAnd, eOr, eNot, eCh, oNo, oP, eSl, eMtL, eTup_eq, eLst_eq, eLstR_eq, Res.bind_ok, Res.bind_bad, Res.bind_exc, List.map_cons, List.map_nil, List.length_cons, List.length_nil, List.replicate, List.cons_append, List.nil_append, List.getElem?_cons_zero, List.getElem?_cons_succ, List.set_cons_zero, List.set_cons_succ, if_true, if_false, Nat.reduceAdd, Nat.reduceSub, Nat.reduceEqDiff, reduceIte, Bool.false_eq_true, tV, aV, eV, only_ok, eAp2X, eAp1X, ties_x_no t nw, fin_non, decide_true]
theorem own_x_no {d : D} (t : Dat 4 d) (nw : ¬ IsW d) (h : Hd) : f_own_heap_x [d] h = .exc 0 [] h := by
  unfold f_own_heap_x
  simp only [fnX, fn, fnK, gIsN, gNotN, isNon, sNop, sSeq, sEx, sRet, sIf, sBrk, sCnt, sAsg, gVar, gAll, gTup, gSub, sAug, sAugS, sPar2, sPar3, eVar, eC, aNil, aCons, eAp, eAp1_eq, eAp2_eq, tB, tAnd, tOr, tNot, tTT, eT, eIf, eAnd, eOr, eNot, eCh, oNo, oP, eSl, eMtL, eTup_eq, eLst_eq, eLstR_eq, Res.bind_ok, Res.bind_bad, Res.bind_exc, List.map_cons, List.map_nil, List.length_cons, List.length_nil, List.replicate, List.cons_append, List.nil_append, List.getElem?_cons_zero, List.getElem?_cons_succ, List.set_cons_zero, List.set_cons_succ, if_true, if_false, Nat.reduceAdd, Nat.reduceSub, Nat.reduceEqDiff, reduceIte, Bool.false_eq_true, tV, aV, eV, only_ok, need_web_x_no t nw, fin_non]
theorem reach_x_web {d e : D} (t : Dat 4 d) (nw : ¬ IsW d) (h : Hd) : f_reach_x [d, e] h = .exc 0 [] h := by
  unfold f_reach_x
  simp only [fnX, fn, fnK, gIsN, gNotN, isNon, sNop, sSeq, sEx, sRet, sIf, sBrk, sCnt, sAsg, gVar, gAll, gTup, gSub, sAug, sAugS, sPar2, sPar3, eVar, eC, aNil, aCons, eAp, eAp1_eq, eAp2_eq, tB, tAnd, tOr, tNot, tTT, eT, eIf, eAnd, eOr, eNot, eCh, oNo, oP, eSl, eMtL, eTup_eq, eLst_eq, eLstR_eq, Res.bind_ok, Res.bind_bad, Res.bind_exc, List.map_cons, List.map_nil, List.length_cons, List.length_nil, List.replicate, List.cons_append, List.nil_append, List.getElem?_cons_zero, List.getElem?_cons_succ, List.set_cons_zero, List.set_cons_succ, if_true, if_false, Nat.reduceAdd, Nat.reduceSub, Nat.reduceEqDiff, reduceIte, Bool.false_eq_true, tV, aV, eV, only_ok, need_web_x_no t nw, fin_non]
/-- no place of n -/
def NoPl (n : Nat) (d : D) : Prop := tyD d = true ∧ (isInt d = false ∨ ∃ i : Int, d = .int i ∧ ¬ (0 ≤ i ∧ i < n))
theorem place_x_no {m : List (List Int)} {d : D} (np : NoPl m.length d) (h : Hd) : f_need_place_x [dW m, d] h = .exc 4 [] h := by
  obtain ⟨t, z | ⟨i, rfl, z⟩⟩ := np
  · unfold f_need_place_x
    simp only [fnX, fn, fnK, gIsN, gNotN, isNon, sNop, sSeq, sEx, sRet, sIf, sBrk, sCnt, sAsg, gVar, gAll, gTup, gSub, sAug, sAugS, sPar2, sPar3, eVar, eC, aNil, aCons, eAp, eAp1_eq, eAp2_eq, tB, tAnd, tOr, tNot, tTT, eT, eIf, eAnd, eOr, eNot, eCh, oNo, oP, eSl, eMtL, eTup_eq, eLst_eq, eLstR_eq, Res.bind_ok, Res.bind_bad, Res.bind_exc, List.map_cons, List.map_nil, List.length_cons, List.length_nil, List.replicate, List.cons_append, List.nil_append, List.getElem?_cons_zero, List.getElem?_cons_succ, List.set_cons_zero, List.set_cons_succ, if_true, if_false, Nat.reduceAdd, Nat.reduceSub, Nat.reduceEqDiff, reduceIte, Bool.false_eq_true, tV, aV, eV, sV, only_ok, whole_any t, z, Bool.not_false, sRaise, fin_non]
  · unfold f_need_place_x
    by_cases z0 : 0 ≤ i
    · have z1 : ¬ i < (m.length : Int) := fun y => z ⟨z0, y⟩
      simp only [fnX, fn, fnK, gIsN, gNotN, isNon, sNop, sSeq, sEx, sRet, sIf, sBrk, sCnt, sAsg, gVar, gAll, gTup, gSub, sAug, sAugS, sPar2, sPar3, eVar, eC, aNil, aCons, eAp, eAp1_eq, eAp2_eq, tB, tAnd, tOr, tNot, tTT, eT, eIf, eAnd, eOr, eNot, eCh, oNo, oP, eSl, eMtL, eTup_eq, eLst_eq, eLstR_eq, Res.bind_ok, Res.bind_bad, Res.bind_exc, List.map_cons, List.map_nil, List.length_cons, List.length_nil, List.replicate, List.cons_append, List.nil_append, List.getElem?_cons_zero, List.getElem?_cons_succ, List.set_cons_zero, List.set_cons_succ, if_true, if_false, Nat.reduceAdd, Nat.reduceSub, Nat.reduceEqDiff, reduceIte, Bool.false_eq_true, tV, aV, eV, sV, only_ok, whole_any t, isInt, Bool.not_true, gLe, gLt, gLen_dW, z0, z1, decide_true, decide_false, Bool.not_false, sRaise, fin_non]
    · simp only [fnX, fn, fnK, gIsN, gNotN, isNon, sNop, sSeq, sEx, sRet, sIf, sBrk, sCnt, sAsg, gVar, gAll, gTup, gSub, sAug, sAugS, sPar2, sPar3, eVar, eC, aNil, aCons, eAp, eAp1_eq, eAp2_eq, tB, tAnd, tOr, tNot, tTT, eT, eIf, eAnd, eOr, eNot, eCh, oNo, oP, eSl, eMtL, eTup_eq, eLst_eq, eLstR_eq, Res.bind_ok, Res.bind_bad, Res.bind_exc, List.map_cons, List.map_nil, List.length_cons, List.length_nil, List.replicate, List.cons_append, List.nil_append, List.getElem?_cons_zero, List.getElem?_cons_succ, List.set_cons_zero, List.set_cons_succ, if_true, if_false, Nat.reduceAdd, Nat.reduceSub, Nat.reduceEqDiff, reduceIte, Bool.false_eq_true, tV, aV, eV, sV, only_ok, whole_any t, isInt, Bool.not_true, gLe, gLt, gLen_dW, z0, decide_false, Bool.not_false, sRaise, fin_non]
theorem reach_x_place {m : List (List Int)} (hm : IsWeb m) {d : D} (np : NoPl m.length d) (h : Hd) : f_reach_x [dW m, d] h = .exc 4 [] h := by
  unfold f_reach_x
  simp only [fnX, fn, fnK, gIsN, gNotN, isNon, sNop, sSeq, sEx, sRet, sIf, sBrk, sCnt, sAsg, gVar, gAll, gTup, gSub, sAug, sAugS, sPar2, sPar3, eVar, eC, aNil, aCons, eAp, eAp1_eq, eAp2_eq, tB, tAnd, tOr, tNot, tTT, eT, eIf, eAnd, eOr, eNot, eCh, oNo, oP, eSl, eMtL, eTup_eq, eLst_eq, eLstR_eq, Res.bind_ok, Res.bind_bad, Res.bind_exc, List.map_cons, List.map_nil, List.length_cons, List.length_nil, List.replicate, List.cons_append, List.nil_append, List.getElem?_cons_zero, List.getElem?_cons_succ, List.set_cons_zero, List.set_cons_succ, if_true, if_false, Nat.reduceAdd, Nat.reduceSub, Nat.reduceEqDiff, reduceIte, Bool.false_eq_true, tV, aV, eV, only_ok, need_web_x_ok hm, place_x_no np, fin_non]
/-- what is caught -/
theorem caught_web {d e : D} (t : Dat 4 d) (nw : ¬ IsW d) {w : Str} (hw : w = "ties" ∨ w = "reach" ∨ w = "shape" ∨ w = "own") (h : Hd) : f_law_caught [.str w, d, e] h = .ok (.ref h.length) (h ++ [.exo 0]) := by
  have key : Rn (f_law_caught [.str w, d, e] h) fun r h' => r = .ref h.length ∧ h' = h ++ [.exo 0] := by
    unfold f_law_caught
    refine rf_fnK rfl (by simp only [List.map_cons, List.map_nil, List.cons_append, List.nil_append, List.replicate, Nat.reduceSub]; exact rfl) ?_
    and_intros
    refine rs_try_ex (c := 0) (xs := []) (h1 := h) ?_ rfl (by simp) (by simp) ?_
    · rcases hw with rfl | rfl | rfl | rfl
      · simp only [fn, fnK, gIsN, gNotN, isNon, sNop, sSeq, sEx, sRet, sIf, sBrk, sCnt, sAsg, gVar, gAll, gTup, gSub, sAug, sAugS, sPar2, sPar3, eVar, eC, aNil, aCons, eAp, eAp1_eq, eAp2_eq, tB, tAnd, tOr, tNot, tTT, eT, eIf, eAnd, eOr, eNot, eCh, oNo, oP, eSl, eMtL, eTup_eq, eLst_eq, eLstR_eq, Res.bind_ok, Res.bind_bad, Res.bind_exc, List.map_cons, List.map_nil, List.length_cons, List.length_nil, List.replicate, List.cons_append, List.nil_append, List.getElem?_cons_zero, List.getElem?_cons_succ, List.set_cons_zero, List.set_cons_succ, if_true, if_false, Nat.reduceAdd, Nat.reduceSub, Nat.reduceEqDiff, reduceIte, Bool.false_eq_true, tV, aV, eV, only_ok, gEq_str, show decide (("ties" : Str) = "ties") = true by decide, ties_x_no t nw, fin_non, decide_true]
      · simp only [fn, fnK, gIsN, gNotN, isNon, sNop, sSeq, sEx, sRet, sIf, sBrk, sCnt, sAsg, gVar, gAll, gTup, gSub, sAug, sAugS, sPar2, sPar3, eVar, eC, aNil, aCons, eAp, eAp1_eq, eAp2_eq, tB, tAnd, tOr, tNot, tTT, eT, eIf, eAnd, eOr, eNot, eCh, oNo, oP, eSl, eMtL, eTup_eq, eLst_eq, eLstR_eq, Res.bind_ok, Res.bind_bad, Res.bind_exc, List.map_cons, List.map_nil, List.length_cons, List.length_nil, List.replicate, List.cons_append, List.nil_append, List.getElem?_cons_zero, List.getElem?_cons_succ, List.set_cons_zero, List.set_cons_succ, if_true, if_false, Nat.reduceAdd, Nat.reduceSub, Nat.reduceEqDiff, reduceIte, Bool.false_eq_true, tV, aV, eV, only_ok, gEq_str, show decide (("reach" : Str) = "ties") = false by decide +kernel, show decide (("reach" : Str) = "reach") = true by decide, reach_x_web t nw, fin_non, decide_true]
      · simp only [fn, fnK, gIsN, gNotN, isNon, sNop, sSeq, sEx, sRet, sIf, sBrk, sCnt, sAsg, gVar, gAll, gTup, gSub, sAug, sAugS, sPar2, sPar3, eVar, eC, aNil, aCons, eAp, eAp1_eq, eAp2_eq, tB, tAnd, tOr, tNot, tTT, eT, eIf, eAnd, eOr, eNot, eCh, oNo, oP, eSl, eMtL, eTup_eq, eLst_eq, eLstR_eq, Res.bind_ok, Res.bind_bad, Res.bind_exc, List.map_cons, List.map_nil, List.length_cons, List.length_nil, List.replicate, List.cons_append, List.nil_append, List.getElem?_cons_zero, List.getElem?_cons_succ, List.set_cons_zero, List.set_cons_succ, if_true, if_false, Nat.reduceAdd, Nat.reduceSub, Nat.reduceEqDiff, reduceIte, Bool.false_eq_true, tV, aV, eV, only_ok, gEq_str, show decide (("shape" : Str) = "ties") = false by decide +kernel, show decide (("shape" : Str) = "reach") = false by decide +kernel, show decide (("shape" : Str) = "shape") = true by decide, shape_x_no t nw, fin_non, decide_true]
      · simp only [fn, fnK, gIsN, gNotN, isNon, sNop, sSeq, sEx, sRet, sIf, sBrk, sCnt, sAsg, gVar, gAll, gTup, gSub, sAug, sAugS, sPar2, sPar3, eVar, eC, aNil, aCons, eAp, eAp1_eq, eAp2_eq, tB, tAnd, tOr, tNot, tTT, eT, eIf, eAnd, eOr, eNot, eCh, oNo, oP, eSl, eMtL, eTup_eq, eLst_eq, eLstR_eq, Res.bind_ok, Res.bind_bad, Res.bind_exc, List.map_cons, List.map_nil, List.length_cons, List.length_nil, List.replicate, List.cons_append, List.nil_append, List.getElem?_cons_zero, List.getElem?_cons_succ, List.set_cons_zero, List.set_cons_succ, if_true, if_false, Nat.reduceAdd, Nat.reduceSub, Nat.reduceEqDiff, reduceIte, Bool.false_eq_true, tV, aV, eV, only_ok, gEq_str, show decide (("own" : Str) = "ties") = false by decide +kernel, show decide (("own" : Str) = "reach") = false by decide +kernel, show decide (("own" : Str) = "shape") = false by decide +kernel, own_x_no t nw, fin_non, decide_true]
    · and_intros
      exact ⟨rfl, rfl⟩
  obtain ⟨d, h', e, rfl, rfl⟩ := key
  exact e
theorem caught_place {m : List (List Int)} (hm : IsWeb m) {d : D} (np : NoPl m.length d) (h : Hd) : f_law_caught [.str "reach", dW m, d] h = .ok (.ref h.length) (h ++ [.exo 4]) := by
  have key : Rn (f_law_caught [.str "reach", dW m, d] h) fun r h' => r = .ref h.length ∧ h' = h ++ [.exo 4] := by
    unfold f_law_caught
    refine rf_fnK rfl (by simp only [List.map_cons, List.map_nil, List.cons_append, List.nil_append, List.replicate, Nat.reduceSub]; exact rfl) ?_
    and_intros
    refine rs_try_ex (c := 4) (xs := []) (h1 := h) ?_ rfl (by simp) (by simp) ?_
    · simp only [fn, fnK, gIsN, gNotN, isNon, sNop, sSeq, sEx, sRet, sIf, sBrk, sCnt, sAsg, gVar, gAll, gTup, gSub, sAug, sAugS, sPar2, sPar3, eVar, eC, aNil, aCons, eAp, eAp1_eq, eAp2_eq, tB, tAnd, tOr, tNot, tTT, eT, eIf, eAnd, eOr, eNot, eCh, oNo, oP, eSl, eMtL, eTup_eq, eLst_eq, eLstR_eq, Res.bind_ok, Res.bind_bad, Res.bind_exc, List.map_cons, List.map_nil, List.length_cons, List.length_nil, List.replicate, List.cons_append, List.nil_append, List.getElem?_cons_zero, List.getElem?_cons_succ, List.set_cons_zero, List.set_cons_succ, if_true, if_false, Nat.reduceAdd, Nat.reduceSub, Nat.reduceEqDiff, reduceIte, Bool.false_eq_true, tV, aV, eV, only_ok, gEq_str, show decide (("reach" : Str) = "ties") = false by decide +kernel, show decide (("reach" : Str) = "reach") = true by decide, reach_x_place hm np, fin_non, decide_true]
    · and_intros
      exact ⟨rfl, rfl⟩
  obtain ⟨d, h', e, rfl, rfl⟩ := key
  exact e
theorem refused_eq {h : Hd} {n c : Nat} (e : h[n]? = some (.exo c)) (hc : c = 0 ∨ c = 4) : f_law_refused [.ref n, .bl (decide (c = 0))] h = .ok (.bl true) h := by
  have key : Rn (f_law_refused [.ref n, .bl (decide (c = 0))] h) fun r h' => r = .bl true ∧ h' = h := by
    unfold f_law_refused
    refine rf_fnN rfl (by simp only [List.map_cons, List.map_nil, List.cons_append, List.nil_append, List.replicate, Nat.reduceSub]; exact rfl) ?_
    and_intros
    refine rn_eq (a := .bl false) (h := h) rfl ?_
    and_intros
    refine ⟨fun z => (by cases z), fun _ => ?_⟩
    and_intros
    refine re_isX_exo ?_
    and_intros
    refine ⟨_, c, rfl, e, ?_⟩
    and_intros
    refine ⟨fun z => (by cases z), fun _ => ?_⟩
    and_intros
    refine re_isX_exo ?_
    and_intros
    refine ⟨_, c, rfl, e, ?_⟩
    and_intros
    refine rn_eq (gEq_bl _ _ _) ?_
    rcases hc with rfl | rfl
    · and_intros
      refine ⟨fun _ => ?_, fun z => absurd (of_decide_eq_false z) (by decide)⟩
      and_intros
      refine re_isX_exo ?_
      and_intros
      refine ⟨_, 0, rfl, e, ?_⟩
      and_intros
      refine rn_eq (gNe_bl _ _ _) ?_
      exact rn_fin rfl ⟨rfl, rfl⟩
    · and_intros
      refine ⟨fun _ => ?_, fun z => absurd (of_decide_eq_false z) (by decide)⟩
      and_intros
      refine re_isX_exo ?_
      and_intros
      refine ⟨_, 4, rfl, e, ?_⟩
      and_intros
      refine rn_eq (gNe_bl _ _ _) ?_
      exact rn_fin rfl ⟨rfl, rfl⟩
  obtain ⟨d, h', e, rfl, rfl⟩ := key
  exact e
end BR

namespace BR
open PySem
local macro_rules
  | `(tactic| and_intros) => `(tactic| repeat (first | (with_reducible refine re_V ?_) | (with_reducible refine ra_V ?_) | (with_reducible refine rt_V ?_) | (with_reducible refine rs_V ?_) | (with_reducible refine rg_V ?_) | (with_reducible refine re_ap1X ?_) | (with_reducible refine re_ap2X ?_) | (with_reducible refine re_apKX ?_) | (refine rg_varN (by simp only [List.set_cons_zero, List.set_cons_succ]; exact rfl) ?_) | (refine re_lcN (by simp only [wipe, List.set_cons_zero, List.set_cons_succ]; exact rfl) ?_) | (with_reducible refine And.intro (show (lstOf _ (D.lst _)).isSome = true from rfl) ?_) | (with_reducible refine rs_seq ?_) | (with_reducible refine rs_asg ?_) | (with_reducible refine re_apK ?_) | (with_reducible refine re_ap ?_) | (with_reducible refine ra_cons ?_) | (with_reducible refine ra_nil ?_) | (with_reducible refine re_c ?_) | (with_reducible refine re_ap2 ?_) | (with_reducible refine re_ap1 ?_) | (with_reducible refine rg_var ?_) | (with_reducible refine rk_nx ?_) | (with_reducible refine rk_N ?_) | (with_reducible refine rs_if ?_) | (with_reducible refine rt_B ?_) | (with_reducible refine rs_ex ?_) | (with_reducible refine rs_ret ?_) | (with_reducible refine rt_not ?_) | (with_reducible refine re_T ?_) | (with_reducible refine rk_rt ?_) | (with_reducible refine re_mt ?_) | (with_reducible refine re_mx ?_) | (with_reducible refine re_sl ?_) | (with_reducible refine ro_no ?_) | (with_reducible refine ro_p ?_) | (with_reducible refine rg_add ?_) | (with_reducible refine rg_sbt ?_) | (with_reducible refine rg_iadd ?_) | (with_reducible refine rg_isub ?_) | (with_reducible refine rg_neg ?_) | (with_reducible refine rg_lt ?_) | (with_reducible refine rg_le ?_) | (with_reducible refine rg_gt ?_) | (with_reducible refine rg_ge ?_) | (with_reducible refine rg_isb ?_) | (with_reducible refine rg_isnb ?_) | (with_reducible refine rg_eqI ?_) | (with_reducible refine rg_neI ?_) | (with_reducible refine rg_eqR ?_) | (with_reducible refine rg_lenW ?_) | (with_reducible refine rg_lenI ?_) | (with_reducible refine rg_lenT ?_) | (with_reducible refine rg_lenL ?_) | (with_reducible refine rg_sumI ?_) | (with_reducible refine rg_sumL ?_) | (with_reducible refine rg_intI ?_) | (with_reducible refine rg_intB ?_) | (with_reducible refine rg_tupL ?_) | (with_reducible refine rs_nop ?_) | (with_reducible refine re_tup ?_) | (with_reducible refine re_lst ?_) | (with_reducible refine re_lstR ?_) | (with_reducible refine al0 ?_) | (with_reducible refine al1 ?_) | (with_reducible refine al2 ?_) | (with_reducible refine al3 ?_) | (with_reducible refine al4 ?_) | (with_reducible refine al5 ?_) | (with_reducible refine al6 ?_) | (with_reducible refine re_and ?_) | (with_reducible refine re_or ?_) | (with_reducible refine re_not ?_) | (with_reducible refine re_ch ?_) | (with_reducible refine re_if ?_) | (with_reducible refine rt_and ?_) | (with_reducible refine rt_or ?_) | (with_reducible refine rt_TT ?_) | (with_reducible refine rs_for ?_) | (with_reducible refine ri_val ?_) | (with_reducible refine ri_rg1 ?_) | (with_reducible refine ri_rg2 ?_) | (with_reducible refine ri_en ?_) | (with_reducible refine ri_zip ?_) | (with_reducible refine re_is ?_) | (with_reducible refine rt_B ?_) | (with_reducible refine re_lc ?_) | (with_reducible refine rl_in ?_) | (with_reducible refine rl_one ?_) | (with_reducible refine rs_par2 ?_) | (with_reducible refine rs_par3 ?_) | (with_reducible refine rg_tup ?_) | (with_reducible refine rg_all ?_) | (with_reducible refine rg_all_nil ?_) | (with_reducible refine rg_sub ?_) | (with_reducible refine rs_augS ?_) | (with_reducible refine re_var ?_; refine ⟨_, rfl, ?_⟩) | (with_reducible refine rs_aug ?_; refine ⟨_, rfl, ?_⟩) | refine ⟨_, rfl, ?_⟩ | with_reducible refine ⟨_, _, rfl, ?_⟩ | with_reducible refine ⟨_, _, _, rfl, ?_⟩ | refine ⟨⟨rfl, rfl⟩, ?_⟩ | refine ⟨by unfold BIG; omega, ?_⟩))
theorem same_listD {a : Nat} {l : List D} {h : Hd} (e : h[a]? = some (.lst l)) (hd : ∀ x ∈ l, Dat 3 x) (hl : l.length ≤ 10000) : f_law_same_F (4 + 2) [.ref a, .lst l] h = .ok (.bl true) h := by
  have e1 : ∀ σ : Sg, eLc false [2, 3] (iZipN (aCons (eVar 0) (aCons (eVar 1) aNil))) (gTup [(gVar 2), (gVar 3)]) tTT (lcOne (eAp (f_law_same_F (4 + 1)) (aCons (eVar 2) (aCons (eVar 3) aNil)))) [some (.ref a), some (.lst l), none, none] h = .ok (.lst (List.replicate l.length (.bl true))) h := fun _ => by
    have key : Rn (eLc false [2, 3] (iZipN (aCons (eVar 0) (aCons (eVar 1) aNil))) (gTup [(gVar 2), (gVar 3)]) tTT (lcOne (eAp (f_law_same_F (4 + 1)) (aCons (eVar 2) (aCons (eVar 3) aNil)))) [some (.ref a), some (.lst l), none, none] h) fun d h' => d = .lst (List.replicate l.length (.bl true)) ∧ h' = h := by
      refine re_lc ?_
      have ei : iZipN (aCons (eVar 0) (aCons (eVar 1) aNil)) [some (.ref a), some (.lst l), none, none] h = .ok ⟨l.map fun v => D.tup [v, v], chkOf h (.ref a) ++ []⟩ h := by
        simp only [iZipN, fn, fnK, gIsN, gNotN, isNon, sNop, sSeq, sEx, sRet, sIf, sBrk, sCnt, sAsg, gVar, gAll, gTup, gSub, sAug, sAugS, sPar2, sPar3, eVar, eC, aNil, aCons, eAp, eAp1_eq, eAp2_eq, tB, tAnd, tOr, tNot, tTT, eT, eIf, eAnd, eOr, eNot, eCh, oNo, oP, eSl, eMtL, eTup_eq, eLst_eq, eLstR_eq, Res.bind_ok, Res.bind_bad, Res.bind_exc, List.map_cons, List.map_nil, List.length_cons, List.length_nil, List.replicate, List.cons_append, List.nil_append, List.getElem?_cons_zero, List.getElem?_cons_succ, List.set_cons_zero, List.set_cons_succ, if_true, if_false, Nat.reduceAdd, Nat.reduceSub, Nat.reduceEqDiff, reduceIte, Bool.false_eq_true, seqOf, e, isTup, zip_self, chkOf]
      refine rn_eq ei ?_
      show Rn (lcF _ _ _ (chkOf h (.ref a) ++ []) _ _ _) _
      rw [List.append_nil]
      refine rn_lcS (fun v => D.tup [v, v]) (fun _ => .bl true) l (fun i v hv => ?_) ?_
      · and_intros
        exact ⟨_, _, same_self (hd v (List.mem_of_getElem? hv)) 5 (by decide) h, rfl, rfl⟩
      rw [map_const]
      exact rl_end (by rw [List.length_replicate]; unfold LIM; omega) ⟨rfl, rfl⟩
    obtain ⟨d, h', e, rfl, rfl⟩ := key
    exact e
  have e1 := e1 []
  show f_law_same_B (f_law_same_F (4 + 1)) _ h = _
  unfold f_law_same_B
  simp [fn, fnK, gIsN, gNotN, isNon, sNop, sSeq, sEx, sRet, sIf, sBrk, sCnt, sAsg, gVar, gAll, gTup, gSub, sAug, sAugS, sPar2, sPar3, eVar, eC, aNil, aCons, eAp, eAp1_eq, eAp2_eq, tB, tAnd, tOr, tNot, tTT, eT, eIf, eAnd, eOr, eNot, eCh, oNo, oP, eSl, eMtL, eTup_eq, eLst_eq, eLstR_eq, Res.bind_ok, Res.bind_bad, Res.bind_exc, List.map_cons, List.map_nil, List.length_cons, List.length_nil, List.replicate, List.cons_append, List.nil_append, List.getElem?_cons_zero, List.getElem?_cons_succ, List.set_cons_zero, List.set_cons_succ, if_true, if_false, Nat.reduceAdd, Nat.reduceSub, Nat.reduceEqDiff, reduceIte, Bool.false_eq_true, eIs, tyOf, e, subTy, gNe_bl, gLen, gNe_int, e1, inF_no, fin_bl]
theorem rn_sameD {a : Nat} {l : List D} {h : Hd} {Q : D → Hd → Prop} (e : h[a]? = some (.lst l)) (hd : ∀ x ∈ l, Dat 3 x) (hl : l.length ≤ 10000) (q : Q (.bl true) h) : Rn (f_law_same [.ref a, .lst l] h) Q := ⟨_, _, same_listD e hd hl, q⟩
theorem dat_pD (p : Nat × Nat) : Dat 3 (pD p) := .tup (show 2 ≤ 10000 by decide) fun x hx => by
  simp only [List.mem_cons, List.not_mem_nil, or_false] at hx
  rcases hx with rfl | rfl <;> exact .int _
theorem dat_pDs (E : List (Nat × Nat)) : ∀ x ∈ E.map pD, Dat 3 x := fun x hx => by
  obtain ⟨p, _, rfl⟩ := List.mem_map.mp hx
  exact dat_pD p
/-- the ties at a place, as the law picks them -/
theorem pick_lc {σ : Sg} {i : Nat} {v : Nat} {E : List (Nat × Nat)} {h : Hd} {Q : List D → Hd → Prop} (hE : E.length ≤ 10000) (hs : ∀ w, (σ.set 14 w)[13]? = some (some (.int (v : Int)))) (hl : 14 < σ.length) (q : Q ((E.filter fun p => decide (v = p.1) || decide (v = p.2)).map pD) h) :
    Rn (lcF (gVar 14) (tB (eAp2 (inF false) (eVar 13) (eVar 14))) (lcOne (eVar 14)) [] σ (E.map pD) h) Q := by
  refine rn_lc pD E (fun k ys h' => ys = ((E.take k).filter fun p => decide (v = p.1) || decide (v = p.2)).map pD ∧ h' = h) (fun _ _ _ _ => okChk_nil _) ⟨rfl, rfl⟩ (fun k p ys h' hk hI => ?_) fun ys h' hI => ?_
  · obtain ⟨rfl, rfl⟩ := hI
    have e14 : (σ.set 14 (some (pD p)))[14]? = some (some (pD p)) := by rw [List.getElem?_set_self hl]
    refine rg_var (rt_B (re_ap2 (re_var ⟨_, hs _, re_var ⟨_, e14, ?_⟩⟩)))
    refine rg_inN (l := [p.1, p.2]) rfl ?_
    have eb : decide (v ∈ [p.1, p.2]) = (decide (v = p.1) || decide (v = p.2)) := by simp
    rw [eb, List.take_add_one, hk, List.filter_append, List.map_append]
    refine ⟨_, rfl, fun z => ?_, fun z => ?_⟩
    · refine rl_one (re_var ⟨_, e14, ?_⟩)
      refine ⟨?_, rfl⟩
      simp only [Option.toList_some, List.filter_cons, z, if_true, List.filter_nil, List.map_cons, List.map_nil]
    · refine ⟨?_, rfl⟩
      simp only [Option.toList_some, List.filter_cons, z, if_false, Bool.false_eq_true, List.filter_nil, List.map_nil, List.append_nil]
  · obtain ⟨rfl, rfl⟩ := hI
    rw [List.take_length]
    exact q
theorem refused_0 {h : Hd} {n : Nat} (e : h[n]? = some (.exo 0)) : f_law_refused [.ref n, .bl true] h = .ok (.bl true) h := refused_eq e (.inl rfl)
theorem refused_4 {h : Hd} {n : Nat} (e : h[n]? = some (.exo 4)) : f_law_refused [.ref n, .bl false] h = .ok (.bl true) h := refused_eq e (.inr rfl)
/-- what is no place: shown, too -/
theorem nopl_in {n : Nat} {d : D} (hn : 1 ≤ n) (hn2 : n ≤ 10) (hd : d ∈ [D.int (n : Int), .int (-1), .bl true, .bl false, .non, .str "0", .tup [.int 0], .lst [.int 1, .int 0], .int (10 ^ 40)]) : NoPl n d ∧ Shw d 60 2 := by
  simp only [List.mem_cons, List.not_mem_nil, or_false] at hd
  rcases hd with rfl | rfl | rfl | rfl | rfl | rfl | rfl | rfl | rfl
  · exact ⟨⟨rfl, .inr ⟨_, rfl, by omega⟩⟩, shw_int (natAbs_lt (B := 10 ^ 109) (by omega) (by omega) (by decide)) _ _⟩
  · exact ⟨⟨rfl, .inr ⟨_, rfl, by omega⟩⟩, shw_int (natAbs_lt (B := 10 ^ 109) (by omega) (by omega) (by decide)) _ _⟩
  · exact ⟨⟨rfl, .inl rfl⟩, shw_bl _ _ _⟩
  · exact ⟨⟨rfl, .inl rfl⟩, shw_bl _ _ _⟩
  · exact ⟨⟨rfl, .inl rfl⟩, shw_non _ _⟩
  · exact ⟨⟨rfl, .inl rfl⟩, shw_str (by decide +kernel) _ _ (by decide +kernel)⟩
  · exact ⟨⟨rfl, .inl rfl⟩, shw_tup (n := 10) (k := 1) (allc (shw_int (by decide) _ _) alln) (by decide)⟩
  · exact ⟨⟨rfl, .inl rfl⟩, shw_lst (n := 10) (k := 1) (allc (shw_int (by decide) _ _) (allc (shw_int (by decide) _ _) alln)) (by decide)⟩
  · exact ⟨⟨rfl, .inr ⟨_, rfl, by omega⟩⟩, shw_int (by decide) _ _⟩
end BR

namespace BR
open PySem
local macro_rules
  | `(tactic| and_intros) => `(tactic| repeat (first | (with_reducible refine re_V ?_) | (with_reducible refine ra_V ?_) | (with_reducible refine rt_V ?_) | (with_reducible refine rs_V ?_) | (with_reducible refine rg_V ?_) | (with_reducible refine re_ap1X ?_) | (with_reducible refine re_ap2X ?_) | (with_reducible refine re_apKX ?_) | (refine rg_varN (by simp only [List.set_cons_zero, List.set_cons_succ]; exact rfl) ?_) | (refine re_lcN (by simp only [wipe, List.set_cons_zero, List.set_cons_succ]; exact rfl) ?_) | (with_reducible refine And.intro (show (lstOf _ (D.lst _)).isSome = true from rfl) ?_) | (with_reducible refine rs_seq ?_) | (with_reducible refine rs_asg ?_) | (with_reducible refine re_apK ?_) | (with_reducible refine re_ap ?_) | (with_reducible refine ra_cons ?_) | (with_reducible refine ra_nil ?_) | (with_reducible refine re_c ?_) | (with_reducible refine re_ap2 ?_) | (with_reducible refine re_ap1 ?_) | (with_reducible refine rg_var ?_) | (with_reducible refine rk_nx ?_) | (with_reducible refine rk_N ?_) | (with_reducible refine rs_if ?_) | (with_reducible refine rt_B ?_) | (with_reducible refine rs_ex ?_) | (with_reducible refine rs_ret ?_) | (with_reducible refine rt_not ?_) | (with_reducible refine re_T ?_) | (with_reducible refine rk_rt ?_) | (with_reducible refine re_mt ?_) | (with_reducible refine re_mx ?_) | (with_reducible refine re_sl ?_) | (with_reducible refine ro_no ?_) | (with_reducible refine ro_p ?_) | (with_reducible refine rg_add ?_) | (with_reducible refine rg_sbt ?_) | (with_reducible refine rg_iadd ?_) | (with_reducible refine rg_isub ?_) | (with_reducible refine rg_neg ?_) | (with_reducible refine rg_lt ?_) | (with_reducible refine rg_le ?_) | (with_reducible refine rg_gt ?_) | (with_reducible refine rg_ge ?_) | (with_reducible refine rg_isb ?_) | (with_reducible refine rg_isnb ?_) | (with_reducible refine rg_eqI ?_) | (with_reducible refine rg_neI ?_) | (with_reducible refine rg_eqR ?_) | (with_reducible refine rg_lenW ?_) | (with_reducible refine rg_lenI ?_) | (with_reducible refine rg_lenT ?_) | (with_reducible refine rg_lenL ?_) | (with_reducible refine rg_sumI ?_) | (with_reducible refine rg_sumL ?_) | (with_reducible refine rg_intI ?_) | (with_reducible refine rg_intB ?_) | (with_reducible refine rg_tupL ?_) | (with_reducible refine rs_nop ?_) | (with_reducible refine re_tup ?_) | (with_reducible refine re_lst ?_) | (with_reducible refine re_lstR ?_) | (with_reducible refine al0 ?_) | (with_reducible refine al1 ?_) | (with_reducible refine al2 ?_) | (with_reducible refine al3 ?_) | (with_reducible refine al4 ?_) | (with_reducible refine al5 ?_) | (with_reducible refine al6 ?_) | (with_reducible refine re_and ?_) | (with_reducible refine re_or ?_) | (with_reducible refine re_not ?_) | (with_reducible refine re_ch ?_) | (with_reducible refine re_if ?_) | (with_reducible refine rt_and ?_) | (with_reducible refine rt_or ?_) | (with_reducible refine rt_TT ?_) | (with_reducible refine rs_for ?_) | (with_reducible refine ri_val ?_) | (with_reducible refine ri_rg1 ?_) | (with_reducible refine ri_rg2 ?_) | (with_reducible refine ri_en ?_) | (with_reducible refine ri_zip ?_) | (with_reducible refine re_is ?_) | (with_reducible refine rt_B ?_) | (with_reducible refine re_lc ?_) | (with_reducible refine rl_in ?_) | (with_reducible refine rl_one ?_) | (with_reducible refine rs_par2 ?_) | (with_reducible refine rs_par3 ?_) | (with_reducible refine rg_tup ?_) | (with_reducible refine rg_all ?_) | (with_reducible refine rg_all_nil ?_) | (with_reducible refine rg_sub ?_) | (with_reducible refine rs_augS ?_) | (with_reducible refine re_var ?_; refine ⟨_, rfl, ?_⟩) | (with_reducible refine rs_aug ?_; refine ⟨_, rfl, ?_⟩) | refine ⟨_, rfl, ?_⟩ | with_reducible refine ⟨_, _, rfl, ?_⟩ | with_reducible refine ⟨_, _, _, rfl, ?_⟩ | refine ⟨⟨rfl, rfl⟩, ?_⟩ | refine ⟨by unfold BIG; omega, ?_⟩))
theorem same_i2 (i : Int) (h : Hd) : f_law_same [.int i, .int i] h = .ok (.bl true) h := same_self (k := 0) (.int i) 6 (by decide) h
theorem law_ok : ∀ ns : List Int, ns.length ≤ 63 → ∃ h', f_law02 [.scr ns] [] = .ok (.bl true) h' := by
  intro ns _
  have tm : TM = 1000000000 := rfl
  have key : Rn (f_law02 [.scr ns] []) fun d h => d = .bl true := by
    unfold f_law02
    refine rf_fnN rfl (by simp only [List.map_cons, List.map_nil, List.cons_append, List.nil_append, List.replicate, Nat.reduceSub]; exact rfl) ?_
    and_intros
    obtain ⟨c, e1⟩ := open_eq ns
    refine rn_eq e1 ?_
    and_intros
    refine rn_for0 (fun (i : Nat) => D.int (i : Int)) (List.range 6) (fun i σ h => ∃ w2 w3 w4 w5 w6 w7 w8 w9 w10 w11 w12 w13 w14 w15 : Option D, σ = [some (.scr ns), some (.ref 1), w2, w3, w4, w5, w6, w7, w8, w9, w10, w11, w12, w13, w14, w15] ∧ ∃ r, Pen c r h (20000 * i)) ⟨none, none, none, none, none, none, none, none, none, none, none, none, none, none, rfl, [], 0, 0, rfl, by omega, by omega⟩ (fun i xi σ h hx hI => ?_) fun σ h hI => ?_
    · obtain ⟨w2, w3, w4, w5, w6, w7, w8, w9, w10, w11, w12, w13, w14, w15, rfl, r, p⟩ := hI
      have hi : i < 6 := by
        have := (List.getElem?_eq_some_iff.mp hx).1
        simpa using this
      and_intros
      refine rn_web (P := 10) (T := 12) p (by omega) (by decide) (by decide) (by decide) (by decide) fun M h1 hm lM p => ?_
      have l10 := hm.n10
      have l1 := hm.n1
      have lt := tiesL_len hm
      and_intros
      refine rn_eq (all_ties_eq hm _) ?_
      and_intros
      refine rn_for0 (fun (i : Nat) => D.int (i : Int)) (List.range 2) (fun j σ h => ∃ w6 w7 : Option D, σ = [some (.scr ns), some (.ref 1), some (.int (xi : Int)), some (dW M), some (.int (M.length : Int)), some (.lst ((tiesL M).map pD)), w6, w7, w8, w9, w10, w11, w12, w13, w14, w15] ∧ ∃ r, Pen c r h (20000 * i + 1000)) ⟨_, _, rfl, r, p⟩ (fun j xj σ h hx hI => ?_) fun σ h2 hI => ?_
      · obtain ⟨w6, w7, rfl, r, p⟩ := hI
        and_intros
        refine rn_eq (ties_of_eq hm _) ?_
        have p1 := p.new (.lst ((tiesL M).map pD))
        rw [p.len]
        generalize h ++ [Ob.lst ((tiesL M).map pD)] = h2 at p1
        and_intros
        refine rn_sameD p1.get (dat_pDs _) (by rw [List.length_map]; omega) ?_
        and_intros
        refine ⟨fun z => (by cases z), fun _ => ?_⟩
        and_intros
        refine ⟨by simp only [lstOf, p1.get]; rfl, ?_⟩
        and_intros
        refine rg_append p1.get (by rw [List.length_map]; unfold LIM; omega) ?_
        have p2 := p1.set (.lst ((tiesL M).map pD ++ [D.tup [.int 0, .int 0]]))
        exact ⟨_, _, rfl, _, p2⟩
      obtain ⟨w6, w7, rfl, r, p⟩ := hI
      and_intros
      refine rn_eq (shape_eq hm _) ?_
      and_intros
      rw [List.length_map]
      refine rn_eq (same_i2 _ _) ?_
      and_intros
      refine ⟨fun z => (by cases z), fun _ => ?_⟩
      and_intros
      refine rn_lcP (fun (i : Nat) => D.int (i : Int)) (fun v => .int (M.getD v []).sum) (List.range M.length) (fun k v hv => ?_) ?_
      · obtain ⟨rfl, hv⟩ := rng_at hv
        and_intros
        refine pick_lc (i := 0) (v := v) (by omega) (fun _ => rfl) (by simp) ?_
        refine rl_end (by rw [List.length_map]; have := List.length_filter_le (fun p => decide (v = p.1) || decide (v = p.2)) (tiesL M); unfold LIM; omega) ?_
        and_intros
        refine ⟨?_, rfl⟩
        rw [List.length_map, ties_at hm hv]
      refine rl_end (by rw [List.length_map, List.length_range]; unfold LIM; omega) ?_
      and_intros
      refine rn_lcP (fun (i : Nat) => D.int (i : Int)) (fun v => .int (M.getD v []).sum) (List.range M.length) (fun k v hv => ?_) ?_
      · obtain ⟨rfl, hv⟩ := rng_at hv
        and_intros
        refine rn_eq (reach_eq hm hv _) ?_
        exact ⟨rfl, rfl⟩
      refine rl_end (by rw [List.length_map, List.length_range]; unfold LIM; omega) ?_
      and_intros
      refine rn_same (.lst (k := 4) (by rw [List.length_map, List.length_range]; omega) fun x hx => ?_) ?_
      · obtain ⟨v, _, rfl⟩ := List.mem_map.mp hx
        exact .int _
      and_intros
      refine ⟨fun z => (by cases z), fun _ => ?_⟩
      and_intros
      refine rn_eq (own_eq hm _) ?_
      and_intros
      refine rn_lcP (fun (v : Nat) => D.int (M.getD v []).sum) (fun v => .int ((M.getD v []).sum - 2)) (List.range M.length) (fun k v hv => ?_) ?_
      · and_intros
        exact ⟨rfl, rfl⟩
      refine rl_end (by rw [List.length_map, List.length_range]; unfold LIM; omega) ?_
      and_intros
      rw [show (List.range M.length).map (fun v => D.int ((M.getD v []).sum - 2)) = (ownL M).map D.int by unfold ownL; rw [List.map_map]; rfl]
      refine rn_same ((dat_dI (x := ownL M) (by simp [ownL]; omega)).le (by decide)) ?_
      and_intros
      refine ⟨fun z => (by cases z), fun _ => ?_⟩
      and_intros
      refine rn_no_web hm p (by omega) fun d1 h3 t1 p => ?_
      and_intros
      have p40 : ∀ h : Hd, gPow [.int 10, .int 40] h = .ok (.int (10 ^ 40)) h := fun h => gPow10 40 (by decide) h
      refine rn_eq (p40 _) ?_
      and_intros
      refine ⟨show 9 ≤ LIM by decide, ?_⟩
      and_intros
      refine rn_take (m := 9) p (by omega) (by decide) (by decide) fun z h4 z0 z1 p => ?_
      and_intros
      refine rg_ixL z0 (show z < 9 from z1) fun d2 hd2 => ?_
      obtain ⟨np, s2⟩ := nopl_in l1 l10 hd2
      and_intros
      have sh : Shw (.tup [d1, d2]) 3200 4 := shw_tup (n := 1534) (k := 3) (allc t1.1.2 (allc (s2.le (by decide) (by decide)) alln)) (show 2 * 1535 ≤ 3200 by decide)
      refine rg_repr sh (by decide) (by decide) fun seen hseen => ?_
      and_intros
      refine rn_take (m := 4) p (by omega) (by decide) (by decide) fun y h5 y0 y1 p => ?_
      and_intros
      refine rg_ixL y0 (show y < 4 from y1) fun dw hdw => ?_
      obtain ⟨w, rfl, hw⟩ : ∃ w : Str, dw = .str w ∧ (w = "ties" ∨ w = "reach" ∨ w = "shape" ∨ w = "own") := by
        simp only [List.mem_cons, List.not_mem_nil, or_false] at hdw
        rcases hdw with rfl | rfl | rfl | rfl
        · exact ⟨_, rfl, .inl rfl⟩
        · exact ⟨_, rfl, .inr (.inl rfl)⟩
        · exact ⟨_, rfl, .inr (.inr (.inl rfl))⟩
        · exact ⟨_, rfl, .inr (.inr (.inr rfl))⟩
      and_intros
      refine rn_take (m := 2) p (by omega) (by decide) (by decide) fun b h6 b0 b1 p => ?_
      and_intros
      refine rg_ixL b0 (show b < 2 from b1) fun d3 _ => ?_
      and_intros
      refine rn_eq (caught_web t1.1.1 t1.2 hw _) ?_
      have p2 := p.new (.exo 0)
      rw [p.len]
      generalize h6 ++ [Ob.exo 0] = h7 at p2
      and_intros
      refine rn_eq (refused_0 p2.get) ?_
      and_intros
      refine ⟨fun z => (by cases z), fun _ => ?_⟩
      and_intros
      refine rn_eq (caught_place hm np _) ?_
      have p3 := p2.new (.exo 4)
      rw [p2.len]
      generalize h7 ++ [Ob.exo 4] = h8 at p3
      and_intros
      refine rn_eq (refused_4 p3.get) ?_
      and_intros
      refine ⟨fun z => (by cases z), fun _ => ?_⟩
      and_intros
      refine rn_eq (hseen _) ?_
      and_intros
      refine rg_neS ?_
      and_intros
      rw [decide_eq_true rfl]
      refine ⟨fun z => (by cases z), fun _ => ?_⟩
      and_intros
      exact ⟨_, _, _, _, _, _, _, _, _, _, _, _, _, _, rfl, _, p3.mono (by omega)⟩
    · obtain ⟨w2, w3, w4, w5, w6, w7, w8, w9, w10, w11, w12, w13, w14, w15, rfl, r, p⟩ := hI
      and_intros
      obtain ⟨t, a, rfl, _, _⟩ := p
      exact ⟨.bl true, [], fin_app (h := []) rfl, rfl⟩
  obtain ⟨d, h', e, rfl⟩ := key
  exact ⟨h', e⟩
end BR

open PySem PySem.W PyProof.Rows
set_option maxRecDepth 100000 in
set_option maxHeartbeats 0 in
theorem PySem.Challenge.cw_burnrank_k02_ties_reaches_shapes_holds : PySem.Challenge.rw_burnrank_k02_ties_reaches_shapes.Holds := by
  w_on; o_law; k_head; (case hw => w_witness2)
  k_fill
  refine BR.walk_end (l := PySem.Challenge.rw_burnrank_k02_ties_reaches_shapes) (k := 8) (x := "_law_script") rfl rfl (by decide) (fun w h Y => PySem.W.kIn_of Y) ?F
  case F =>
    intro w mg fa h KX G hmg
    refine' BR.all_law KX G hmg BR.law_ok ?ba0 ?bl0 ?bc0 ?bk0 ?ba1 ?bl1 ?bc1 ?bk1 ?ba2 ?bl2 ?bc2 ?bk2 ?ba3 ?bl3 ?bc3 ?bk3 ?ba4 ?bl4 ?bc4 ?bk4 ?ba5 ?bl5 ?bc5 ?bk5 ?ba6 ?bl6 ?bc6 ?bk6 ?ba7 ?bl7 ?bc7 ?bk7 ?ba8 ?bl8 ?bc8 ?bk8 ?ba9 ?bl9 ?bc9 ?bk9 ?ba10 ?bl10 ?bc10 ?bk10 ?ba11 ?bl11 ?bc11 ?bk11 ?ba12 ?bl12 ?bc12 ?bk12 ?ba13 ?bl13 ?bc13 ?bk13 ?ba14 ?bl14 ?bc14 ?bk14 ?ba15 ?bl15 ?bc15 ?bk15 ?ba16 ?bl16 ?bc16 ?bk16 ?ba17 ?bl17 ?bc17 ?bk17 ?ba18 ?bl18 ?bc18 ?bk18 ?ba19 ?bl19 ?bc19 ?bk19 ?ba20 ?bl20 ?bc20 ?bk20 ?bz0 ?bz1 ?bz2 ?bz3 ?bz4 ?bz5 ?bz6 ?bz7 ?bz8 ?bz9 ?bz10 ?bz11 ?bz12 ?bz13 ?bz14 ?bz15 ?bz16 ?bz17 ?bg0 ?bg1 ?bxaB ?bxa0 ?bxa4 ?bxq0 ?bxp0 ?bxs0 ?bxt0 ?bxg0 ?bxh0 ?bxd0 ?bxc0 ?bxm0 ?bxe0 ?bxkv0 ?bxq4 ?bxp4 ?bxs4 ?bxt4 ?bxg4 ?bxh4 ?bxd4 ?bxc4 ?bxm4 ?bxe4 ?bxkv4 ?bxnv ?bxzv ?bxcn ?bxct ?bxw0_0 ?bxw4_0 ?bxv0 ?bxw0_4 ?bxw4_4 ?bxv4
    (case ba0 => k_is)
    (case bl0 => k_is)
    (case bc0 => k_is)
    (case bk0 => k_is)
    (case ba1 => k_is)
    (case bl1 => k_is)
    (case bc1 => k_is)
    (case bk1 => k_is)
    (case ba2 => k_is)
    (case bl2 => k_is)
    (case bc2 => k_is)
    (case bk2 => k_is)
    (case ba3 => k_is)
    (case bl3 => k_is)
    (case bc3 => k_is)
    (case bk3 => k_is)
    (case ba4 => k_is)
    (case bl4 => k_is)
    (case bc4 => k_is)
    (case bk4 => k_is)
    (case ba5 => k_is)
    (case bl5 => k_is)
    (case bc5 => k_is)
    (case bk5 => k_is)
    (case ba6 => k_is)
    (case bl6 => k_is)
    (case bc6 => k_is)
    (case bk6 => k_is)
    (case ba7 => k_is)
    (case bl7 => k_is)
    (case bc7 => k_is)
    (case bk7 => k_is)
    (case ba8 => k_is)
    (case bl8 => k_is)
    (case bc8 => k_is)
    (case bk8 => k_is)
    (case ba9 => k_is)
    (case bl9 => k_is)
    (case bc9 => k_is)
    (case bk9 => k_is)
    (case ba10 => k_is)
    (case bl10 => k_is)
    (case bc10 => k_is)
    (case bk10 => k_is)
    (case ba11 => k_is)
    (case bl11 => k_is)
    (case bc11 => k_is)
    (case bk11 => k_is)
    (case ba12 => k_is)
    (case bl12 => k_is)
    (case bc12 => k_is)
    (case bk12 => k_is)
    (case ba13 => k_is)
    (case bl13 => k_is)
    (case bc13 => k_is)
    (case bk13 => k_is)
    (case ba14 => k_is)
    (case bl14 => k_is)
    (case bc14 => k_is)
    (case bk14 => k_is)
    (case ba15 => k_is)
    (case bl15 => k_is)
    (case bc15 => k_is)
    (case bk15 => k_is)
    (case ba16 => k_is)
    (case bl16 => k_is)
    (case bc16 => k_is)
    (case bk16 => k_is)
    (case ba17 => k_is)
    (case bl17 => k_is)
    (case bc17 => k_is)
    (case bk17 => k_is)
    (case ba18 => k_is)
    (case bl18 => k_is)
    (case bc18 => k_is)
    (case bk18 => k_is)
    (case ba19 => k_is)
    (case bl19 => k_is)
    (case bc19 => k_is)
    (case bk19 => k_is)
    (case ba20 => k_is)
    (case bl20 => k_is)
    (case bc20 => k_is)
    (case bk20 => k_is)
    (case bz0 => k_is)
    (case bz1 => k_is)
    (case bz2 => k_is)
    (case bz3 => k_is)
    (case bz4 => k_is)
    (case bz5 => k_is)
    (case bz6 => k_is)
    (case bz7 => k_is)
    (case bz8 => k_is)
    (case bz9 => k_is)
    (case bz10 => k_is)
    (case bz11 => k_is)
    (case bz12 => k_is)
    (case bz13 => k_is)
    (case bz14 => k_is)
    (case bz15 => k_is)
    (case bz16 => k_is)
    (case bz17 => k_is)
    (case bg0 => k_is)
    (case bg1 => k_is)
    (case bxaB => k_is)
    (case bxa0 => k_is)
    (case bxa4 => k_is)
    (case bxq0 => k_exc)
    (case bxp0 => k_is)
    (case bxs0 => k_is)
    (case bxt0 => k_is)
    (case bxg0 => k_is)
    (case bxh0 => k_is)
    (case bxd0 => k_is)
    (case bxc0 => k_is)
    (case bxm0 => k_is)
    (case bxe0 => kts_exm)
    (case bxkv0 => kit_is)
    (case bxq4 => k_exc)
    (case bxp4 => k_is)
    (case bxs4 => k_is)
    (case bxt4 => k_is)
    (case bxg4 => k_is)
    (case bxh4 => k_is)
    (case bxd4 => k_is)
    (case bxc4 => k_is)
    (case bxm4 => k_is)
    (case bxe4 => kts_exm)
    (case bxkv4 => kit_is)
    (case bxnv => kit_is)
    (case bxzv => k_is)
    (case bxcn => k_is)
    (case bxct => k_is)
    (case bxw0_0 => kit_is)
    (case bxw4_0 => kit_is)
    (case bxv0 => kit_is)
    (case bxw0_4 => kit_is)
    (case bxw4_4 => kit_is)
    (case bxv4 => kit_is)
