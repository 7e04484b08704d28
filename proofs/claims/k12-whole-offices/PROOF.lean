import PyProof.Rows.All
import HandS.ReplaceLit
import HandS.ReplaceList
import HandS.ForMost
import HandS.ForExc
import KE.KeyNested
import HandS.TupAny
import HandS.IsInst
import HandS.Conv
import HandS.Set
import HandS.SetTxt0
import HandS.Strs
import KE.GoesEnum
import KE.GoesMore
import HandS.Zip
import HandS.NoneIn
import KE.KDictPairs
import HandS.HotCalls
import HandS.ExcIs
import HandS.SetFor
import KE.KDictDisplayH
import PyProof.Rows.TupTab
import HandS.Style
import KE.KDictWalk
import KE.DataMinMax
import HandS.Replace
import HandS.WideBits
import KE.KEqDict
import HandS.DictEq
import HandS.Codes
import HandS.TupMul
import HandS.TupSets
import KE.SortData
import KE.KRevSl
import KE.KDictZip
import PySem.Challenge.RW_letterwheels_k12_whole_offices
set_option Elab.async false
set_option linter.all false
set_option maxRecDepth 100000
set_option maxHeartbeats 4000000
set_option autoImplicit false
/-! LwD: plain data, a memory of things that change, a monad with refusals; the readings of Python's constructs over them. Core Lean alone. -/
namespace LW

/-- a value as plain data: tuples, lists and dicts that nobody changes stand by their contents, things that change by their number -/
inductive D where
  | non | bl (b : Bool) | int (i : Int) | str (s : List Nat) | tup (ds : List D) | lst (ds : List D) | dct (ks vs : List D)
  | gdz (ks vs : List D) | tpx (ds : List D) | scr (ns : List Int) | ref (n : Nat) | ty (n : String) | fn (x : String) | exc (c : String)
deriving Inhabited

/-- a thing that changes -/
inductive MO where
  | lst (ds : List D) | dct (ks vs : List D) | ins (c : String) (fs : List (String × D)) | gd (ks vs : List D) | gone
deriving Inhabited

abbrev Mem := List MO
abbrev Env := List (Option D)

inductive R (α : Type) where
  | ok (a : α) (m : Mem) | exc (c : String) (m : Mem) | bad

def R.bind {α β : Type} (r : R α) (f : α → Mem → R β) : R β :=
  match r with
  | .ok a m => f a m
  | .exc c m => .exc c m
  | .bad => .bad

@[simp] theorem R.bind_ok {α β : Type} (a : α) (m : Mem) (f : α → Mem → R β) : (R.ok a m).bind f = f a m := rfl
@[simp] theorem R.bind_exc {α β : Type} (c : String) (m : Mem) (f : α → Mem → R β) : (R.exc c m : R α).bind f = .exc c m := rfl
@[simp] theorem R.bind_bad {α β : Type} (f : α → Mem → R β) : (R.bad : R α).bind f = .bad := rfl

/-- what came of a statement -/
inductive Out where
  | nx (e : Env) | rt (d : D) | bk (e : Env) | ct (e : Env)

abbrev Ex := Env → Mem → R D
abbrev Ts := Env → Mem → R Bool
abbrev Ar := Env → Mem → R (List D)
abbrev Sm := Env → Mem → R Out
abbrev Tg := D → Env → Mem → R Env
/-- a def: its arguments, the memory -/
abbrev Fn := List D → Mem → R D

def lim : Nat := 16777216

/-- from an option -/
def opt {α : Type} (o : Option α) (m : Mem) : R α := match o with | some a => .ok a m | none => .bad
@[simp] theorem opt_some {α : Type} (a : α) (m : Mem) : opt (some a) m = .ok a m := rfl
@[simp] theorem opt_none {α : Type} (m : Mem) : opt (none : Option α) m = .bad := rfl

/-! ### expressions -/
@[simp] def cE (d : D) : Ex := fun _ m => .ok d m
@[simp] def vE (i : Nat) : Ex := fun g m => match g[i]? with | some (some d) => .ok d m | _ => .bad
/-- a two-place operation on data -/
abbrev Op := Mem → D → D → Option D
@[simp] def opE (f : Op) (a b : Ex) : Ex := fun g m => (a g m).bind fun x m1 => (b g m1).bind fun y m2 => opt (f m2 x y) m2
abbrev Un := Mem → D → Option D
@[simp] def unE (f : Un) (a : Ex) : Ex := fun g m => (a g m).bind fun x m1 => opt (f m1 x) m1
/-- a two-place operation, then a third value: a op b op' c -/
@[simp] def chE (f f' : Op) (a b c : Ex) : Ex := fun g m => (a g m).bind fun x m1 => (b g m1).bind fun y m2 => match f m2 x y with
  | some (.bl true) => (c g m2).bind fun z m3 => opt (f' m3 y z) m3
  | some (.bl false) => .ok (.bl false) m2
  | _ => .bad
/-- a value that is True or False -/
@[simp] def asB (d : D) (m : Mem) : R Bool := match d with | .bl b => .ok b m | _ => .bad
@[simp] def tE (a : Ex) : Ts := fun g m => (a g m).bind asB
@[simp] def eT (t : Ts) : Ex := fun g m => (t g m).bind fun b m1 => .ok (.bl b) m1
@[simp] def andE (a b : Ex) : Ex := fun g m => (a g m).bind fun x m1 => match x with
  | .bl true => b g m1 | .bl false => .ok (.bl false) m1 | _ => .bad
@[simp] def orE (a b : Ex) : Ex := fun g m => (a g m).bind fun x m1 => match x with
  | .bl false => b g m1 | .bl true => .ok (.bl true) m1 | _ => .bad
@[simp] def notE (a : Ex) : Ex := fun g m => (a g m).bind fun x m1 => match x with
  | .bl b => .ok (.bl (!b)) m1 | _ => .bad
@[simp] def andT (a b : Ts) : Ts := fun g m => (a g m).bind fun x m1 => if x then b g m1 else .ok false m1
@[simp] def orT (a b : Ts) : Ts := fun g m => (a g m).bind fun x m1 => if x then .ok true m1 else b g m1
@[simp] def notT (a : Ts) : Ts := fun g m => (a g m).bind fun x m1 => .ok (!x) m1
@[simp] def ifE (t : Ts) (a b : Ex) : Ex := fun g m => (t g m).bind fun x m1 => if x then a g m1 else b g m1
/-- argument lists -/
@[simp] def nilA : Ar := fun _ m => .ok [] m
@[simp] def consA (a : Ex) (r : Ar) : Ar := fun g m => (a g m).bind fun x m1 => (r g m1).bind fun xs m2 => .ok (x :: xs) m2
@[simp] def tupE (a : Ar) : Ex := fun g m => (a g m).bind fun xs m1 => if xs.length ≤ lim then .ok (.tup xs) m1 else .bad
@[simp] def lstE (a : Ar) : Ex := fun g m => (a g m).bind fun xs m1 => if xs.length ≤ lim then .ok (.lst xs) m1 else .bad
/-- a call of a function on data that changes nothing -/
abbrev Bf := Mem → List D → Option D
@[simp] def bE (f : Bf) (a : Ar) : Ex := fun g m => (a g m).bind fun xs m1 => opt (f m1 xs) m1
/-- a call of a def -/
@[simp] def callE (f : Fn) (a : Ar) : Ex := fun g m => (a g m).bind fun xs m1 => f xs m1

/-! ### statements -/
@[simp] def nxS : Sm := fun g m => .ok (.nx g) m
@[simp] def badS : Sm := fun _ _ => .bad
def seqS (a b : Sm) : Sm := fun g m => (a g m).bind fun o m1 => match o with | .nx g1 => b g1 m1 | o => .ok o m1
@[simp] def retS (a : Ex) : Sm := fun g m => (a g m).bind fun x m1 => .ok (.rt x) m1
@[simp] def retN : Sm := fun _ m => .ok (.rt .non) m
@[simp] def bkS : Sm := fun g m => .ok (.bk g) m
@[simp] def ctS : Sm := fun g m => .ok (.ct g) m
@[simp] def ifS (t : Ts) (a b : Sm) : Sm := fun g m => (t g m).bind fun x m1 => if x then a g m1 else b g m1
@[simp] def exS (a : Ex) : Sm := fun g m => (a g m).bind fun _ m1 => .ok (.nx g) m1
@[simp] def raiseS (c : String) : Sm := fun _ m => .exc c m
@[simp] def nmG (i : Nat) : Tg := fun d g m => .ok (g.set i (some d)) m
/-- several targets in a row -/
abbrev Gs := List D → Env → Mem → R Env
@[simp] def nilG : Gs := fun ds g m => match ds with | [] => .ok g m | _ => .bad
@[simp] def consG (t : Tg) (r : Gs) : Gs := fun ds g m => match ds with | d :: ds => (t d g m).bind fun g1 m1 => r ds g1 m1 | [] => .bad
@[simp] def tupG (t : Gs) : Tg := fun d g m => match d with | .tup ds => t ds g m | _ => .bad
@[simp] def asgS (t : Tg) (a : Ex) : Sm := fun g m => (a g m).bind fun x m1 => (t x g m1).bind fun g1 m2 => .ok (.nx g1) m2
/-- a, b = x, y: no tuple is looked at -/
@[simp] def parS (i j : Nat) (a b : Ex) : Sm := fun g m => (a g m).bind fun x m1 => (b g m1).bind fun y m2 => .ok (.nx ((g.set i (some x)).set j (some y))) m2

@[simp] theorem seqS_eq (a b : Sm) (g : Env) (m : Mem) : seqS a b g m = (a g m).bind fun o m1 => match o with | .nx g1 => b g1 m1 | o => .ok o m1 := rfl

def forL (t : Tg) (b : Sm) : List D → Env → Mem → R Out
  | [], g, m => .ok (.nx g) m
  | d :: ds, g, m => (t d g m).bind fun g1 m1 => (b g1 m1).bind fun o m2 => match o with
    | .nx g2 => forL t b ds g2 m2
    | .ct g2 => forL t b ds g2 m2
    | .bk g2 => .ok (.nx g2) m2
    | .rt d => .ok (.rt d) m2
@[simp] def forS (it : Ar) (t : Tg) (b : Sm) : Sm := fun g m => (it g m).bind fun ds m1 => forL t b ds g m1
def whileL (c : Ts) (b : Sm) : Nat → Env → Mem → R Out
  | 0, _, _ => .bad
  | n + 1, g, m => (c g m).bind fun x m1 => if x then (b g m1).bind fun o m2 => match o with
      | .nx g2 => whileL c b n g2 m2
      | .ct g2 => whileL c b n g2 m2
      | .bk g2 => .ok (.nx g2) m2
      | .rt d => .ok (.rt d) m2
    else .ok (.nx g) m1
@[simp] def whileS (n : Nat) (c : Ts) (b : Sm) : Sm := fun g m => whileL c b n g m

/-- the slots of a comprehension's own names forgotten -/
def wipeD (g : Env) : List Nat → Env
  | [] => g
  | v :: vs => (wipeD g vs).set v none
@[simp] theorem wipeD_nil (g : Env) : wipeD g [] = g := rfl
@[simp] theorem wipeD_cons (g : Env) (v : Nat) (vs : List Nat) : wipeD g (v :: vs) = (wipeD g vs).set v none := rfl
/-- the turns of a comprehension -/
def lcL (t : Tg) (c : Ts) (e : Ex) (g : Env) : List D → Mem → R (List D)
  | [], m => .ok [] m
  | d :: ds, m => (t d g m).bind fun g1 m1 => (c g1 m1).bind fun x m2 => if x then (e g1 m2).bind fun y m3 => (lcL t c e g ds m3).bind fun ys m4 => .ok (y :: ys) m4 else lcL t c e g ds m2
@[simp] def yesT : Ts := fun _ m => .ok true m
@[simp] def lcE (it : Ar) (own : List Nat) (t : Tg) (c : Ts) (e : Ex) : Ex := fun g m => (it g m).bind fun ds m1 => if ds.length ≤ lim then (lcL t c e (wipeD g own) ds m1).bind fun ys m2 => .ok (.lst ys) m2 else .bad

/-- within a comprehension nothing may be raised -/
@[simp] def noX (e : Ex) : Ex := fun g m => match e g m with | .exc _ _ => .bad | r => r
@[simp] def noXT (e : Ts) : Ts := fun g m => match e g m with | .exc _ _ => .bad | r => r

/-! ### defs -/
mutual
/-- no number from n on is named in it -/
def D.cl (n : Nat) : D → Bool
  | .tup ds => D.clL n ds
  | .tpx ds => D.clL n ds
  | .lst ds => D.clL n ds
  | .dct ks vs => D.clL n ks && D.clL n vs
  | .gdz ks vs => D.clL n ks && D.clL n vs
  | .ref k => decide (k < n)
  | _ => true
def D.clL (n : Nat) : List D → Bool
  | [] => true
  | d :: ds => D.cl n d && D.clL n ds
end
def MO.cl (n : Nat) : MO → Bool
  | .lst ds => D.clL n ds
  | .dct ks vs => D.clL n ks && D.clL n vs
  | .ins _ fs => D.clL n (fs.map (·.2))
  | .gd ks vs => D.clL n ks && D.clL n vs
  | .gone => true
/-- what a def made and nobody else names goes -/
def gcR (n : Nat) (d : D) (m : Mem) : R D :=
  if m.length ≤ n then .ok d m else if d.cl n && (m.take n).all (MO.cl n) then .ok d (m.take n) else .ok d m
def gcX (n : Nat) (c : String) (m : Mem) : R D :=
  if m.length ≤ n then .exc c m else if (m.take n).all (MO.cl n) then .exc c (m.take n) else .exc c m
/-- a def by its body: k names, the parameters first -/
def fnS (k : Nat) (b : Sm) : Fn := fun xs m => match b (xs.map some ++ List.replicate (k - xs.length) none) m with
  | .ok (.nx _) m1 => gcR m.length .non m1
  | .ok (.rt d) m1 => gcR m.length d m1
  | .ok _ _ => .bad
  | .exc c m1 => gcX m.length c m1
  | .bad => .bad
end LW
/-! LwR: plain data over the layer HandS: how data lie in the heap, the judgements over data. -/
namespace LW
open PySem PySem.Spec PyProof.Rows L2
abbrev St := L2.St

/-- what stands fixed through a def: the written part, where defs stand, classes' values, the caught exception -/
structure Cn where
  K : PySem.W.Frag
  fns : String → Option Addr
  cls : String → Value
  exa : Option (Addr × String)
  w : World

/-- where the things that change lie, and whether they live -/
structure Rho where
  l : List (Addr × Bool)
  /-- lists that a comprehension is making -/
  z : List Addr
def adr (ρ : Rho) (n : Nat) (a : Addr) : Prop := ∃ b, ρ.l[n]? = some (a, b)
def lives (ρ : Rho) (a : Addr) : Prop := (a, true) ∈ ρ.l ∨ a ∈ ρ.z

/-- kinds of things that stand by their contents -/
def Plain : HO → Prop
  | .lst _ => True | .tup _ => True | .ext _ => True | .own _ => True | .frz _ (.lst _) => True | .frz _ (.tup _) => True
  | _ => False
def PlainD : HO → Prop
  | .dK _ => True | .dT _ => True
  | _ => False

structure Ext (ρ : Rho) (H : Hp) (ρ' : Rho) (H' : Hp) : Prop where
  pre : ∀ n a, adr ρ n a → adr ρ' n a
  keep : ∀ a u, Plain u → ¬ lives ρ a → H a = some u → ¬ lives ρ' a ∧ H' a = some u
  keepD : ∀ a u, PlainD u → ¬ lives ρ a → Rd H a u → ¬ lives ρ' a ∧ Rd H' a u
  lx : ∀ a o, a ∈ ρ.z → H a = some o → a ∈ ρ'.z ∧ H' a = some o
  there : ∀ a, H a ≠ none → H' a ≠ none

theorem Ext.refl (ρ : Rho) (H : Hp) : Ext ρ H ρ H := ⟨fun _ _ h => h, fun _ _ _ n h => ⟨n, h⟩, fun _ _ _ n h => ⟨n, h⟩, fun _ _ z h => ⟨z, h⟩, fun _ h => h⟩
theorem Ext.trans {ρ ρ1 ρ2 : Rho} {H H1 H2 : Hp} (a : Ext ρ H ρ1 H1) (b : Ext ρ1 H1 ρ2 H2) : Ext ρ H ρ2 H2 :=
  ⟨fun n x h => b.pre n x (a.pre n x h), fun x u p n h => let ⟨n1, h1⟩ := a.keep x u p n h; b.keep x u p n1 h1, fun x u p n h => let ⟨n1, h1⟩ := a.keepD x u p n h; b.keepD x u p n1 h1, fun x o z h => let ⟨z1, h1⟩ := a.lx x o z h; b.lx x o z1 h1, fun x h => b.there x (a.there x h)⟩
theorem Rd.same {H H' : Hp} (s : Same H H') {a : Addr} {u : HO} (h : Rd H a u) : Rd H' a u := by
  rcases h with h | ⟨o, h⟩
  · exact .inl (s _ _ h)
  · exact .inr ⟨o, s _ _ h⟩
theorem Ext.of_same {ρ : Rho} {H H' : Hp} (s : Same H H') : Ext ρ H ρ H' :=
  ⟨fun _ _ h => h, fun _ _ _ n h => ⟨n, s _ _ h⟩, fun _ _ _ n h => ⟨n, Rd.same s h⟩, fun _ _ z h => ⟨z, s _ _ h⟩, fun a h => by
    cases q : H a with
    | none => exact absurd q h
    | some o => rw [s a o q]; exact fun z => nomatch z⟩
theorem same_upd {H : Hp} {p : Addr} {o : HO} (h : H p = none) : Same H (upd H p o) := fun b x e => by
  rw [upd_ne (ne_of_none e h)]
  exact e

def keyD : Key → D
  | .inl i => .int i
  | .inr x => .str x.cps.toList
def tkeyD (k : List Key) : D := .tup (k.map keyD)

mutual
/-- data as a key -/
def nkOf : D → Option NestedKey
  | .int i => some (.num i)
  | .str s => some (.text ⟨s.toArray⟩)
  | .tup ds => (nkOfL ds).map NestedKey.tup
  | _ => none
def nkOfL : List D → Option (List NestedKey)
  | [] => some []
  | d :: ds => (nkOf d).bind fun k => (nkOfL ds).map fun ks => k :: ks
end
/-- a dict whose keys are tuples, at a -/
def GDo (w : World) (a : Addr) (xs : List (NestedKey × Addr × Value)) : HO := .ext fun h => ∃ o es ep, h.get? a = some o ∧ o.ExactDict ∧ o.data = .dict es ep ∧ es.toList = xs.map (fun x => (⟨x.1.hash w, .ref x.2.1, x.2.2⟩ : DictEntry)) ∧ (xs.map (·.1)).Nodup ∧ xs.length ≤ sizeLine ∧ (a == sysModules) = false
def KeysAt (ks : List D) (xs : List (NestedKey × Addr × Value)) : Prop := ks.map nkOf = xs.map (fun x => some x.1) ∧ ∀ x ∈ xs, x.1.depth ≤ 8
/-- .. that nobody changes any more: the very object -/
def GDz (w : World) (a : Addr) (o : Obj) (xs : List (NestedKey × Addr × Value)) : HO := .ext fun h => h.get? a = some o ∧ o.ExactDict ∧ (∃ es ep, o.data = .dict es ep ∧ es.toList = xs.map (fun x => (⟨x.1.hash w, .ref x.2.1, x.2.2⟩ : DictEntry))) ∧ (xs.map (·.1)).Nodup ∧ xs.length ≤ sizeLine ∧ (a == sysModules) = false

mutual
def RepV (C : Cn) (ρ : Rho) (H : Hp) : D → V → Prop
  | .non, v => v = .non
  | .bl b, v => v = .bl b
  | .int i, v => v = .int i
  | .str s, v => v = .str ⟨s.toArray⟩ ∧ s.length ≤ lim ∧ ∀ c ∈ s, c < 1114112
  | .tup ds, v => ∃ a xs, v = .ref a ∧ ((¬ lives ρ a ∧ Rd H a (.tup xs)) ∨ SqT C.K (fun _ => none) a xs) ∧ RepL C ρ H ds xs
  | .tpx ds, v => ∃ a xs o, v = .ref a ∧ ¬ lives ρ a ∧ H a = some (.frz o (.tup xs)) ∧ o.dict = none ∧ RepL C ρ H ds xs
  | .lst ds, v => ∃ a xs, v = .ref a ∧ ¬ lives ρ a ∧ H a = some (.lst xs) ∧ RepL C ρ H ds xs
  | .scr ns, v => ∃ a, v = .ref a ∧ ((¬ lives ρ a ∧ ∃ o, H a = some (.frz o (.lst (ns.map V.int)))) ∨ SqL C.K (fun _ => none) a (ns.map V.int))
  | .dct ks vs, v => ∃ a xs, v = .ref a ∧ ¬ lives ρ a ∧ RepL C ρ H vs xs ∧
      ∃ kk : List Key, kk.length = xs.length ∧ ks = kk.map keyD ∧ Rd H a (.dK (kk.zip xs))
  | .gdz ks vs, v => ∃ a o zs vv, v = .ref a ∧ ¬ lives ρ a ∧ H a = some (GDz C.w a o zs) ∧ KeysAt ks zs ∧ Vals vv (zs.map (·.2.2)) ∧ RepL C ρ H ks (zs.map fun x => V.ref x.2.1) ∧ RepL C ρ H vs vv
  | .ref n, v => ∃ a, v = .ref a ∧ adr ρ n a
  | .ty n, v => v = .ty n
  | .fn x, v => ∃ f, v = .ref f ∧ C.fns x = some f
  | .exc c, v => ∃ a, v = .ref a ∧ C.exa = some (a, c)
def RepL (C : Cn) (ρ : Rho) (H : Hp) : List D → List V → Prop
  | [], vs => vs = []
  | d :: ds, vs => ∃ v r, vs = v :: r ∧ RepV C ρ H d v ∧ RepL C ρ H ds r
end

mutual
theorem RepV.ext {C : Cn} {ρ ρ' : Rho} {H H' : Hp} (x : Ext ρ H ρ' H') : ∀ {d : D} {v : V}, RepV C ρ H d v → RepV C ρ' H' d v
  | .non, _, h => h
  | .bl _, _, h => h
  | .int _, _, h => h
  | .str _, _, h => h
  | .tup ds, v, h => by
    simp only [RepV] at h ⊢
    obtain ⟨a, xs, e, h1, h2⟩ := h
    refine ⟨a, xs, e, ?_, RepL.ext x h2⟩
    rcases h1 with ⟨n, r⟩ | k
    · rcases r with r | ⟨o, r⟩
      · exact .inl ⟨(x.keep a (.tup xs) trivial n r).1, .inl (x.keep a (.tup xs) trivial n r).2⟩
      · exact .inl ⟨(x.keep a (.frz o (.tup xs)) trivial n r).1, .inr ⟨o, (x.keep a (.frz o (.tup xs)) trivial n r).2⟩⟩
    · exact .inr k
  | .tpx ds, v, h => by
    simp only [RepV] at h ⊢
    obtain ⟨a, xs, o, e, n, q, hd, h2⟩ := h
    obtain ⟨n', q'⟩ := x.keep a (.frz o (.tup xs)) trivial n q
    exact ⟨a, xs, o, e, n', q', hd, RepL.ext x h2⟩
  | .lst ds, v, h => by
    simp only [RepV] at h ⊢
    obtain ⟨a, xs, e, n, q, h2⟩ := h
    obtain ⟨n', q'⟩ := x.keep a (.lst xs) trivial n q
    exact ⟨a, xs, e, n', q', RepL.ext x h2⟩
  | .scr ns, v, h => by
    simp only [RepV] at h ⊢
    obtain ⟨a, e, h1⟩ := h
    refine ⟨a, e, ?_⟩
    rcases h1 with ⟨n, o, q⟩ | k
    · obtain ⟨n', q'⟩ := x.keep a (.frz o (.lst _)) trivial n q
      exact .inl ⟨n', o, q'⟩
    · exact .inr k
  | .dct ks vs, v, h => by
    simp only [RepV] at h ⊢
    obtain ⟨a, xs, e, n, h2, h3⟩ := h
    obtain ⟨kk, l, ek, r⟩ := h3
    obtain ⟨n', r'⟩ := x.keepD a (.dK _) trivial n r
    exact ⟨a, xs, e, n', RepL.ext x h2, kk, l, ek, r'⟩
  | .gdz ks vs, v, h => by
    simp only [RepV] at h ⊢
    obtain ⟨a, o, zs, vv, e, n, q, h1, h2, h3, h4⟩ := h
    obtain ⟨n', q'⟩ := x.keep a (GDz C.w a o zs) trivial n q
    exact ⟨a, o, zs, vv, e, n', q', h1, h2, RepL.ext x h3, RepL.ext x h4⟩
  | .ref n, v, h => by
    simp only [RepV] at h ⊢
    obtain ⟨a, e, q⟩ := h
    exact ⟨a, e, x.pre n a q⟩
  | .ty _, _, h => h
  | .fn _, _, h => h
  | .exc _, _, h => h
theorem RepL.ext {C : Cn} {ρ ρ' : Rho} {H H' : Hp} (x : Ext ρ H ρ' H') : ∀ {ds : List D} {vs : List V}, RepL C ρ H ds vs → RepL C ρ' H' ds vs
  | [], _, h => h
  | d :: ds, vs, h => by
    simp only [RepL] at h ⊢
    obtain ⟨v, r, e, h1, h2⟩ := h
    exact ⟨v, r, e, RepV.ext x h1, RepL.ext x h2⟩
end

/-- the memory lies so -/
def RepO (C : Cn) (ρ : Rho) (H : Hp) (a : Addr) (l : Bool) : MO → Prop
  | .lst ds => l = true ∧ ∃ xs, H a = some (.lst xs) ∧ RepL C ρ H ds xs
  | .dct ks vs => l = true ∧ ∃ xs, RepL C ρ H vs xs ∧ ((∃ kk : List Key, kk.length = xs.length ∧ ks = kk.map keyD ∧ H a = some (.dK (kk.zip xs))) ∨ (∃ kk : List (List Key), kk.length = xs.length ∧ ks = kk.map tkeyD ∧ H a = some (.dT (kk.zip xs))))
  | .ins c fs => l = true ∧ ∃ Cc dx vs, C.cls c = .ref Cc ∧ vs.length = fs.length ∧ H a = some (.ins Cc dx ((fs.map (fun p => (p.1 : Str))).zip vs)) ∧ RepL C ρ H (fs.map (·.2)) vs
  | .gd ks vs => l = true ∧ ∃ xs vv, H a = some (GDo C.w a xs) ∧ KeysAt ks xs ∧ Vals vv (xs.map (·.2.2)) ∧ RepL C ρ H ks (xs.map fun x => V.ref x.2.1) ∧ RepL C ρ H vs vv
  | .gone => l = false
structure RepM (C : Cn) (ρ : Rho) (H : Hp) (m : Mem) : Prop where
  len : ρ.l.length = m.length
  obj : ∀ (n : Nat) a l o, ρ.l[n]? = some (a, l) → m[n]? = some o → RepO C ρ H a l o
  dis : ∀ (n k : Nat) a, ρ.l[n]? = some (a, true) → ρ.l[k]? = some (a, true) → n = k
  hid : ∀ a, a ∈ ρ.z → H a ≠ none ∧ (a, true) ∉ ρ.l

theorem RepO.same {C : Cn} {ρ : Rho} {H H' : Hp} (s : Same H H') {a : Addr} {l : Bool} : ∀ {o : MO}, RepO C ρ H a l o → RepO C ρ H' a l o
  | .lst ds, h => by
    obtain ⟨e, xs, q, r⟩ := h
    exact ⟨e, xs, s _ _ q, r.ext (.of_same s)⟩
  | .dct ks vs, h => by
    obtain ⟨e, xs, r, h⟩ := h
    refine ⟨e, xs, r.ext (.of_same s), ?_⟩
    rcases h with ⟨kk, l, ek, q⟩ | ⟨kk, l, ek, q⟩
    · exact .inl ⟨kk, l, ek, s _ _ q⟩
    · exact .inr ⟨kk, l, ek, s _ _ q⟩
  | .ins c fs, h => by
    obtain ⟨e, Cc, dx, vs, h1, h2, h3, h4⟩ := h
    exact ⟨e, Cc, dx, vs, h1, h2, s _ _ h3, h4.ext (.of_same s)⟩
  | .gd ks vs, h => by
    obtain ⟨e, xs, vv, h1, h2, h3, h4, h5⟩ := h
    exact ⟨e, xs, vv, s _ _ h1, h2, h3, h4.ext (.of_same s), h5.ext (.of_same s)⟩
  | .gone, h => h
theorem RepM.same {C : Cn} {ρ : Rho} {H H' : Hp} {m : Mem} (s : Same H H') (h : RepM C ρ H m) : RepM C ρ H' m :=
  ⟨h.len, fun n a l o h1 h2 => (h.obj n a l o h1 h2).same s, h.dis, fun a z => ⟨(Ext.of_same (ρ := ρ) s).there a (h.hid a z).1, (h.hid a z).2⟩⟩

theorem RepL.length {C : Cn} {ρ : Rho} {H : Hp} : ∀ {ds : List D} {vs : List V}, RepL C ρ H ds vs → ds.length = vs.length
  | [], _, h => by simp only [RepL] at h; rw [h]; rfl
  | d :: ds, vs, h => by
    simp only [RepL] at h
    obtain ⟨v, r, rfl, _, h⟩ := h
    simp [RepL.length h]
theorem RepL.get {C : Cn} {ρ : Rho} {H : Hp} : ∀ {ds : List D} {vs : List V} {i : Nat} {d : D}, RepL C ρ H ds vs → ds[i]? = some d → ∃ v, vs[i]? = some v ∧ RepV C ρ H d v
  | [], _, _, _, _, e => by simp at e
  | d :: ds, vs, 0, d', h, e => by
    simp only [RepL] at h
    obtain ⟨v, r, rfl, h1, _⟩ := h
    simp only [List.getElem?_cons_zero, Option.some.injEq] at e
    subst e
    exact ⟨v, rfl, h1⟩
  | d :: ds, vs, i + 1, d', h, e => by
    simp only [RepL] at h
    obtain ⟨v, r, rfl, _, h2⟩ := h
    simp only [List.getElem?_cons_succ] at e ⊢
    exact RepL.get h2 e
theorem RepL.append {C : Cn} {ρ : Rho} {H : Hp} : ∀ {ds es : List D} {vs ws : List V}, RepL C ρ H ds vs → RepL C ρ H es ws → RepL C ρ H (ds ++ es) (vs ++ ws)
  | [], es, vs, ws, h, h' => by simp only [RepL] at h; subst h; exact h'
  | d :: ds, es, vs, ws, h, h' => by
    simp only [RepL] at h
    obtain ⟨v, r, rfl, h1, h2⟩ := h
    show RepL C ρ H (d :: (ds ++ es)) (v :: (r ++ ws))
    simp only [RepL]
    exact ⟨v, _, rfl, h1, RepL.append h2 h'⟩
theorem RepL.of_all {C : Cn} {ρ : Rho} {H : Hp} : ∀ {ds : List D} {vs : List V}, ds.length = vs.length → (∀ (i : Nat) d v, ds[i]? = some d → vs[i]? = some v → RepV C ρ H d v) → RepL C ρ H ds vs
  | [], [], _, _ => by simp only [RepL]
  | [], _ :: _, e, _ => by simp at e
  | _ :: _, [], e, _ => by simp at e
  | d :: ds, v :: vs, e, h => by
    simp only [RepL]
    refine ⟨v, vs, rfl, h 0 d v rfl rfl, RepL.of_all (by simpa using e) fun i d' v' h1 h2 => h (i + 1) d' v' (by simpa using h1) (by simpa using h2)⟩
theorem RepL.take {C : Cn} {ρ : Rho} {H : Hp} {ds : List D} {vs : List V} (h : RepL C ρ H ds vs) (n : Nat) : RepL C ρ H (ds.take n) (vs.take n) := by
  refine RepL.of_all (by simp [h.length]) fun i d v h1 h2 => ?_
  by_cases hi : i < n
  · rw [List.getElem?_take_of_lt hi] at h1 h2
    obtain ⟨v', e, r⟩ := h.get h1
    rw [h2] at e; cases e; exact r
  · rw [List.getElem?_take_eq_none (by omega)] at h1; cases h1
theorem RepL.drop {C : Cn} {ρ : Rho} {H : Hp} {ds : List D} {vs : List V} (h : RepL C ρ H ds vs) (n : Nat) : RepL C ρ H (ds.drop n) (vs.drop n) := by
  refine RepL.of_all (by simp [h.length]) fun i d v h1 h2 => ?_
  rw [List.getElem?_drop] at h1 h2
  obtain ⟨v', e, r⟩ := h.get h1
  rw [h2] at e; cases e; exact r
/-- what is not tracked is nobody's -/
theorem RepM.free_of {C : Cn} {ρ : Rho} {H : Hp} {m : Mem} {p : Addr} (rm : RepM C ρ H m) (hp : H p = none) : ¬ lives ρ p := by
  intro hl
  rcases hl with hl | hl
  case inr => exact (rm.hid p hl).1 hp
  obtain ⟨n, hn⟩ := List.mem_iff_getElem?.mp hl
  have hlt : n < m.length := by rw [← rm.len]; exact (List.getElem?_eq_some_iff.mp hn).1
  have ho := rm.obj n p true m[n] hn (List.getElem?_eq_getElem hlt)
  cases q : m[n] with
  | lst ds => rw [q] at ho; obtain ⟨_, xs, e, _⟩ := ho; rw [hp] at e; cases e
  | dct ks vs =>
    rw [q] at ho
    obtain ⟨_, xs, _, h⟩ := ho
    rcases h with ⟨_, _, _, e⟩ | ⟨_, _, _, e⟩ <;> (rw [hp] at e; cases e)
  | ins c fs => rw [q] at ho; obtain ⟨_, _, _, _, _, _, e, _⟩ := ho; rw [hp] at e; cases e
  | gd ks vs => rw [q] at ho; obtain ⟨_, _, _, e, _⟩ := ho; rw [hp] at e; cases e
  | gone => rw [q] at ho; exact absurd (show true = false from ho) (by decide)

/-- the slots -/
structure RepE (C : Cn) (ρ : Rho) (H : Hp) (g : Env) (σ : St) : Prop where
  len : g.length = σ.length
  at_ : ∀ (i : Nat) d, g[i]? = some (some d) → ∃ v, σ[i]? = some (some v) ∧ RepV C ρ H d v
theorem RepE.ext {C : Cn} {ρ ρ' : Rho} {H H' : Hp} {g : Env} {σ : St} (x : Ext ρ H ρ' H') (h : RepE C ρ H g σ) : RepE C ρ' H' g σ :=
  ⟨h.len, fun i d e => let ⟨v, q, r⟩ := h.at_ i d e; ⟨v, q, r.ext x⟩⟩
theorem RepE.set {C : Cn} {ρ : Rho} {H : Hp} {g : Env} {σ : St} {d : D} {v : V} (h : RepE C ρ H g σ) (r : RepV C ρ H d v) (i : Nat) : RepE C ρ H (g.set i (some d)) (σ.set i (some v)) := by
  refine ⟨by simp [h.len], fun j e q => ?_⟩
  by_cases hj : i = j
  · subst hj
    by_cases hi : i < g.length
    · rw [List.getElem?_set_self hi] at q
      cases q
      exact ⟨v, List.getElem?_set_self (by rw [← h.len]; exact hi), r⟩
    · rw [List.getElem?_eq_none (by simpa using hi)] at q; cases q
  · rw [List.getElem?_set_ne hj] at q ⊢
    exact h.at_ j e q
theorem RepE.unset {C : Cn} {ρ : Rho} {H : Hp} {g : Env} {σ : St} (h : RepE C ρ H g σ) (i : Nat) (x : Option V) : RepE C ρ H (g.set i none) (σ.set i x) := by
  refine ⟨by simp [h.len], fun j e q => ?_⟩
  by_cases hj : i = j
  · subst hj
    by_cases hi : i < g.length
    · rw [List.getElem?_set_self hi] at q; cases q
    · rw [List.getElem?_eq_none (by simpa using hi)] at q; cases q
  · rw [List.getElem?_set_ne hj] at q ⊢
    exact h.at_ j e q
theorem RepE.wipe {C : Cn} {ρ : Rho} {H : Hp} {g : Env} {σ : St} (h : RepE C ρ H g σ) : ∀ vs : List Nat, RepE C ρ H (wipeD g vs) (wipe σ vs)
  | [] => h
  | v :: vs => by
    rw [wipeD_cons]
    exact (RepE.wipe h vs).unset v none

/-- what is wanted behind a reading -/
def fin {α : Type} (C : Cn) (ρ : Rho) (H : Hp) (W : XK) (r : R α) (k : α → Mem → Rho → Hp → Prop) : Prop :=
  match r with
  | .ok a m => ∀ ρ' H', Ext ρ H ρ' H' → RepM C ρ' H' m → k a m ρ' H'
  | .exc c m => ∀ ρ' H', Ext ρ H ρ' H' → RepM C ρ' H' m → W (C.cls c) none H'
  | .bad => False
section
variable {α β : Type} {C : Cn} {ρ ρ' : Rho} {H H' : Hp} {W : XK} {r : R α} {k k' : α → Mem → Rho → Hp → Prop}
theorem fin.ext (x : Ext ρ H ρ' H') (h : fin C ρ H W r k) : fin C ρ' H' W r k := by
  cases r with
  | ok a m => exact fun ρ2 H2 x2 m2 => h ρ2 H2 (x.trans x2) m2
  | exc c m => exact fun ρ2 H2 x2 m2 => h ρ2 H2 (x.trans x2) m2
  | bad => exact h
theorem fin.imp (h : fin C ρ H W r k) (f : ∀ a m ρ' H', Ext ρ H ρ' H' → RepM C ρ' H' m → k a m ρ' H' → k' a m ρ' H') : fin C ρ H W r k' := by
  cases r with
  | ok a m => exact fun ρ2 H2 x2 m2 => f a m ρ2 H2 x2 m2 (h ρ2 H2 x2 m2)
  | exc c m => exact h
  | bad => exact h
theorem fin.bind {g : α → Mem → R β} {k : β → Mem → Rho → Hp → Prop} (h : fin C ρ H W (r.bind g) k) : fin C ρ H W r (fun a m ρ1 H1 => fin C ρ1 H1 W (g a m) k) := by
  cases r with
  | ok a m => exact fun ρ2 H2 x2 m2 => fin.ext x2 (show fin C ρ H W (g a m) k from h)
  | exc c m => exact h
  | bad => exact h
theorem fin.ok {a : α} {m : Mem} (h : fin C ρ H W (.ok a m) k) (x : Ext ρ H ρ' H') (r : RepM C ρ' H' m) : k a m ρ' H' := h ρ' H' x r
end

/-! ### the readings -/
def tD (C : Cn) (W : XK) (f : Ex) : TE := fun σ H Q => ∃ ρ g m, RepE C ρ H g σ ∧ RepM C ρ H m ∧ fin C ρ H W (f g m) fun d _ ρ' H' => ∀ v, RepV C ρ' H' d v → Q v H'
def tDT (C : Cn) (W : XK) (f : Ts) : TT := fun σ H Q => ∃ ρ g m, RepE C ρ H g σ ∧ RepM C ρ H m ∧ fin C ρ H W (f g m) fun b _ _ H' => Q b H'
def tDA (C : Cn) (W : XK) (f : Ar) : TA := fun σ H Q => ∃ ρ g m, RepE C ρ H g σ ∧ RepM C ρ H m ∧ fin C ρ H W (f g m) fun ds _ ρ' H' => ∀ vs, RepL C ρ' H' ds vs → Q vs H'
def outK (C : Cn) (N : Ends) : Out → Mem → Rho → Hp → Prop := fun o _ ρ' H' => match o with
  | .nx g => ∀ σ', RepE C ρ' H' g σ' → N.nx σ' H'
  | .bk g => ∀ σ', RepE C ρ' H' g σ' → N.bk σ' H'
  | .ct g => ∀ σ', RepE C ρ' H' g σ' → N.ct σ' H'
  | .rt d => ∀ v, RepV C ρ' H' d v → N.rt v H'
def tDS (C : Cn) (W : XK) (f : Sm) : TS := fun N σ H => ∃ ρ g m, RepE C ρ H g σ ∧ RepM C ρ H m ∧ fin C ρ H W (f g m) (outK C N)
def tDG (C : Cn) (W : XK) (f : Tg) : TG := fun v σ H Q => ∃ ρ g m d, RepE C ρ H g σ ∧ RepM C ρ H m ∧ RepV C ρ H d v ∧ fin C ρ H W (f d g m) fun g' _ ρ' H' => ∀ σ', RepE C ρ' H' g' σ' → Q σ' H'
def tDGs (C : Cn) (W : XK) (f : Gs) : TGs := fun vs σ H Q => ∃ ρ g m ds, RepE C ρ H g σ ∧ RepM C ρ H m ∧ RepL C ρ H ds vs ∧ fin C ρ H W (f ds g m) fun g' _ ρ' H' => ∀ σ', RepE C ρ' H' g' σ' → Q σ' H'
/-- an iterator that walks these data -/
def WalkD (C : Cn) (ρ : Rho) (H : Hp) (ds : List D) (J : It) : Prop := ∀ ρ1 H1 (i : Nat) (m1 : Mem), Ext ρ H ρ1 H1 → RepM C ρ1 H1 m1 →
  (i = ds.length → J.stop i H1) ∧ ∀ d, ds[i]? = some d → J.go i H1 ∧ ∀ x H2, J.yld i H1 x H2 → Same H1 H2 ∧ RepV C ρ1 H2 d x
def tDI (C : Cn) (W : XK) (f : Ar) : TI := fun σ H R => ∃ ρ g m, RepE C ρ H g σ ∧ RepM C ρ H m ∧ fin C ρ H W (f g m) fun ds _ ρ' H' => ∀ J, WalkD C ρ' H' ds J → R J H'

abbrev DE (C : Cn) (W : XK) (X : Cx) (e : Expr) (f : Ex) : Prop := PE X e (tD C W f)
abbrev DT (C : Cn) (W : XK) (X : Cx) (e : Expr) (f : Ts) : Prop := PT X e (tDT C W f)
abbrev DA (C : Cn) (W : XK) (X : Cx) (es : List Expr) (f : Ar) : Prop := PA X es (tDA C W f)
abbrev DS (C : Cn) (W : XK) (X : Cx) (st : Stmt) (f : Sm) : Prop := PS X st (tDS C W f)
abbrev DSs (C : Cn) (W : XK) (X : Cx) (st : List Stmt) (f : Sm) : Prop := PSs X st (tDS C W f)
abbrev DG (C : Cn) (W : XK) (X : Cx) (e : Expr) (f : Tg) : Prop := PG X e (tDG C W f)
abbrev DGs (C : Cn) (W : XK) (X : Cx) (es : List Expr) (f : Gs) : Prop := PGs X es (tDGs C W f)
abbrev DI (C : Cn) (W : XK) (X : Cx) (tg e : Expr) (f : Ar) : Prop := PI X tg e (tDI C W f)
end LW
/-! LwA: the rules over data: names, constants, operators, tests, argument lists, statements, loops, comprehensions, defs. -/
namespace LW
open PySem PySem.Spec PyProof.Rows L2

section
variable {X : Cx}
theorem PE.imp {e : Expr} {t t' : TE} (h : PE X e t) (i : ∀ σ H Q, t' σ H Q → t σ H Q) : PE X e t' := ⟨fun pins s σ H Q I q => h.run pins s σ H Q I (i σ H Q q)⟩
theorem PT.imp {e : Expr} {t t' : TT} (h : PT X e t) (i : ∀ σ H Q, t' σ H Q → t σ H Q) : PT X e t' := ⟨fun pins s σ H Q I q => h.run pins s σ H Q I (i σ H Q q)⟩
theorem PW.imp {e : Expr} {t t' : TT} (h : PW X e t) (i : ∀ σ H Q, t' σ H Q → t σ H Q) : PW X e t' := ⟨fun wh pins s σ H Q I q => h.run wh pins s σ H Q I (i σ H Q q)⟩
theorem PA.imp {es : List Expr} {t t' : TA} (h : PA X es t) (i : ∀ σ H Q, t' σ H Q → t σ H Q) : PA X es t' := ⟨fun pos pins s σ H Q I q => h.run pos pins s σ H Q I (i σ H Q q)⟩
theorem PS.imp {st : Stmt} {t t' : TS} (h : PS X st t) (i : ∀ N σ H, t' N σ H → t N σ H) : PS X st t' := ⟨fun pins s σ H N I q => h.run pins s σ H N I (i N σ H q)⟩
theorem PSs.imp {st : List Stmt} {t t' : TS} (h : PSs X st t) (i : ∀ N σ H, t' N σ H → t N σ H) : PSs X st t' := ⟨fun pins s σ H N I q => h.run pins s σ H N I (i N σ H q)⟩
theorem PG.imp {e : Expr} {t t' : TG} (h : PG X e t) (i : ∀ v σ H Q, t' v σ H Q → t v σ H Q) : PG X e t' := ⟨fun pins s σ H v u Q I r q => h.run pins s σ H v u Q I r (i v σ H Q q)⟩
theorem PGs.imp {es : List Expr} {t t' : TGs} (h : PGs X es t) (i : ∀ v σ H Q, t' v σ H Q → t v σ H Q) : PGs X es t' := ⟨fun pins s σ H v u Q I r q => h.run pins s σ H v u Q I r (i v σ H Q q)⟩
theorem PI.imp {tg e : Expr} {t t' : TI} (h : PI X tg e t) (i : ∀ σ H R, t' σ H R → t σ H R) : PI X tg e t' := ⟨fun pins s σ H R I q => h.run pins s σ H R I (i σ H R q)⟩
end

/-! ### what is said of an operation on values -/
def OpS (C : Cn) (r : R2) (f : Op) : Prop := ∀ (ρ : Rho) (H : Hp) (m : Mem) (d1 d2 : D) (v1 v2 : V) (d : D) (Q : VK), RepM C ρ H m → RepV C ρ H d1 v1 → RepV C ρ H d2 v2 → f m d1 d2 = some d →
  (∀ v H', Same H H' → RepV C ρ H' d v → Q v H') → r v1 v2 H Q
def UnS (C : Cn) (r : V → Hp → VK → Prop) (f : Un) : Prop := ∀ (ρ : Rho) (H : Hp) (m : Mem) (d1 : D) (v1 : V) (d : D) (Q : VK), RepM C ρ H m → RepV C ρ H d1 v1 → f m d1 = some d →
  (∀ v H', Same H H' → RepV C ρ H' d v → Q v H') → r v1 H Q
def BfS (C : Cn) (r : List V → Hp → VK → Prop) (f : Bf) : Prop := ∀ (ρ : Rho) (H : Hp) (m : Mem) (ds : List D) (vs : List V) (d : D) (Q : VK), RepM C ρ H m → RepL C ρ H ds vs → f m ds = some d →
  (∀ v H', Same H H' → RepV C ρ H' d v → Q v H') → r vs H Q

section
variable {C : Cn} {W : XK} {ρ : Rho} {H : Hp} {m : Mem} {σ : St} {g : Env}
/-- the end of an operation on data -/
theorem fin.opt {o : Option D} {Q : VK} (rm : RepM C ρ H m) (h : fin C ρ H W (opt o m) fun d _ ρ' H' => ∀ v, RepV C ρ' H' d v → Q v H') : ∃ d, o = some d ∧ ∀ v H', Same H H' → RepV C ρ H' d v → Q v H' := by
  cases o with
  | none => exact h.elim
  | some d => exact ⟨d, rfl, fun v H' s r => h ρ H' (.of_same s) (rm.same s) v r⟩
theorem fin.now {α : Type} {a : α} {k : α → Mem → Rho → Hp → Prop} (rm : RepM C ρ H m) (h : fin C ρ H W (.ok a m) k) : k a m ρ H := h ρ H (.refl _ _) rm
end

section
variable {C : Cn} {W : XK} {X : Cx} {a b c : Expr} {fa fb fc : Ex} {ta tb : Ts} {pos : Pos}

/-! ### names and constants -/
theorem de_var {i : Nat} {x : Str} (hN : X.N[i]? = some x) (hv : Vis X.env.scope x) (hd : (x == ("__debug__" : Str)) = false := by decide) (hcd : (x == ("__classdict__" : Str)) = false := by decide) : DE C W X (.Name x pos) (vE i) := by
  refine PE.imp (pe_var hN hv hd hcd) ?_
  rintro σ H Q ⟨ρ, g, m, re, rm, h⟩
  simp only [vE] at h
  split at h
  · rename_i d e
    obtain ⟨v, e2, r⟩ := re.at_ i d e
    exact ⟨v, e2, fin.now rm h v r⟩
  · exact h.elim
theorem de_c {e : Expr} {v : V} {d : D} (he : PE X e (tC v)) (hr : ∀ ρ H, RepV C ρ H d v) : DE C W X e (cE d) := by
  refine PE.imp he ?_
  rintro σ H Q ⟨ρ, g, m, re, rm, h⟩
  exact fin.now rm h v (hr ρ H)
theorem de_int {i : Int} {j pos} : DE C W X (.Constant (.int i) j pos) (cE (.int i)) := de_c pe_int fun _ _ => by simp only [RepV]
theorem de_bl {b : Bool} {j pos} : DE C W X (.Constant (.bool b) j pos) (cE (.bl b)) := de_c pe_bl fun _ _ => by simp only [RepV]
theorem de_non {j pos} : DE C W X (.Constant .none j pos) (cE .non) := de_c pe_non fun _ _ => by simp only [RepV]
theorem rep_str {ρ : Rho} {H : Hp} {x : Str} {s : List Nat} (h : x.cps.toList = s) (hl : s.length ≤ lim) (hc : (s.all fun c => decide (c < 1114112)) = true) : RepV C ρ H (.str s) (.str x) := by
  simp only [RepV]
  subst h
  obtain ⟨c⟩ := x
  exact ⟨by simp, hl, fun c hm => by simpa using List.all_eq_true.mp hc c hm⟩
theorem de_str {x : Str} {s : List Nat} {j pos} (h : x.cps.toList = s) (hc : ((s.all fun c => decide (c < 1114112)) && decide (s.length ≤ lim)) = true) : DE C W X (.Constant (.str x) j pos) (cE (.str s)) := by
  rw [Bool.and_eq_true, decide_eq_true_eq] at hc
  exact de_c pe_str fun _ _ => rep_str h hc.2 hc.1
/-- a module's constant -/
theorem de_glob {x : Str} {v : V} {u : Value} {d : D} (hg : Gl X x) (hm : X.mg x = some u) (r : RelV v u) (hr : ∀ ρ H, RepV C ρ H d v) (hd : (x == ("__debug__" : Str)) = false := by decide) : DE C W X (.Name x pos) (cE d) := de_c (pe_glob hg hm r hd) hr

/-! ### operators -/
theorem bin_of {f : Op} {r : R2} (hs : OpS C r f) (σ : St) (H : Hp) (Q : VK) (h : tD C W (opE f fa fb) σ H Q) : tOp r (tD C W fa) (tD C W fb) σ H Q := by
  obtain ⟨ρ, g, m, re, rm, h⟩ := h
  refine ⟨ρ, g, m, re, rm, h.bind.imp fun d1 m1 ρ1 H1 x1 rm1 h1 v1 r1 => ?_⟩
  refine ⟨ρ1, g, m1, re.ext x1, rm1, h1.bind.imp fun d2 m2 ρ2 H2 x2 rm2 h2 v2 r2 => ?_⟩
  obtain ⟨d, e, q⟩ := h2.opt rm2
  exact hs ρ2 H2 m2 d1 d2 v1 v2 d Q rm2 (r1.ext x2) r2 e q
theorem de_op {f : Op} {op : Operator} {r : R2} (ho : OpR X (binaryOp op) r) (hs : OpS C r f) (ha : DE C W X a fa) (hb : DE C W X b fb) : DE C W X (.BinOp a op b pos) (opE f fa fb) :=
  PE.imp (pe_op ho ha hb) (bin_of hs)
theorem de_cmp {f : Op} {op : CmpOp} {r : R2} (ho : OpR X (compareOp op) r) (hs : OpS C r f) (ha : DE C W X a fa) (hb : DE C W X b fb) (hm : behindInMarks op b = false) : DE C W X (.Compare a [op] [b] pos) (opE f fa fb) :=
  PE.imp (pe_cmpR ho ha hb hm) (bin_of hs)
theorem asB_of {σ : St} {H : Hp} {Q : Bool → Hp → Prop} {f : Ex} (h : tDT C W (tE f) σ H Q) : tD C W f σ H (fun x H' => ∃ k, x = .bl k ∧ Q k H') := by
  obtain ⟨ρ, g, m, re, rm, h⟩ := h
  refine ⟨ρ, g, m, re, rm, h.bind.imp fun d m1 ρ1 H1 x1 rm1 h1 v r => ?_⟩
  cases d with
  | bl k => exact ⟨k, by simpa only [RepV] using r, fin.now rm1 h1⟩
  | _ => exact h1.elim
theorem dt_cmp {f : Op} {op : CmpOp} {r : R2} (ho : OpR X (compareOp op) r) (hs : OpS C r f) (ha : DE C W X a fa) (hb : DE C W X b fb) (hm : behindInMarks op b = false) : DT C W X (.Compare a [op] [b] pos) (tE (opE f fa fb)) :=
  PT.imp (pt_cmpR ho ha hb hm) fun σ H Q h => bin_of hs σ H _ (asB_of h)
theorem chain_of {f f' : Op} {r r' : R2} (hs : OpS C r f) (hs' : OpS C r' f') (σ : St) (H : Hp) (Q : VK) (h : tD C W (chE f f' fa fb fc) σ H Q) : tChain r r' (tD C W fa) (tD C W fb) (tD C W fc) σ H Q := by
  obtain ⟨ρ, g, m, re, rm, h⟩ := h
  refine ⟨ρ, g, m, re, rm, h.bind.imp fun d1 m1 ρ1 H1 x1 rm1 h1 v1 r1 => ?_⟩
  refine ⟨ρ1, g, m1, re.ext x1, rm1, h1.bind.imp fun d2 m2 ρ2 H2 x2 rm2 h2 v2 r2 => ?_⟩
  have r1' := r1.ext x2
  cases e : f m2 d1 d2 with
  | none => rw [e] at h2; exact h2.elim
  | some d =>
    rw [e] at h2
    refine hs ρ2 H2 m2 d1 d2 v1 v2 d _ rm2 r1' r2 e fun v H3 s r3 => ?_
    cases d with
    | bl k =>
      refine ⟨k, by simpa only [RepV] using r3, ?_⟩
      cases k with
      | false => exact iteF (h2 ρ2 H3 (.of_same s) (rm2.same s) _ (by simp only [RepV]))
      | true =>
        refine iteT ⟨ρ2, g, m2, (re.ext x1).ext (x2.trans (.of_same s)), rm2.same s, (fin.ext (.of_same s) h2).bind.imp fun d3 m3 ρ3 H4 x4 rm4 h4 v3 r3' => ?_⟩
        obtain ⟨d', e', q⟩ := h4.opt rm4
        exact hs' ρ3 H4 m3 d2 d3 v2 v3 d' Q rm4 (r2.ext ((Ext.of_same s).trans x4)) r3' e' q
    | _ => exact h2.elim
theorem de_chain {f f' : Op} {op op' : CmpOp} {r r' : R2} (ho : OpR X (compareOp op) r) (hs : OpS C r f) (ho' : OpR X (compareOp op') r') (hs' : OpS C r' f') (ha : DE C W X a fa) (hb : DE C W X b fb) (hc : DE C W X c fc)
    (hm : lastMarks [op, op'] [b, c] = false := by with_unfolding_all rfl) : DE C W X (.Compare a [op, op'] [b, c] pos) (chE f f' fa fb fc) :=
  PE.imp (pe_chain ho ho' ha hb hc hm) (chain_of hs hs')
theorem de_un {f : Un} {op : UnaryOp} {r : V → Hp → VK → Prop} (ho : UnR X (unaryOp op) r) (hs : UnS C r f) (ha : DE C W X a fa) : DE C W X (.UnaryOp op a pos) (unE f fa) := by
  refine PE.imp (pe_un ho ha) ?_
  rintro σ H Q ⟨ρ, g, m, re, rm, h⟩
  refine ⟨ρ, g, m, re, rm, h.bind.imp fun d1 m1 ρ1 H1 x1 rm1 h1 v1 r1 => ?_⟩
  obtain ⟨d, e, q⟩ := h1.opt rm1
  exact hs ρ1 H1 m1 d1 v1 d Q rm1 r1 e q

/-! ### tests -/
/-- an expression that gives True or False, as a test -/
theorem dt_val (h : DE C W X a fa) (he : ∀ whole, isTrue a X.env whole = (do let v ← whole; standAt a.pos; holding [v] (truthy v)) := by intro _; rfl) : DT C W X a (tE fa) :=
  PT.imp (pt_val h he) fun σ H Q h => asB_of h
theorem dt_not (h : DT C W X a ta) : DT C W X (.UnaryOp .Not a pos) (notT ta) := by
  refine PT.imp (pt_not h) ?_
  rintro σ H Q ⟨ρ, g, m, re, rm, h⟩
  exact ⟨ρ, g, m, re, rm, h.bind.imp fun d1 m1 ρ1 H1 x1 rm1 h1 => fin.now rm1 h1⟩
abbrev DW (C : Cn) (W : XK) (X : Cx) (e : Expr) (f : Ts) : Prop := PW X e (tDT C W f)
theorem dw_and1 (ha : DT C W X a ta) : DW C W X (.BoolOp .And [a] pos) ta := pw_and1 ha
theorem dw_or1 (ha : DT C W X a ta) : DW C W X (.BoolOp .Or [a] pos) ta := pw_or1 ha
theorem dw_and {rest : List Expr} (ha : DT C W X a ta) (hb : DW C W X (.BoolOp .And (b :: rest) pos) tb) : DW C W X (.BoolOp .And (a :: b :: rest) pos) (andT ta tb) := by
  refine PW.imp (pw_and ha hb) ?_
  rintro σ H Q ⟨ρ, g, m, re, rm, h⟩
  refine ⟨ρ, g, m, re, rm, h.bind.imp fun k m1 ρ1 H1 x1 rm1 h1 => ?_⟩
  cases k with
  | true => exact iteT ⟨ρ1, g, m1, re.ext x1, rm1, h1⟩
  | false => exact iteF (fin.now rm1 h1)
theorem dw_or {rest : List Expr} (ha : DT C W X a ta) (hb : DW C W X (.BoolOp .Or (b :: rest) pos) tb) : DW C W X (.BoolOp .Or (a :: b :: rest) pos) (orT ta tb) := by
  refine PW.imp (pw_or ha hb) ?_
  rintro σ H Q ⟨ρ, g, m, re, rm, h⟩
  refine ⟨ρ, g, m, re, rm, h.bind.imp fun k m1 ρ1 H1 x1 rm1 h1 => ?_⟩
  cases k with
  | true => exact iteT (fin.now rm1 h1)
  | false => exact iteF ⟨ρ1, g, m1, re.ext x1, rm1, h1⟩
theorem dt_w {t : Ts} (h : DW C W X a t) : DT C W X a t := h.pt
theorem de_one {op} (h : DE C W X a fa) : DE C W X (.BoolOp op [a] pos) fa := pe_one h
theorem de_and {rest : List Expr} (ha : DE C W X a fa) (hb : DE C W X (.BoolOp .And (b :: rest) pos) fb) : DE C W X (.BoolOp .And (a :: b :: rest) pos) (andE fa fb) := by
  refine PE.imp (pe_and ha hb) ?_
  rintro σ H Q ⟨ρ, g, m, re, rm, h⟩
  refine ⟨ρ, g, m, re, rm, h.bind.imp fun d m1 ρ1 H1 x1 rm1 h1 v r => ?_⟩
  cases d with
  | bl k =>
    refine ⟨k, by simpa only [RepV] using r, ?_⟩
    cases k with
    | true => exact iteT ⟨ρ1, g, m1, re.ext x1, rm1, h1⟩
    | false => exact iteF (fin.now rm1 h1 _ (by simp only [RepV]))
  | _ => exact h1.elim
theorem de_not (ha : DE C W X a fa) : DE C W X (.UnaryOp .Not a pos) (notE fa) := by
  refine PE.imp (pe_not ha) ?_
  rintro σ H Q ⟨ρ, g, m, re, rm, h⟩
  refine ⟨ρ, g, m, re, rm, h.bind.imp fun d m1 ρ1 H1 x1 rm1 h1 v r => ?_⟩
  cases d with
  | bl k => exact ⟨k, by simpa only [RepV] using r, fin.now rm1 h1 _ (by simp only [RepV])⟩
  | _ => exact h1.elim
theorem de_if {t : Ts} (hc : DT C W X c t) (ha : DE C W X a fa) (hb : DE C W X b fb) : DE C W X (.IfExp c a b pos) (ifE t fa fb) := by
  refine PE.imp (pe_ifExp hc ha hb) ?_
  rintro σ H Q ⟨ρ, g, m, re, rm, h⟩
  refine ⟨ρ, g, m, re, rm, h.bind.imp fun k m1 ρ1 H1 x1 rm1 h1 => ?_⟩
  cases k with
  | true => exact iteT ⟨ρ1, g, m1, re.ext x1, rm1, h1⟩
  | false => exact iteF ⟨ρ1, g, m1, re.ext x1, rm1, h1⟩

/-! ### argument lists, displays -/
variable {es : List Expr} {fr : Ar}
theorem da_nil : DA C W X [] nilA := by
  refine PA.imp pa_nil ?_
  rintro σ H Q ⟨ρ, g, m, re, rm, h⟩
  exact fin.now rm h _ (by simp only [RepL])
theorem da_cons (ha : DE C W X a fa) (hr : DA C W X es fr) (hs : starEach (a :: es) X.env = (false, eval a X.env) :: starEach es X.env := by rfl) : DA C W X (a :: es) (consA fa fr) := by
  refine PA.imp (pa_cons ha hr hs) ?_
  rintro σ H Q ⟨ρ, g, m, re, rm, h⟩
  refine ⟨ρ, g, m, re, rm, h.bind.imp fun d m1 ρ1 H1 x1 rm1 h1 v r => ?_⟩
  refine ⟨ρ1, g, m1, re.ext x1, rm1, h1.bind.imp fun ds m2 ρ2 H2 x2 rm2 h2 vs r2 => ?_⟩
  exact fin.now rm2 h2 _ (by simp only [RepL]; exact ⟨v, vs, rfl, r.ext x2, r2⟩)
theorem lim_eq : lim = sizeLine := by rw [sizeLine_eq]; rfl
/-- a new thing that stands by its contents -/
theorem rep_tup {ρ : Rho} {H : Hp} {p : Addr} {ds : List D} {xs : List V} {m : Mem} (rm : RepM C ρ H m) (hp : H p = none) (r : RepL C ρ H ds xs) : RepV C ρ (upd H p (.tup xs)) (.tup ds) (.ref p) := by
  simp only [RepV]
  exact ⟨p, xs, rfl, .inl ⟨rm.free_of hp, .inl upd_same⟩, r.ext (.of_same (same_upd hp))⟩
theorem rep_lst {ρ : Rho} {H : Hp} {p : Addr} {ds : List D} {xs : List V} {m : Mem} (rm : RepM C ρ H m) (hp : H p = none) (r : RepL C ρ H ds xs) : RepV C ρ (upd H p (.lst xs)) (.lst ds) (.ref p) := by
  simp only [RepV]
  exact ⟨p, xs, rfl, rm.free_of hp, upd_same, r.ext (.of_same (same_upd hp))⟩
theorem de_tup {x1} (h : DA C W X es fr) : DE C W X (.Tuple es x1 pos) (tupE fr) := by
  refine PE.imp (pe_tup h) ?_
  rintro σ H Q ⟨ρ, g, m, re, rm, h⟩
  refine ⟨ρ, g, m, re, rm, h.bind.imp fun ds m1 ρ1 H1 x1 rm1 h1 vs r => ?_⟩
  by_cases hz : ds.length ≤ lim
  · rw [if_pos hz] at h1
    refine ⟨by rw [← lim_eq, ← r.length]; exact hz, fun p hp => ?_⟩
    exact h1 ρ1 _ (.of_same (same_upd hp)) (rm1.same (same_upd hp)) _ (rep_tup rm1 hp r)
  · rw [if_neg hz] at h1; exact h1.elim
theorem de_lst (h : DA C W X es fr) : DE C W X (.List es pos) (lstE fr) := by
  refine PE.imp (pe_lst h) ?_
  rintro σ H Q ⟨ρ, g, m, re, rm, h⟩
  refine ⟨ρ, g, m, re, rm, h.bind.imp fun ds m1 ρ1 H1 x1 rm1 h1 vs r => ?_⟩
  by_cases hz : ds.length ≤ lim
  · rw [if_pos hz] at h1
    refine ⟨by rw [← lim_eq, ← r.length]; exact hz, fun p hp => ?_⟩
    exact h1 ρ1 _ (.of_same (same_upd hp)) (rm1.same (same_upd hp)) _ (rep_lst rm1 hp r)
  · rw [if_neg hz] at h1; exact h1.elim

/-! ### calls of built-ins -/
theorem cb_of {f : Bf} {r : List V → Hp → VK → Prop} (hs : BfS C r f) (σ : St) (H : Hp) (Q : VK) (h : tD C W (bE f fr) σ H Q) : tCB r (tDA C W fr) σ H Q := by
  obtain ⟨ρ, g, m, re, rm, h⟩ := h
  refine ⟨ρ, g, m, re, rm, h.bind.imp fun ds m1 ρ1 H1 x1 rm1 h1 vs r1 => ?_⟩
  obtain ⟨d, e, q⟩ := h1.opt rm1
  exact hs ρ1 H1 m1 ds vs d Q rm1 r1 e q
theorem de_callB {f : Bf} {x : Str} {id : String} {r : List V → Hp → VK → Prop} {p : Pos} (hc : CallR X (.builtin id) r) (hs : BfS C r f) (hg : Gl X x) (hm : X.mg x = none) (hv : bootBuiltins x = some (.builtin id)) (ha : DA C W X (a :: es) fr) (hn : x ≠ "__name__" := by decide) (hdb : (x == ("__debug__" : Str)) = false := by decide)
    (he : starEach (a :: es) X.env = (false, eval a X.env) :: starEach es X.env := by rfl) (hpl : (backTo pos (starEach es X.env)).any (·.1) = false := by rfl) : DE C W X (.Call (.Name x p) (a :: es) [] pos) (bE f fr) :=
  PE.imp (pe_callB hc hg hm hv ha hn hdb he hpl) (cb_of hs)
theorem de_callTy {f : Bf} {x : Str} {T : String} {r : List V → Hp → VK → Prop} {p : Pos} (hc : CallR X (.type T) r) (hs : BfS C r f) (hg : Gl X x) (hm : X.mg x = none) (hv : bootBuiltins x = some (.type T)) (ha : DA C W X (a :: es) fr) (hn : x ≠ "__name__" := by decide) (hdb : (x == ("__debug__" : Str)) = false := by decide)
    (he : starEach (a :: es) X.env = (false, eval a X.env) :: starEach es X.env := by rfl) (hpl : (backTo pos (starEach es X.env)).any (·.1) = false := by rfl) : DE C W X (.Call (.Name x p) (a :: es) [] pos) (bE f fr) :=
  PE.imp (pe_callTy hc hg hm hv ha hn hdb he hpl) (cb_of hs)
end

/-! ### what a def promises -/
def spOf (C : Cn) (n : Nat) (f : Fn) : Sp := fun vs H Q E => ∃ ρ m ds, ds.length = n ∧ RepL C ρ H ds vs ∧ RepM C ρ H m ∧ fin C ρ H E (f ds m) fun d _ ρ' H' => ∀ v, RepV C ρ' H' d v → Q v H'
abbrev TakesK (X : Cx) (W : XK) : Prop := Takes X (fun c d _ H => W c d H)
section
variable {C : Cn} {W : XK} {X : Cx} {a b c : Expr} {fa fb fc : Ex} {ta tb : Ts} {pos : Pos} {es : List Expr} {fr : Ar} {k n : Nat} {f : Addr} {fd : FuncData} {ps : List Str} {F : Fn} {x : Str} {p : Pos}
theorem call_of (σ : St) (H : Hp) (Q : VK) (hn : ∀ g m ds m1, fr g m = .ok ds m1 → ds.length = n) (h : tD C W (callE F fr) σ H Q) : tCall (spOf C n F) [] W (tDA C W fr) σ H Q := by
  obtain ⟨ρ, g, m, re, rm, h⟩ := h
  refine ⟨ρ, g, m, re, rm, ?_⟩
  have h' := h.bind
  cases e : fr g m with
  | bad => rw [e] at h'; exact h'
  | exc c m => rw [e] at h'; exact h'
  | ok ds m1 =>
    rw [e] at h'
    refine fun ρ1 H1 x1 rm1 vs r1 => ?_
    show spOf C n F (vs ++ []) H1 Q W
    rw [List.append_nil]
    exact ⟨ρ1, m1, ds, hn g m ds m1 e, r1, rm1, h' ρ1 H1 x1 rm1⟩
/-- f(e, ..) of a def that may raise -/
theorem de_call (G : FnOk X.prog X.w X.K X.mg X.base (L2.CX X.prog X.w) k f fd ps (spOf C n F)) (hr : Room k X.A) (hg : Gl X x) (hm : X.mg x = some (.ref f)) (hk : PySem.W.keepIn X.K (.ref f) = true) (hb : Binds X.K fd ps []) (tk : TakesK X W)
    (ha : DA C W X (a :: es) fr) (hn : ∀ g m ds m1, fr g m = .ok ds m1 → ds.length = n) (hdb : (x == ("__debug__" : Str)) = false := by decide) (he : starEach (a :: es) X.env = (false, eval a X.env) :: starEach es X.env := by rfl) (hpl : (backTo pos (starEach es X.env)).any (·.1) = false := by rfl) :
    DE C W X (.Call (.Name x p) (a :: es) [] pos) (callE F fr) :=
  PE.imp (pe_call (E := W) (dvs := []) G hr hg hm hk hb .nil (passes_call tk fun _ _ _ _ h => h) ha hdb he hpl) fun σ H Q h => call_of σ H Q hn h
theorem len0 : ∀ g m ds m1, nilA g m = .ok ds m1 → ds.length = 0 := fun g m ds m1 e => by cases e; rfl
theorem lenS {a : Ex} {r : Ar} {k : Nat} (h : ∀ g m ds m1, r g m = .ok ds m1 → ds.length = k) : ∀ g m ds m1, consA a r g m = .ok ds m1 → ds.length = k + 1 := fun g m ds m1 e => by
  simp only [consA] at e
  cases q : a g m with
  | bad => rw [q] at e; cases e
  | exc c m => rw [q] at e; cases e
  | ok d m2 =>
    rw [q] at e
    simp only [R.bind_ok] at e
    cases q2 : r g m2 with
    | bad => rw [q2] at e; cases e
    | exc c m => rw [q2] at e; cases e
    | ok ds2 m3 =>
      rw [q2] at e
      cases e
      rw [List.length_cons, h g m2 _ _ q2]
end
end LW
/-! LwB: statements, loops, comprehensions, defs over data. -/
namespace LW
open PySem PySem.Spec PyProof.Rows L2
section
variable {C : Cn} {W : XK} {X : Cx} {a b c : Expr} {fa fb fc : Ex} {t : Ts} {pos : Pos} {st : Stmt} {rest sts : List Stmt} {f1 f2 : Sm}
theorem dss_nil : DSs C W X [] nxS := by
  refine PSs.imp pss_nil ?_
  rintro N σ H ⟨ρ, g, m, re, rm, h⟩
  exact fin.now rm h σ re
theorem dss_cons (h1 : DS C W X st f1) (h2 : DSs C W X rest f2) : DSs C W X (st :: rest) (seqS f1 f2) := by
  refine PSs.imp (pss_cons h1 h2) ?_
  rintro N σ H ⟨ρ, g, m, re, rm, h⟩
  refine ⟨ρ, g, m, re, rm, (fin.bind h).imp fun o m1 ρ1 H1 x1 rm1 h1 => ?_⟩
  cases o with
  | nx g1 => exact fun σ' re' => ⟨ρ1, g1, m1, re', rm1, h1⟩
  | rt d => exact (fin.now (W := W) (k := outK C N) rm1 h1 : outK C N (.rt d) m1 ρ1 H1)
  | bk g1 => exact (fin.now (W := W) (k := outK C N) rm1 h1 : outK C N (.bk g1) m1 ρ1 H1)
  | ct g1 => exact (fin.now (W := W) (k := outK C N) rm1 h1 : outK C N (.ct g1) m1 ρ1 H1)
theorem dss_one (h1 : DS C W X st f1) : DSs C W X [st] f1 := pss_one h1
theorem ds_expr (he : DE C W X a fa) (hs : swapsWith a none pos.line X.env = pure false := by rfl) : DS C W X (.Expr a pos) (exS fa) := by
  refine PS.imp (ps_expr he hs) ?_
  rintro N σ H ⟨ρ, g, m, re, rm, h⟩
  exact ⟨ρ, g, m, re, rm, h.bind.imp fun d m1 ρ1 H1 x1 rm1 h1 v r => fin.now rm1 h1 σ (re.ext x1)⟩
theorem ds_ret (he : DE C W X a fa) : DS C W X (.Return (some a) pos) (retS fa) := by
  refine PS.imp (ps_ret he) ?_
  rintro N σ H ⟨ρ, g, m, re, rm, h⟩
  exact ⟨ρ, g, m, re, rm, h.bind.imp fun d m1 ρ1 H1 x1 rm1 h1 v r => fin.now rm1 h1 v r⟩
theorem ds_retN : DS C W X (.Return none pos) retN := by
  refine PS.imp ps_retN ?_
  rintro N σ H ⟨ρ, g, m, re, rm, h⟩
  exact fin.now rm h .non (by simp only [RepV])
theorem ds_if {sa sb : List Stmt} (hc : DT C W X c t) (ha : DSs C W X sa f1) (hb : DSs C W X sb f2) : DS C W X (.If c sa sb pos) (ifS t f1 f2) := by
  refine PS.imp (ps_if hc ha hb) ?_
  rintro N σ H ⟨ρ, g, m, re, rm, h⟩
  refine ⟨ρ, g, m, re, rm, h.bind.imp fun k m1 ρ1 H1 x1 rm1 h1 => ?_⟩
  cases k with
  | true => exact iteT ⟨ρ1, g, m1, re.ext x1, rm1, h1⟩
  | false => exact iteF ⟨ρ1, g, m1, re.ext x1, rm1, h1⟩
/-- raise X('..') -/
theorem ds_raise {e : Expr} {Cc : Addr} {nm : String} (hc : X.calm = true) (tk : TakesK X W) (he : PMk X e (fun _ H Q => Q (.ref Cc) none H)) (hcl : C.cls nm = .ref Cc) : DS C W X (.Raise (some e) none pos) (raiseS nm) := by
  refine PS.imp (ps_raise hc tk he) ?_
  rintro N σ H ⟨ρ, g, m, re, rm, h⟩
  have q : W (C.cls nm) none H := h ρ H (.refl _ _) rm
  rw [hcl] at q
  exact q

/-! ### targets, assignments -/
variable {tg : Tg} {tgs : Gs}
theorem dg_name {i : Nat} {x : Str} (hN : X.N.Nodup) (hi : X.N[i]? = some x) (hx : Loc X.env.scope x) (hf : X.fn x = true ∨ X.env.scope.names.lookup x = some .local := by first | exact .inl rfl | exact .inr rfl | assumption) : DG C W X (.Name x pos) (nmG i) := by
  refine PG.imp (pg_name hN hi hx hf) ?_
  rintro v σ H Q ⟨ρ, g, m, d, re, rm, rv, h⟩
  exact fin.now rm h _ (re.set rv i)
theorem dgs_nil : DGs C W X [] nilG := by
  refine PGs.imp pgs_nil ?_
  rintro vs σ H Q ⟨ρ, g, m, ds, re, rm, rv, h⟩
  cases ds with
  | nil => exact ⟨by simpa only [RepL] using rv, fin.now rm h σ re⟩
  | cons d ds => exact h.elim
theorem dgs_cons {e : Expr} {es : List Expr} (h1 : DG C W X e tg) (h2 : DGs C W X es tgs) (hs : (assignEach (e :: es) X.env).map (·.2) = assign e X.env :: (assignEach es X.env).map (·.2) := by rfl) : DGs C W X (e :: es) (consG tg tgs) := by
  refine PGs.imp (pgs_cons h1 h2 hs) ?_
  rintro vs σ H Q ⟨ρ, g, m, ds, re, rm, rv, h⟩
  cases ds with
  | nil => exact h.elim
  | cons d ds =>
    simp only [RepL] at rv
    obtain ⟨v, r, rfl, r1, r2⟩ := rv
    refine ⟨v, r, rfl, ρ, g, m, d, re, rm, r1, (fin.bind h).imp fun g1 m1 ρ1 H1 x1 rm1 h1 σ' re' => ?_⟩
    exact ⟨ρ1, g1, m1, ds, re', rm1, r2.ext x1, h1⟩
theorem RepV.tup_sq {ρ : Rho} {H : Hp} {ds : List D} {v : V} (h : RepV C ρ H (.tup ds) v) : ∃ a xs, v = .ref a ∧ SqT C.K H a xs ∧ RepL C ρ H ds xs := by
  simp only [RepV] at h
  obtain ⟨a, xs, e, h1, h2⟩ := h
  refine ⟨a, xs, e, ?_, h2⟩
  rcases h1 with ⟨_, r⟩ | k
  · exact .inl r
  · rcases k with (k | ⟨_, k⟩) | k
    · cases k
    · cases k
    · exact .inr k
theorem RepV.wk {ρ : Rho} {H : Hp} {ds : List D} {v : V} (h : RepV C ρ H (.tpx ds) v) : RepV C ρ H (.tup ds) v := by
  simp only [RepV] at h ⊢
  obtain ⟨a, xs, o, e, n, q, hd, h2⟩ := h
  exact ⟨a, xs, e, .inl ⟨n, .inr ⟨o, q⟩⟩, h2⟩
theorem RepV.lst_at {ρ : Rho} {H : Hp} {ds : List D} {v : V} (h : RepV C ρ H (.lst ds) v) : ∃ a xs, v = .ref a ∧ ¬ lives ρ a ∧ H a = some (.lst xs) ∧ RepL C ρ H ds xs := by
  simpa only [RepV] using h
theorem RepV.scr_sq {ρ : Rho} {H : Hp} {ns : List Int} {v : V} (h : RepV C ρ H (.scr ns) v) : ∃ a, v = .ref a ∧ SqL C.K H a (ns.map V.int) := by
  simp only [RepV] at h
  obtain ⟨a, e, h1⟩ := h
  refine ⟨a, e, ?_⟩
  rcases h1 with ⟨_, o, r⟩ | k
  · exact .inl (.inr ⟨o, r⟩)
  · rcases k with (k | ⟨_, k⟩) | k
    · cases k
    · cases k
    · exact .inr k
theorem dg_tup {es : List Expr} {k n : Nat} (hK : C.K = X.K) (hc : X.calm = true) (h : DGs C W X es tgs) (hl : ∀ ds g m g' m', tgs ds g m = .ok g' m' → ds.length = n) (hl2 : ∀ ds g m c m', tgs ds g m = .exc c m' → ds.length = n)
    (hn : (assignEach es X.env).length = n := by rfl) (hst : (assignEach es X.env).findIdx? (·.1) = none := by rfl) : DG C W X (.Tuple es k pos) (tupG tgs) := by
  refine PG.imp (pg_tup hc h hn hst) ?_
  rintro v σ H Q ⟨ρ, g, m, d, re, rm, rv, h⟩
  cases d with
  | tup ds =>
    obtain ⟨a, xs, e, sq, rl⟩ := rv.tup_sq
    refine ⟨a, xs, e, hK ▸ sq, ?_, ρ, g, m, ds, re, rm, rl, h⟩
    rw [← rl.length]
    have h : fin C ρ H W (tgs ds g m) _ := h
    cases q : tgs ds g m with
    | ok g' m' => exact hl _ _ _ _ _ q
    | exc c m' => exact hl2 _ _ _ _ _ q
    | bad => rw [q] at h; exact h.elim
  | _ => exact h.elim
theorem ds_asg {te : Expr} (he : DE C W X a fa) (hg : DG C W X te tg) (hs : swapsWithSole [te] a pos.line X.env = pure false := by rfl) (hw : swappedStores [te] a X.env = pure none := by rfl)
    (h1 : (assignEach [te] X.env).map (·.2) = [assign te X.env] := by rfl) : DS C W X (.Assign [te] a pos) (asgS tg fa) := by
  refine PS.imp (ps_asg he hg hs hw h1) ?_
  rintro N σ H ⟨ρ, g, m, re, rm, h⟩
  refine ⟨ρ, g, m, re, rm, h.bind.imp fun d m1 ρ1 H1 x1 rm1 h1 v r => ?_⟩
  exact ⟨ρ1, g, m1, d, re.ext x1, rm1, r, h1.bind.imp fun g' m2 ρ2 H2 x2 rm2 h2 σ' re' => fin.now rm2 h2 σ' re'⟩
/-- name = e -/
theorem ds_set {i : Nat} {x : Str} {pos' : Pos} (hN : X.N.Nodup) (hi : X.N[i]? = some x) (hx : Loc X.env.scope x) (he : DE C W X a fa) (hs : swapsWith a (some (.Name x pos')) pos.line X.env = pure false := by rfl) (hf : X.fn x = true ∨ X.env.scope.names.lookup x = some .local := by first | exact .inl rfl | exact .inr rfl | assumption) :
    DS C W X (.Assign [.Name x pos'] a pos) (asgS (nmG i) fa) := by
  refine PS.imp (ps_set hN hi hx he hs hf) ?_
  rintro N σ H ⟨ρ, g, m, re, rm, h⟩
  refine ⟨ρ, g, m, re, rm, h.bind.imp fun d m1 ρ1 H1 x1 rm1 h1 v r => ?_⟩
  exact fin.now rm1 h1 _ ((re.ext x1).set r i)
theorem ds_par {i j : Nat} {x y : Str} {px py pt : Pos} {kt k2 pt2} (hc : X.calm = true) (hN : X.N.Nodup) (hi : X.N[i]? = some x) (hj : X.N[j]? = some y) (hij : i ≠ j)
    (hx : X.env.scope.names.lookup x = some .local) (hy : X.env.scope.names.lookup y = some .local) (ha : DE C W X a fa) (hb : DE C W X b fb)
    (hw : swappedStores [.Tuple [.Name x px, .Name y py] kt pt] (.Tuple [a, b] k2 pt2) X.env = pure (some [x, y]))
    (hs : swapsWithSole [.Tuple [.Name x px, .Name y py] kt pt] (.Tuple [a, b] k2 pt2) pos.line X.env = pure false := by rfl)
    (s1 : starEach (a :: [b]) X.env = (false, eval a X.env) :: starEach [b] X.env := by rfl) (s2 : starEach (b :: []) X.env = (false, eval b X.env) :: starEach [] X.env := by rfl) :
    DS C W X (.Assign [.Tuple [.Name x px, .Name y py] kt pt] (.Tuple [a, b] k2 pt2) pos) (parS i j fa fb) := by
  refine PS.imp (ps_par hc hN hi hj hij hx hy (da_cons ha (da_cons hb da_nil s2) s1) hw hs) ?_
  rintro N σ H ⟨ρ, g, m, re, rm, h⟩
  refine ⟨ρ, g, m, re, rm, ?_⟩
  have h' := h.bind
  show fin C ρ H W ((fa g m).bind fun x m1 => ((fb g m1).bind fun y m2 => (R.ok [] m2).bind fun xs m3 => .ok (y :: xs) m3).bind fun xs m2 => .ok (x :: xs) m2) _
  cases e : fa g m with
  | bad => rw [e] at h'; exact h'
  | exc c m => rw [e] at h'; exact h'
  | ok d m1 =>
    rw [e] at h'
    show fin C ρ H W (((fb g m1).bind fun y m2 => (R.ok [] m2).bind fun xs m3 => .ok (y :: xs) m3).bind fun xs m2 => .ok (d :: xs) m2) _
    have h2 : fin C ρ H W ((fb g m1).bind fun y m2 => .ok (.nx ((g.set i (some d)).set j (some y))) m2) (outK C N) := by
      have h3 := h
      simp only [parS] at h3
      rw [e] at h3
      exact h3
    have h4 := h2.bind
    cases e2 : fb g m1 with
    | bad => rw [e2] at h4; exact h4
    | exc c m => rw [e2] at h4; exact h4
    | ok d2 m2 =>
      rw [e2] at h4
      intro ρ1 H1 x1 rm1 vs rl
      simp only [RepL] at rl
      obtain ⟨v, r, rfl, r1, w, r', rfl, r2, rfl⟩ := rl
      exact ⟨v, w, rfl, fin.now rm1 (h4 ρ1 H1 x1 rm1) _ (((re.ext x1).set r1 i).set r2 j)⟩

/-! ### loops -/
theorem ds_for {te iter : Expr} {body : List Stmt} {fi : Ar} {fb : Sm} (hp : PassesOwn (model X.prog X.w) X.A X.env X.xe) (hc : X.calm = true) (hi : DI C W X te iter fi) (hg : DG C W X te tg) (hb : DSs C W X body fb)
    (hs : ∀ x, foldedSetIterable iter X.env x = pure x := by intro _; rfl) : DS C W X (.For te iter body [] pos) (forS fi tg fb) := by
  refine PS.imp (ps_for hp hc hi hg hb hs) ?_
  rintro N σ H ⟨ρ, g, m, re, rm, h⟩
  refine ⟨ρ, g, m, re, rm, h.bind.imp fun ds m1 ρ1 H1 x1 rm1 h1 J wk => ?_⟩
  refine ⟨fun i k σ' H' => k = ds.length - i ∧ i ≤ ds.length ∧ ∃ ρ' g' m', Ext ρ1 H1 ρ' H' ∧ RepE C ρ' H' g' σ' ∧ RepM C ρ' H' m' ∧ fin C ρ' H' W (forL tg fb (ds.drop i) g' m') (outK C N),
    ⟨ds.length, by simp, Nat.zero_le _, ρ1, g, m1, .refl _ _, re.ext x1, rm1, h1⟩, ?_⟩
  rintro i k σ' H' ⟨rfl, hi, ρ', g', m', x', re', rm', h'⟩
  obtain ⟨w1, w2⟩ := wk ρ' H' i m' x' rm'
  by_cases hlt : i < ds.length
  · obtain ⟨go, yl⟩ := w2 ds[i] (List.getElem?_eq_getElem hlt)
    rw [List.drop_eq_getElem_cons hlt] at h'
    refine .inr ⟨go, fun σ2 H2 => ∃ ρ2 g2 m2, Ext ρ1 H1 ρ2 H2 ∧ RepE C ρ2 H2 g2 σ2 ∧ RepM C ρ2 H2 m2 ∧ fin C ρ2 H2 W (forL tg fb (ds.drop (i + 1)) g2 m2) (outK C N),
      fun σ2 H2 ⟨ρ2, g2, m2, q⟩ => ⟨ds.length - (i + 1), by omega, rfl, hlt, ρ2, g2, m2, q⟩, fun v H2 y => ?_⟩
    obtain ⟨sm, rv⟩ := yl v H2 y
    have xs : Ext ρ' H' ρ' H2 := .of_same sm
    refine ⟨ρ', g', m', ds[i], re'.ext xs, rm'.same sm, rv, (fin.bind (fin.ext xs h')).imp fun g2 m2 ρ2 H3 x3 rm3 h3 σ3 re3 => ?_⟩
    refine ⟨ρ2, g2, m2, re3, rm3, (fin.bind h3).imp fun o m4 ρ4 H4 x4 rm4 h4 => ?_⟩
    have x5 : Ext ρ1 H1 ρ4 H4 := x'.trans (xs.trans (x3.trans x4))
    cases o with
    | nx g4 => exact fun σ4 re4 => ⟨ρ4, g4, m4, x5, re4, rm4, h4⟩
    | ct g4 => exact fun σ4 re4 => ⟨ρ4, g4, m4, x5, re4, rm4, h4⟩
    | bk g4 => exact fun σ4 re4 => fin.now rm4 h4 σ4 re4
    | rt d => exact (fin.now (W := W) (k := outK C N) rm4 h4 : outK C N (.rt d) m4 ρ4 H4)
  · have e : i = ds.length := by omega
    refine .inl ⟨w1 e, ?_⟩
    rw [e, List.drop_length] at h'
    exact fin.now rm' h' σ' re'
theorem ds_while {body : List Stmt} {fb : Sm} {n : Nat} (hp : PassesOwn (model X.prog X.w) X.A X.env X.xe) (hc : DT C W X c t) (hb : DSs C W X body fb) : DS C W X (.While c body [] pos) (whileS n t fb) := by
  refine PS.imp (ps_while hp hc hb) ?_
  rintro N σ H ⟨ρ, g, m, re, rm, h⟩
  refine ⟨fun k σ' H' => ∃ ρ' g' m', RepE C ρ' H' g' σ' ∧ RepM C ρ' H' m' ∧ fin C ρ' H' W (whileL t fb k g' m') (outK C N), ⟨n, ρ, g, m, re, rm, h⟩, ?_⟩
  rintro k σ' H' ⟨ρ', g', m', re', rm', h'⟩
  cases k with
  | zero => exact h'.elim
  | succ k =>
    refine ⟨ρ', g', m', re', rm', (fin.bind h').imp fun x m1 ρ1 H1 x1 rm1 h1 => ?_⟩
    cases x with
    | false => exact iteF (fin.now rm1 h1 σ' (re'.ext x1))
    | true =>
      refine iteT ⟨fun σ2 H2 => ∃ ρ2 g2 m2, RepE C ρ2 H2 g2 σ2 ∧ RepM C ρ2 H2 m2 ∧ fin C ρ2 H2 W (whileL t fb k g2 m2) (outK C N), fun σ2 H2 q => ⟨k, Nat.lt_succ_self _, q⟩, ?_⟩
      refine ⟨ρ1, g', m1, re'.ext x1, rm1, (fin.bind h1).imp fun o m4 ρ4 H4 x4 rm4 h4 => ?_⟩
      cases o with
      | nx g4 => exact fun σ4 re4 => ⟨ρ4, g4, m4, re4, rm4, h4⟩
      | ct g4 => exact fun σ4 re4 => ⟨ρ4, g4, m4, re4, rm4, h4⟩
      | bk g4 => exact fun σ4 re4 => fin.now rm4 h4 σ4 re4
      | rt d => exact (fin.now (W := W) (k := outK C N) rm4 h4 : outK C N (.rt d) m4 ρ4 H4)

/-! ### comprehensions -/
abbrev DTs (C : Cn) (W : XK) (X : Cx) (es : List Expr) (f : Ts) : Prop := PTs X es (tDT C W f)
theorem dts_nil : DTs C W X [] yesT := by
  refine ⟨fun pins s σ H Q I h => pts_nil.run pins s σ H Q I ?_⟩
  obtain ⟨ρ, g, m, re, rm, h⟩ := h
  exact fin.now rm h
theorem dts_one (h : DT C W X c t) : DTs C W X [c] t := pts_one h
theorem wipe_get (σ : St) (j : Nat) : ∀ vs : List Nat, (L2.wipe σ vs)[j]? = if j ∈ vs ∧ j < σ.length then some none else σ[j]?
  | [] => by simp [L2.wipe]
  | v :: vs => by
    show ((L2.wipe σ vs).set v none)[j]? = _
    by_cases h : v = j
    · subst h
      by_cases hl : v < σ.length
      · rw [List.getElem?_set_self (by rw [wipe_length]; exact hl), if_pos ⟨by simp, hl⟩]
      · rw [List.getElem?_eq_none (by rw [List.length_set, wipe_length]; omega), if_neg (fun z => hl z.2), List.getElem?_eq_none (by omega)]
    · rw [List.getElem?_set_ne h, wipe_get σ j vs]
      have e : (j ∈ v :: vs ∧ j < σ.length) ↔ (j ∈ vs ∧ j < σ.length) := by
        constructor
        · rintro ⟨h1, h2⟩
          rcases List.mem_cons.mp h1 with z | z
          · exact absurd z.symm h
          · exact ⟨z, h2⟩
        · rintro ⟨h1, h2⟩
          exact ⟨List.mem_cons_of_mem _ h1, h2⟩
      simp only [e]
theorem wipe_same {σ τ : St} {own : List Nat} (hl : σ.length = τ.length) (h : ∀ j, j ∉ own → σ[j]? = τ[j]?) : L2.wipe σ own = L2.wipe τ own := by
  apply List.ext_getElem?
  intro j
  rw [wipe_get, wipe_get, hl]
  by_cases hj : j ∈ own
  · by_cases h2 : j < τ.length
    · rw [if_pos ⟨hj, h2⟩, if_pos ⟨hj, h2⟩]
    · rw [if_neg (fun z => h2 z.2), if_neg (fun z => h2 z.2), List.getElem?_eq_none (by omega), List.getElem?_eq_none (by omega)]
  · rw [if_neg (fun z => hj z.1), if_neg (fun z => hj z.1), h j hj]
/-- a target of names alone, in a comprehension's block: which slots it stores -/
def TgX (C : Cn) (own : List Nat) (g0 : TG) (f : Tg) : Prop := ∀ ρ H (m : Mem) d v g σ, RepV C ρ H d v → RepE C ρ H g σ →
  match f d g m with
  | .ok g' m' => m' = m ∧ ∃ σ', RepE C ρ H g' σ' ∧ σ'.length = σ.length ∧ (∀ j, j ∉ own → σ'[j]? = σ[j]?) ∧ ∀ Q : St → Hp → Prop, Q σ' H → g0 v σ H Q
  | .exc _ _ => False
  | .bad => True
theorem tx_name {i : Nat} {own : List Nat} (hi : i ∈ own) : TgX C own (gName i) (nmG i) := by
  intro ρ H m d v g σ rv re
  refine ⟨rfl, σ.set i (some v), re.set rv i, by simp, fun j hj => ?_, fun Q q => q⟩
  rw [List.getElem?_set_ne (fun e : i = j => hj (by rw [← e]; exact hi))]
def TgsX (C : Cn) (own : List Nat) (n : Nat) (g0 : TGs) (f : Gs) : Prop := ∀ ρ H (m : Mem) ds vs g σ, RepL C ρ H ds vs → RepE C ρ H g σ →
  match f ds g m with
  | .ok g' m' => m' = m ∧ ds.length = n ∧ ∃ σ', RepE C ρ H g' σ' ∧ σ'.length = σ.length ∧ (∀ j, j ∉ own → σ'[j]? = σ[j]?) ∧ ∀ Q : St → Hp → Prop, Q σ' H → g0 vs σ H Q
  | .exc _ _ => False
  | .bad => True
theorem txs_nil {own : List Nat} : TgsX C own 0 gNil nilG := by
  intro ρ H m ds vs g σ rl re
  cases ds with
  | nil => exact ⟨rfl, rfl, σ, re, rfl, fun _ _ => rfl, fun Q q => ⟨by simpa only [RepL] using rl, q⟩⟩
  | cons d ds => trivial
theorem txs_cons {own : List Nat} {n : Nat} {t0 : TG} {u0 : TGs} {tgs : Gs} (h1 : TgX C own t0 tg) (h2 : TgsX C own n u0 tgs) : TgsX C own (n + 1) (gCons t0 u0) (consG tg tgs) := by
  intro ρ H m ds vs g σ rl re
  cases ds with
  | nil => trivial
  | cons d ds =>
    simp only [RepL] at rl
    obtain ⟨v, r, rfl, r1, r2⟩ := rl
    have a := h1 ρ H m d v g σ r1 re
    simp only [consG]
    cases q : tg d g m with
    | bad => trivial
    | exc c m' => rw [q] at a; exact a.elim
    | ok g1 m1 =>
      rw [q] at a
      obtain ⟨rfl, σ1, re1, l1, k1, c1⟩ := a
      have b := h2 ρ H m1 ds r g1 σ1 r2 re1
      simp only [R.bind_ok]
      cases q2 : tgs ds g1 m1 with
      | bad => trivial
      | exc c m' => rw [q2] at b; exact b.elim
      | ok g2 m2 =>
        rw [q2] at b
        obtain ⟨rfl, hn, σ2, re2, l2, k2, c2⟩ := b
        exact ⟨rfl, by rw [List.length_cons, hn], σ2, re2, l2.trans l1, fun j hj => (k2 j hj).trans (k1 j hj), fun Q q => ⟨v, r, rfl, c1 _ (c2 _ q)⟩⟩
theorem tx_tup {own : List Nat} {n : Nat} {u0 : TGs} {tgs : Gs} (h : TgsX C own n u0 tgs) : TgX C own (gTup C.K n u0) (tupG tgs) := by
  intro ρ H m d v g σ rv re
  cases d with
  | tup ds =>
    obtain ⟨a, xs, e, sq, rl⟩ := rv.tup_sq
    have b := h ρ H m ds xs g σ rl re
    show match tgs ds g m with | .ok g' m' => _ | .exc _ _ => _ | .bad => _
    cases q : tgs ds g m with
    | bad => trivial
    | exc c m' => rw [q] at b; exact b.elim
    | ok g2 m2 =>
      rw [q] at b
      obtain ⟨rfl, hn, σ2, re2, l2, k2, c2⟩ := b
      exact ⟨rfl, σ2, re2, l2, k2, fun Q q => ⟨a, xs, e, sq, by rw [← rl.length]; exact hn, c2 Q q⟩⟩
  | _ => trivial
/-- a list that a comprehension is making is hidden -/
def Rho.hide (ρ : Rho) (a : Addr) : Rho := ⟨ρ.l, a :: ρ.z⟩
def Rho.show (ρ : Rho) (a : Addr) : Rho := ⟨ρ.l, ρ.z.filter fun b => decide (b ≠ a)⟩
theorem lives_hide {ρ : Rho} {a b : Addr} : lives (ρ.hide a) b ↔ b = a ∨ lives ρ b := by
  unfold lives Rho.hide
  simp only [List.mem_cons]
  constructor
  · rintro (h | h | h)
    · exact .inr (.inl h)
    · exact .inl h
    · exact .inr (.inr h)
  · rintro (h | h | h)
    · exact .inr (.inl h)
    · exact .inl h
    · exact .inr (.inr h)
theorem lives_show {ρ : Rho} {a b : Addr} : lives (ρ.show a) b ↔ (b, true) ∈ ρ.l ∨ (b ∈ ρ.z ∧ b ≠ a) := by
  unfold lives Rho.show
  simp [List.mem_filter]
theorem ext_hide {ρ : Rho} {H : Hp} {a : Addr} {o : HO} (h : H a = none) : Ext ρ H (ρ.hide a) (upd H a o) := by
  refine ⟨fun n x q => q, fun b u p n r => ?_, fun b u p n r => ?_, fun b o' z q => ⟨List.mem_cons_of_mem _ z, by rw [upd_ne (ne_of_none q h)]; exact q⟩, (Ext.of_same (ρ := ρ) (same_upd h)).there⟩
  · refine ⟨fun hl => ?_, same_upd h _ _ r⟩
    rcases lives_hide.mp hl with e | e
    · subst e
      rw [h] at r; cases r
    · exact n e
  · refine ⟨fun hl => ?_, Rd.same (same_upd h) r⟩
    rcases lives_hide.mp hl with e | e
    · subst e
      rcases r with r | ⟨_, r⟩ <;> (rw [h] at r; cases r)
    · exact n e
/-- the hidden list grows: nothing that is told speaks of it -/
theorem ext_grow {ρ1 ρ : Rho} {H1 H : Hp} {a : Addr} {o : HO} (x : Ext ρ1 H1 ρ H) (h1 : H1 a = none) (hz : a ∈ ρ.z) : Ext ρ1 H1 ρ (upd H a o) := by
  have na : ∀ b u, Rd H1 b u → b ≠ a := fun b u r e => by
    subst e
    rcases r with r | ⟨_, r⟩ <;> (rw [h1] at r; cases r)
  refine ⟨x.pre, fun b u p n r => ?_, fun b u p n r => ?_, fun b o' z q => ?_, fun b hb => ?_⟩
  · obtain ⟨n', r'⟩ := x.keep b u p n r
    exact ⟨n', by rw [upd_ne (ne_of_none r h1)]; exact r'⟩
  · obtain ⟨n', r'⟩ := x.keepD b u p n r
    refine ⟨n', ?_⟩
    have ne := na b u r
    rcases r' with r' | ⟨ob, r'⟩
    · exact .inl (by rw [upd_ne ne]; exact r')
    · exact .inr ⟨ob, by rw [upd_ne ne]; exact r'⟩
  · obtain ⟨z', q'⟩ := x.lx b o' z q
    exact ⟨z', by rw [upd_ne (ne_of_none q h1)]; exact q'⟩
  · by_cases e : b = a
    · subst e; exact absurd h1 hb
    · rw [upd_ne e]; exact x.there b hb
mutual
theorem RepV.grow {ρ : Rho} {H : Hp} {a : Addr} {o : HO} (hz : a ∈ ρ.z) : ∀ {d : D} {v : V}, RepV C ρ H d v → RepV C ρ (upd H a o) d v
  | .non, _, h => h
  | .bl _, _, h => h
  | .int _, _, h => h
  | .str _, _, h => h
  | .tup ds, v, h => by
    simp only [RepV] at h ⊢
    obtain ⟨b, xs, e, h1, h2⟩ := h
    refine ⟨b, xs, e, ?_, RepL.grow hz h2⟩
    rcases h1 with ⟨n, r⟩ | k
    · have ne : b ≠ a := fun e => n (.inr (e ▸ hz))
      exact .inl ⟨n, by unfold Rd; rw [upd_ne ne]; exact r⟩
    · exact .inr k
  | .tpx ds, v, h => by
    simp only [RepV] at h ⊢
    obtain ⟨b, xs, o', e, n, r, hd, h2⟩ := h
    have ne : b ≠ a := fun e => n (.inr (e ▸ hz))
    exact ⟨b, xs, o', e, n, by rw [upd_ne ne]; exact r, hd, RepL.grow hz h2⟩
  | .lst ds, v, h => by
    simp only [RepV] at h ⊢
    obtain ⟨b, xs, e, n, r, h2⟩ := h
    have ne : b ≠ a := fun e => n (.inr (e ▸ hz))
    exact ⟨b, xs, e, n, by rw [upd_ne ne]; exact r, RepL.grow hz h2⟩
  | .scr ns, v, h => by
    simp only [RepV] at h ⊢
    obtain ⟨b, e, h1⟩ := h
    refine ⟨b, e, ?_⟩
    rcases h1 with ⟨n, ob, r⟩ | k
    · have ne : b ≠ a := fun e => n (.inr (e ▸ hz))
      exact .inl ⟨n, ob, by rw [upd_ne ne]; exact r⟩
    · exact .inr k
  | .dct ks vs, v, h => by
    simp only [RepV] at h ⊢
    obtain ⟨b, xs, e, n, h2, h3⟩ := h
    have ne : b ≠ a := fun e => n (.inr (e ▸ hz))
    have rd : ∀ u, Rd H b u → Rd (upd H a o) b u := fun u r => by
      rcases r with r | ⟨ob, r⟩
      · exact .inl (by rw [upd_ne ne]; exact r)
      · exact .inr ⟨ob, by rw [upd_ne ne]; exact r⟩
    obtain ⟨kk, l, ek, r⟩ := h3
    exact ⟨b, xs, e, n, RepL.grow hz h2, kk, l, ek, rd _ r⟩
  | .gdz ks vs, v, h => by
    simp only [RepV] at h ⊢
    obtain ⟨b, ob, zs, vv, e, n, q, h1, h2, h3, h4⟩ := h
    have ne : b ≠ a := fun e => n (.inr (e ▸ hz))
    exact ⟨b, ob, zs, vv, e, n, by rw [upd_ne ne]; exact q, h1, h2, RepL.grow hz h3, RepL.grow hz h4⟩
  | .ref n, v, h => h
  | .ty _, _, h => h
  | .fn _, _, h => h
  | .exc _, _, h => h
theorem RepL.grow {ρ : Rho} {H : Hp} {a : Addr} {o : HO} (hz : a ∈ ρ.z) : ∀ {ds : List D} {vs : List V}, RepL C ρ H ds vs → RepL C ρ (upd H a o) ds vs
  | [], _, h => h
  | d :: ds, vs, h => by
    simp only [RepL] at h ⊢
    obtain ⟨v, r, e, h1, h2⟩ := h
    exact ⟨v, r, e, RepV.grow hz h1, RepL.grow hz h2⟩
end
theorem RepO.grow {ρ : Rho} {H : Hp} {a b : Addr} {o : HO} {l : Bool} (hz : a ∈ ρ.z) (ne : l = true → b ≠ a) : ∀ {u : MO}, RepO C ρ H b l u → RepO C ρ (upd H a o) b l u
  | .lst ds, h => by
    obtain ⟨e, xs, q, r⟩ := h
    exact ⟨e, xs, by rw [upd_ne (ne e)]; exact q, r.grow hz⟩
  | .dct ks vs, h => by
    obtain ⟨e, xs, r, h⟩ := h
    refine ⟨e, xs, r.grow hz, ?_⟩
    rcases h with ⟨kk, l, ek, q⟩ | ⟨kk, l, ek, q⟩
    · exact .inl ⟨kk, l, ek, by rw [upd_ne (ne e)]; exact q⟩
    · exact .inr ⟨kk, l, ek, by rw [upd_ne (ne e)]; exact q⟩
  | .ins c fs, h => by
    obtain ⟨e, Cc, dx, vs, h1, h2, h3, h4⟩ := h
    exact ⟨e, Cc, dx, vs, h1, h2, by rw [upd_ne (ne e)]; exact h3, h4.grow hz⟩
  | .gd ks vs, h => by
    obtain ⟨e, xs, vv, h1, h2, h3, h4, h5⟩ := h
    exact ⟨e, xs, vv, by rw [upd_ne (ne e)]; exact h1, h2, h3, h4.grow hz, h5.grow hz⟩
  | .gone, h => h
theorem RepM.grow {ρ : Rho} {H : Hp} {m : Mem} {a : Addr} {o : HO} (rm : RepM C ρ H m) (hz : a ∈ ρ.z) : RepM C ρ (upd H a o) m := by
  refine ⟨rm.len, fun n b l u h1 h2 => (rm.obj n b l u h1 h2).grow hz fun e z => ?_, rm.dis, fun b hb => ⟨fun e => ?_, (rm.hid b hb).2⟩⟩
  · subst e z
    exact (rm.hid _ hz).2 (List.mem_of_getElem? h1)
  · by_cases q : b = a
    · subst q; rw [upd_same] at e; cases e
    · rw [upd_ne q] at e; exact (rm.hid b hb).1 e
/-- a new hidden list -/
theorem RepM.hide {ρ : Rho} {H : Hp} {m : Mem} {a : Addr} {o : HO} (rm : RepM C ρ H m) (h : H a = none) : RepM C (ρ.hide a) (upd H a o) m := by
  have x : Ext ρ H (ρ.hide a) (upd H a o) := ext_hide h
  refine ⟨rm.len, fun n b l u h1 h2 => ?_, rm.dis, fun b hb => ?_⟩
  · have ho := rm.obj n b l u h1 h2
    cases u with
    | lst ds =>
      obtain ⟨e, xs, q, r⟩ := ho
      exact ⟨e, xs, same_upd h _ _ q, r.ext x⟩
    | dct ks vs =>
      obtain ⟨e, xs, r, q⟩ := ho
      refine ⟨e, xs, r.ext x, ?_⟩
      rcases q with ⟨kk, l, ek, q⟩ | ⟨kk, l, ek, q⟩
      · exact .inl ⟨kk, l, ek, same_upd h _ _ q⟩
      · exact .inr ⟨kk, l, ek, same_upd h _ _ q⟩
    | ins c fs =>
      obtain ⟨e, Cc, dx, vs, h1, h2, h3, h4⟩ := ho
      exact ⟨e, Cc, dx, vs, h1, h2, same_upd h _ _ h3, h4.ext x⟩
    | gd ks vs =>
      obtain ⟨e, xs, vv, h1, h2, h3, h4, h5⟩ := ho
      exact ⟨e, xs, vv, same_upd h _ _ h1, h2, h3, h4.ext x, h5.ext x⟩
    | gone => exact ho
  · rcases List.mem_cons.mp hb with e | hb
    · subst e
      exact ⟨by rw [upd_same]; exact fun z => (nomatch z), fun z => rm.free_of h (.inl z)⟩
    · obtain ⟨h1, h2⟩ := rm.hid b hb
      exact ⟨by rw [upd_ne (fun e => by subst e; exact h1 h)]; exact h1, h2⟩
/-- shown again -/
theorem ext_show {ρ1 ρ : Rho} {H1 H : Hp} {a : Addr} (x : Ext ρ1 H1 ρ H) (h1 : H1 a = none) : Ext ρ1 H1 (ρ.show a) H := by
  refine ⟨x.pre, fun b u p n r => ?_, fun b u p n r => ?_, fun b o z q => ?_, x.there⟩
  · obtain ⟨n', r'⟩ := x.keep b u p n r
    exact ⟨fun hl => n' ((lives_show.mp hl).elim .inl fun z => .inr z.1), r'⟩
  · obtain ⟨n', r'⟩ := x.keepD b u p n r
    exact ⟨fun hl => n' ((lives_show.mp hl).elim .inl fun z => .inr z.1), r'⟩
  · obtain ⟨z', q'⟩ := x.lx b o z q
    exact ⟨List.mem_filter.mpr ⟨z', decide_eq_true (ne_of_none q h1)⟩, q'⟩
theorem show_ext {ρ : Rho} {H : Hp} {a : Addr} {d : D} {v : V} (h : RepV C ρ H d v) : RepV C (ρ.show a) H d v := by
  have mono : ∀ b, lives (ρ.show a) b → lives ρ b := fun b hl => (lives_show.mp hl).elim .inl fun z => .inr z.1
  exact weak mono (fun _ _ q => q) h
where
  weak {ρ ρ' : Rho} {H : Hp} (mono : ∀ b, lives ρ' b → lives ρ b) (pre : ∀ n b, adr ρ n b → adr ρ' n b) : ∀ {d : D} {v : V}, RepV C ρ H d v → RepV C ρ' H d v
    | .non, _, h => h
    | .bl _, _, h => h
    | .int _, _, h => h
    | .str _, _, h => h
    | .tup ds, v, h => by
      simp only [RepV] at h ⊢
      obtain ⟨b, xs, e, h1, h2⟩ := h
      exact ⟨b, xs, e, h1.imp (fun ⟨n, r⟩ => ⟨fun l => n (mono _ l), r⟩) fun k => k, weakL mono pre h2⟩
    | .tpx ds, v, h => by
      simp only [RepV] at h ⊢
      obtain ⟨b, xs, o, e, n, r, hd, h2⟩ := h
      exact ⟨b, xs, o, e, fun l => n (mono _ l), r, hd, weakL mono pre h2⟩
    | .lst ds, v, h => by
      simp only [RepV] at h ⊢
      obtain ⟨b, xs, e, n, r, h2⟩ := h
      exact ⟨b, xs, e, fun l => n (mono _ l), r, weakL mono pre h2⟩
    | .scr ns, v, h => by
      simp only [RepV] at h ⊢
      obtain ⟨b, e, h1⟩ := h
      exact ⟨b, e, h1.imp (fun ⟨n, r⟩ => ⟨fun l => n (mono _ l), r⟩) fun k => k⟩
    | .dct ks vs, v, h => by
      simp only [RepV] at h ⊢
      obtain ⟨b, xs, e, n, h2, h3⟩ := h
      exact ⟨b, xs, e, fun l => n (mono _ l), weakL mono pre h2, h3⟩
    | .gdz ks vs, v, h => by
      simp only [RepV] at h ⊢
      obtain ⟨b, ob, zs, vv, e, n, q, h1, h2, h3, h4⟩ := h
      exact ⟨b, ob, zs, vv, e, fun l => n (mono _ l), q, h1, h2, weakL mono pre h3, weakL mono pre h4⟩
    | .ref n, v, h => by
      simp only [RepV] at h ⊢
      obtain ⟨b, e, q⟩ := h
      exact ⟨b, e, pre n b q⟩
    | .ty _, _, h => h
    | .fn _, _, h => h
    | .exc _, _, h => h
  weakL {ρ ρ' : Rho} {H : Hp} (mono : ∀ b, lives ρ' b → lives ρ b) (pre : ∀ n b, adr ρ n b → adr ρ' n b) : ∀ {ds : List D} {vs : List V}, RepL C ρ H ds vs → RepL C ρ' H ds vs
    | [], _, h => h
    | d :: ds, vs, h => by
      simp only [RepL] at h ⊢
      obtain ⟨v, r, e, h1, h2⟩ := h
      exact ⟨v, r, e, weak mono pre h1, weakL mono pre h2⟩
theorem show_extL {ρ : Rho} {H : Hp} {a : Addr} {ds : List D} {vs : List V} (h : RepL C ρ H ds vs) : RepL C (ρ.show a) H ds vs := by
  have mono : ∀ b, lives (ρ.show a) b → lives ρ b := fun b hl => (lives_show.mp hl).elim .inl fun z => .inr z.1
  exact show_ext.weakL mono (fun _ _ q => q) h
theorem RepM.show {ρ : Rho} {H : Hp} {m : Mem} {a : Addr} (rm : RepM C ρ H m) : RepM C (ρ.show a) H m := by
  refine ⟨rm.len, fun n b l u h1 h2 => ?_, rm.dis, fun b hb => rm.hid b (List.mem_filter.mp hb).1⟩
  have ho := rm.obj n b l u h1 h2
  cases u with
  | lst ds =>
    obtain ⟨e, xs, q, r⟩ := ho
    exact ⟨e, xs, q, show_extL r⟩
  | dct ks vs =>
    obtain ⟨e, xs, r, q⟩ := ho
    exact ⟨e, xs, show_extL r, q⟩
  | ins c fs =>
    obtain ⟨e, Cc, dx, vs, h1, h2, h3, h4⟩ := ho
    exact ⟨e, Cc, dx, vs, h1, h2, h3, show_extL h4⟩
  | gd ks vs =>
    obtain ⟨e, xs, vv, h1, h2, h3, h4, h5⟩ := ho
    exact ⟨e, xs, vv, h1, h2, h3, show_extL h4, show_extL h5⟩
  | gone => exact ho
/-- by what comes of the first part, all told from one base -/
theorem fin.from {α β : Type} {ρ1 ρ' : Rho} {H1 H' : Hp} {r : R α} {g : α → Mem → R β} {k : β → Mem → Rho → Hp → Prop} {k' : α → Mem → Rho → Hp → Prop} (h : fin C ρ1 H1 W (r.bind g) k) (x : Ext ρ1 H1 ρ' H')
    (f : ∀ a m, fin C ρ1 H1 W (g a m) k → ∀ ρ2 H2, Ext ρ' H' ρ2 H2 → RepM C ρ2 H2 m → k' a m ρ2 H2) : fin C ρ' H' W r k' := by
  cases r with
  | bad => exact h
  | exc c m => exact fun ρ2 H2 x2 rm2 => h ρ2 H2 (x.trans x2) rm2
  | ok a m => exact fun ρ2 H2 x2 rm2 => f a m h ρ2 H2 x2 rm2
theorem lc_of {fi : Ar} {fe : Ex} {own : List Nat} {g0 : TG} (tx : TgX C own g0 tg) (σ : St) (H : Hp) (Q : VK) (h : tD C W (lcE fi own tg t fe) σ H Q) :
    tLc (tDI C W fi) g0 (tDT C W t) (tD C W fe) own σ H Q := by
  obtain ⟨ρ, g, m, re, rm, h⟩ := h
  refine ⟨ρ, g, m, re, rm, h.bind.imp fun ds m1 ρ1 H1 x1 rm1 h1 J wk L hL => ?_⟩
  by_cases hz : ds.length ≤ lim
  case neg => rw [if_neg hz] at h1; exact h1.elim
  rw [if_pos hz] at h1
  have hz' : ds.length ≤ sizeLine := by rw [← lim_eq]; exact hz
  have w0 := (re.ext x1).wipe own
  have x0 : Ext ρ1 H1 (ρ1.hide L) (upd H1 L (.lst [])) := ext_hide hL
  refine ⟨fun i k H' => k = ds.length - i ∧ i ≤ ds.length ∧ ∃ (ρ' : Rho) (m' : Mem) (acc : List D) (xs : List V), Ext ρ1 H1 ρ' H' ∧ L ∈ ρ'.z ∧ H' L = some (.lst xs) ∧ acc.length ≤ i ∧ RepL C ρ' H' acc xs ∧ RepM C ρ' H' m' ∧
      fin C ρ1 H1 W ((lcL tg t fe (wipeD g own) (ds.drop i) m').bind fun ys m2 => .ok (D.lst (acc ++ ys)) m2) (fun d m2 ρ2 H2 => ∀ v, RepV C ρ2 H2 d v → Q v H2),
    ⟨ds.length, by simp, Nat.zero_le _, ρ1.hide L, m1, [], [], x0, List.mem_cons_self, upd_same, Nat.zero_le _, by simp only [RepL], rm1.hide hL, h1⟩, ?_⟩
  rintro i k H' ⟨rfl, hi, ρ', m', acc, xs, x', hLz, hLx, hac, rl, rm', h'⟩
  obtain ⟨w1, w2⟩ := wk ρ' H' i m' x' rm'
  by_cases hlt : i < ds.length
  · obtain ⟨go, yl⟩ := w2 ds[i] (List.getElem?_eq_getElem hlt)
    rw [List.drop_eq_getElem_cons hlt] at h'
    refine .inr ⟨go, fun H2 => ∃ (ρ2 : Rho) (m2 : Mem) (acc2 : List D) (xs2 : List V), Ext ρ1 H1 ρ2 H2 ∧ L ∈ ρ2.z ∧ H2 L = some (.lst xs2) ∧ acc2.length ≤ i + 1 ∧ RepL C ρ2 H2 acc2 xs2 ∧ RepM C ρ2 H2 m2 ∧
      fin C ρ1 H1 W ((lcL tg t fe (wipeD g own) (ds.drop (i + 1)) m2).bind fun ys m2 => .ok (D.lst (acc2 ++ ys)) m2) (fun d m2 ρ2 H2 => ∀ v, RepV C ρ2 H2 d v → Q v H2),
      fun H2 q => ⟨ds.length - (i + 1), by omega, rfl, hlt, q⟩, fun v H2 y => ?_⟩
    obtain ⟨sm, rv⟩ := yl v H2 y
    have xs' : Ext ρ' H' ρ' H2 := .of_same sm
    have re' := w0.ext (x'.trans xs')
    have a := tx ρ' H2 m' ds[i] v (wipeD g own) (L2.wipe σ own) rv re'
    simp only [lcL] at h'
    cases q : tg ds[i] (wipeD g own) m' with
    | bad => rw [q] at h'; exact h'.elim
    | exc c m2 => rw [q] at a; exact a.elim
    | ok g2 m2 =>
      rw [q] at a h'
      obtain ⟨e2, σ2, re2, l2, k2, c2⟩ := a
      subst e2
      have rm2 := rm'.same sm
      simp only [R.bind_ok] at h'
      have asc : ∀ {α β γ : Type} (r : R α) (f : α → Mem → R β) (f' : β → Mem → R γ), (r.bind f).bind f' = r.bind fun a m => (f a m).bind f' := fun r f f' => by cases r <;> rfl
      rw [asc] at h'
      refine c2 _ ⟨?_, ρ', g2, m2, re2, rm2, fin.from h' (x'.trans xs') fun b m4 h4 ρ4 H4 x4 rm4 => ?_⟩
      · rw [wipe_same l2 k2]
        exact (wipe_same (by rw [wipe_length]) fun j hj => by rw [wipe_get, if_neg (fun z => hj z.1)])
      have xa : Ext ρ' H' ρ4 H4 := xs'.trans x4
      cases b with
      | false =>
        obtain ⟨z4, e4⟩ := xa.lx L _ hLz hLx
        exact iteF ⟨ρ4, m4, acc, xs, x'.trans xa, z4, e4, Nat.le_succ_of_le hac, rl.ext xa, rm4, h4⟩
      | true =>
        simp only [if_true] at h4
        rw [asc] at h4
        refine iteT ⟨ρ4, g2, m4, re2.ext x4, rm4, fin.from h4 (x'.trans xa) fun y5 m5 h5 ρ5 H5 x5 rm5 v5 rv5 => ?_⟩
        have xb : Ext ρ' H' ρ5 H5 := xa.trans x5
        obtain ⟨z5, e5⟩ := xb.lx L _ hLz hLx
        have lx : xs.length = acc.length := rl.length.symm
        refine ⟨xs, e5, by omega, ρ5, m5, acc ++ [y5], xs ++ [v5], ext_grow (x'.trans xb) hL z5, z5, upd_same, by simp; omega, ?_, rm5.grow z5, ?_⟩
        · refine RepL.append ((rl.ext xb).grow z5) ?_
          simp only [RepL]
          exact ⟨v5, [], rfl, rv5.grow z5, rfl⟩
        · rw [asc] at h5
          simp only [R.bind_ok] at h5
          simpa only [List.append_assoc, List.singleton_append] using h5
  · have e : i = ds.length := by omega
    refine .inl ⟨w1 e, ?_⟩
    rw [e, List.drop_length] at h'
    simp only [lcL, R.bind_ok, List.append_nil] at h'
    refine h' (ρ'.show L) H' (ext_show x' hL) rm'.show _ ?_
    simp only [RepV]
    refine ⟨L, xs, rfl, fun hl => ?_, hLx, show_extL rl⟩
    rcases lives_show.mp hl with z | z
    · exact (rm'.hid L hLz).2 z
    · exact z.2 rfl
theorem de_lc {elt te iter : Expr} {ifs : List Expr} {scope : Scope} {own : List (Str × Nat)} {g0 : TG} {fi : Ar} {fe : Ex} (hc : X.calm = true) (hN : X.N.Nodup) (hi : DI C W X te iter fi) (ok : BlkOk X.N X.env.scope scope own) (tx : TgX C (own.map (·.2)) g0 tg)
    (hg : ∀ (s : Shared) (H : Hp) (c : Addr) (cl : List (Str × Addr)) (fp : List Addr), PG (X.blk s H scope (compEnvC scope cl c X.env) fp) te g0) (ht : ∀ (s : Shared) (H : Hp) (c : Addr) (cl : List (Str × Addr)) (fp : List Addr), DTs C W (X.blk s H scope (compEnvC scope cl c X.env) fp) ifs t)
    (he : ∀ (s : Shared) (H : Hp) (c : Addr) (cl : List (Str × Addr)) (fp : List Addr), DE C W (X.blk s H scope (compEnvC scope cl c X.env) fp) elt fe) (hs : ∀ x, foldedSetIterable iter X.env x = pure x := by intro _; rfl) :
    DE C W X (.ListComp elt [⟨te, iter, ifs, 0⟩] scope pos) (lcE fi (own.map (·.2)) tg t fe) :=
  PE.imp (pe_lc hc hN hi ok hg ht he hs) (lc_of tx)
theorem ds_setLc {i : Nat} {y : Str} {py : Pos} {elt te iter : Expr} {ifs : List Expr} {scope : Scope} {own : List (Str × Nat)} {spos : Pos} {g0 : TG} {fi : Ar} {fe : Ex} (hc : X.calm = true) (hN : X.N.Nodup) (hy : X.N[i]? = some y) (hyl : X.env.scope.names.lookup y = some .local)
    (hsw : swapsWith (.ListComp elt [⟨te, iter, ifs, 0⟩] scope pos) (some (.Name y py)) spos.line X.env = pure true) (hi : DI C W X te iter fi) (ok : BlkOk X.N X.env.scope scope own) (tx : TgX C (own.map (·.2)) g0 tg)
    (hg : ∀ (s : Shared) (H : Hp) (c : Addr) (cl : List (Str × Addr)) (fp : List Addr), PG (X.blk s H scope (compEnvC scope cl c X.env) fp) te g0) (ht : ∀ (s : Shared) (H : Hp) (c : Addr) (cl : List (Str × Addr)) (fp : List Addr), DTs C W (X.blk s H scope (compEnvC scope cl c X.env) fp) ifs t)
    (he : ∀ (s : Shared) (H : Hp) (c : Addr) (cl : List (Str × Addr)) (fp : List Addr), DE C W (X.blk s H scope (compEnvC scope cl c X.env) fp) elt fe) (hs : ∀ x, foldedSetIterable iter X.env x = pure x := by intro _; rfl) :
    DS C W X (.Assign [.Name y py] (.ListComp elt [⟨te, iter, ifs, 0⟩] scope pos) spos) (asgS (nmG i) (lcE fi (own.map (·.2)) tg t fe)) := by
  refine PS.imp (ps_setLc hc hN hy hyl hsw hi ok hg ht he hs) ?_
  rintro N σ H ⟨ρ, g, m, re, rm, h⟩
  refine lc_of tx σ H _ ⟨ρ, g, m, re, rm, (fin.bind h).imp fun d m1 ρ1 H1 x1 rm1 h1 v r => ?_⟩
  exact fin.now rm1 h1 _ ((re.ext x1).set r i)
end
end LW
/-! LwC: defs by their bodies over data, what goes at their end; things that change: made, frozen. -/
namespace LW
open PySem PySem.Spec PyProof.Rows L2
section
variable {C : Cn} {W : XK} {X : Cx} {a b c : Expr} {fa fb fc : Ex} {t : Ts} {pos : Pos}
theorem de_noX (h : DE C E0 X a fa) : DE C W X a (noX fa) := by
  refine PE.imp h ?_
  rintro σ H Q ⟨ρ, g, m, re, rm, h⟩
  refine ⟨ρ, g, m, re, rm, ?_⟩
  simp only [noX] at h
  cases q : fa g m with
  | ok d m1 => rw [q] at h; exact h
  | exc c m1 => rw [q] at h; exact h.elim
  | bad => rw [q] at h; exact h.elim
theorem dt_noX (h : DT C E0 X a t) : DT C W X a (noXT t) := by
  refine PT.imp h ?_
  rintro σ H Q ⟨ρ, g, m, re, rm, h⟩
  refine ⟨ρ, g, m, re, rm, ?_⟩
  simp only [noXT] at h
  cases q : t g m with
  | ok d m1 => rw [q] at h; exact h
  | exc c m1 => rw [q] at h; exact h.elim
  | bad => rw [q] at h; exact h.elim
theorem takes_E0 {X : Cx} : TakesK X E0 := takes0

/-! ### cutting the memory -/
def Rho.cut (ρ : Rho) (n : Nat) : Rho := ⟨ρ.l.take n, ρ.z⟩
theorem lives_cut {ρ : Rho} {n : Nat} {a : Addr} (h : lives (ρ.cut n) a) : lives ρ a := h.elim (fun h => .inl (List.mem_of_mem_take h)) .inr
mutual
theorem RepV.cut {ρ : Rho} {H : Hp} {n : Nat} : ∀ {d : D} {v : V}, d.cl n = true → RepV C ρ H d v → RepV C (ρ.cut n) H d v
  | .non, _, _, h => h
  | .bl _, _, _, h => h
  | .int _, _, _, h => h
  | .str _, _, _, h => h
  | .tup ds, v, hc, h => by
    simp only [RepV] at h ⊢
    simp only [D.cl] at hc
    obtain ⟨b, xs, e, h1, h2⟩ := h
    exact ⟨b, xs, e, h1.imp (fun ⟨n, r⟩ => ⟨fun l => n (lives_cut l), r⟩) fun k => k, RepL.cut hc h2⟩
  | .tpx ds, v, hc, h => by
    simp only [RepV] at h ⊢
    simp only [D.cl] at hc
    obtain ⟨b, xs, o, e, n, r, hd, h2⟩ := h
    exact ⟨b, xs, o, e, fun l => n (lives_cut l), r, hd, RepL.cut hc h2⟩
  | .lst ds, v, hc, h => by
    simp only [RepV] at h ⊢
    simp only [D.cl] at hc
    obtain ⟨b, xs, e, n, r, h2⟩ := h
    exact ⟨b, xs, e, fun l => n (lives_cut l), r, RepL.cut hc h2⟩
  | .scr ns, v, hc, h => by
    simp only [RepV] at h ⊢
    obtain ⟨b, e, h1⟩ := h
    exact ⟨b, e, h1.imp (fun ⟨n, r⟩ => ⟨fun l => n (lives_cut l), r⟩) fun k => k⟩
  | .dct ks vs, v, hc, h => by
    simp only [RepV] at h ⊢
    simp only [D.cl, Bool.and_eq_true] at hc
    obtain ⟨b, xs, e, n, h2, h3⟩ := h
    exact ⟨b, xs, e, fun l => n (lives_cut l), RepL.cut hc.2 h2, h3⟩
  | .gdz ks vs, v, hc, h => by
    simp only [RepV] at h ⊢
    simp only [D.cl, Bool.and_eq_true] at hc
    obtain ⟨b, ob, zs, vv, e, n, q, h1, h2, h3, h4⟩ := h
    exact ⟨b, ob, zs, vv, e, fun l => n (lives_cut l), q, h1, h2, RepL.cut hc.1 h3, RepL.cut hc.2 h4⟩
  | .ref k, v, hc, h => by
    simp only [RepV] at h ⊢
    simp only [D.cl, decide_eq_true_eq] at hc
    obtain ⟨b, e, l, q⟩ := h
    refine ⟨b, e, l, ?_⟩
    show (ρ.l.take n)[k]? = _
    rw [List.getElem?_take_of_lt hc]
    exact q
  | .ty _, _, _, h => h
  | .fn _, _, _, h => h
  | .exc _, _, _, h => h
theorem RepL.cut {ρ : Rho} {H : Hp} {n : Nat} : ∀ {ds : List D} {vs : List V}, D.clL n ds = true → RepL C ρ H ds vs → RepL C (ρ.cut n) H ds vs
  | [], _, _, h => h
  | d :: ds, vs, hc, h => by
    simp only [RepL] at h ⊢
    simp only [D.clL, Bool.and_eq_true] at hc
    obtain ⟨v, r, e, h1, h2⟩ := h
    exact ⟨v, r, e, RepV.cut hc.1 h1, RepL.cut hc.2 h2⟩
end
theorem RepM.cut {ρ : Rho} {H : Hp} {m : Mem} {n : Nat} (rm : RepM C ρ H m) (hc : (m.take n).all (MO.cl n) = true) : RepM C (ρ.cut n) H (m.take n) := by
  refine ⟨by show (ρ.l.take n).length = _; rw [List.length_take, List.length_take, rm.len], fun k a l o h1 h2 => ?_, fun k j a h1 h2 => ?_, fun a hz => ⟨(rm.hid a hz).1, fun z => (rm.hid a hz).2 (List.mem_of_mem_take z)⟩⟩
  · have h1 : (ρ.l.take n)[k]? = some (a, l) := h1
    have hk : k < n := by
      by_cases hk : k < n
      · exact hk
      · rw [List.getElem?_take_eq_none (by omega)] at h1; cases h1
    have cl : MO.cl n o = true := List.all_eq_true.mp hc o (List.mem_of_getElem? h2)
    rw [List.getElem?_take_of_lt hk] at h1 h2
    have ho := rm.obj k a l o h1 h2
    cases o with
    | lst ds =>
      obtain ⟨e, xs, q, r⟩ := ho
      exact ⟨e, xs, q, r.cut cl⟩
    | dct ks vs =>
      simp only [MO.cl, Bool.and_eq_true] at cl
      obtain ⟨e, xs, r, q⟩ := ho
      exact ⟨e, xs, r.cut cl.2, q⟩
    | ins c fs =>
      obtain ⟨e, Cc, dx, vs, h1, h2, h3, h4⟩ := ho
      exact ⟨e, Cc, dx, vs, h1, h2, h3, h4.cut cl⟩
    | gd ks vs =>
      simp only [MO.cl, Bool.and_eq_true] at cl
      obtain ⟨e, xs, vv, h1, h2, h3, h4, h5⟩ := ho
      exact ⟨e, xs, vv, h1, h2, h3, h4.cut cl.1, h5.cut cl.2⟩
    | gone => exact ho
  · have h1 : (ρ.l.take n)[k]? = some (a, true) := h1
    have h2 : (ρ.l.take n)[j]? = some (a, true) := h2
    have hk : k < n := by
      by_cases hk : k < n
      · exact hk
      · rw [List.getElem?_take_eq_none (by omega)] at h1; cases h1
    have hj : j < n := by
      by_cases hk : j < n
      · exact hk
      · rw [List.getElem?_take_eq_none (by omega)] at h2; cases h2
    rw [List.getElem?_take_of_lt hk] at h1
    rw [List.getElem?_take_of_lt hj] at h2
    exact rm.dis k j a h1 h2
theorem ext_cut {ρ ρ' : Rho} {H H' : Hp} {n : Nat} (x : Ext ρ H ρ' H') (hn : ρ.l.length = n) : Ext ρ H (ρ'.cut n) H' := by
  refine ⟨fun k a h => ?_, fun a u p nl r => ?_, fun a u p nl r => ?_, x.lx, x.there⟩
  · obtain ⟨l, h⟩ := h
    have hk : k < n := by rw [← hn]; exact (List.getElem?_eq_some_iff.mp h).1
    obtain ⟨l', q⟩ := x.pre k a ⟨l, h⟩
    refine ⟨l', ?_⟩
    show (ρ'.l.take n)[k]? = _
    rw [List.getElem?_take_of_lt hk]
    exact q
  · obtain ⟨n', r'⟩ := x.keep a u p nl r
    exact ⟨fun l => n' (lives_cut l), r'⟩
  · obtain ⟨n', r'⟩ := x.keepD a u p nl r
    exact ⟨fun l => n' (lives_cut l), r'⟩

/-! ### a def by its body -/
theorem start_rep {ρ : Rho} {H : Hp} {ds : List D} {vs : List V} {N : List Str} (rl : RepL C ρ H ds vs) : RepE C ρ H (ds.map some ++ List.replicate (N.length - ds.length) none) (L2.start N vs) := by
  unfold L2.start
  refine ⟨by simp [rl.length], fun i d e => ?_⟩
  by_cases hi : i < ds.length
  · rw [List.getElem?_append_left (by simpa using hi), List.getElem?_map] at e
    cases q : ds[i]? with
    | none => rw [q] at e; cases e
    | some d' =>
      rw [q] at e
      have e' : d' = d := Option.some.inj (Option.some.inj e)
      subst e'
      obtain ⟨v, h1, h2⟩ := rl.get q
      refine ⟨v, ?_, h2⟩
      rw [List.getElem?_append_left (by rw [List.length_map, ← rl.length]; exact hi), List.getElem?_map, h1]
      rfl
  · rw [List.getElem?_append_right (by simpa using hi), List.getElem?_replicate] at e
    split at e <;> cases e
theorem body_of {ρ : Rho} {H : Hp} {m : Mem} {ds : List D} {n : Nat} {body : Sm} {Q : VK} {E : XK} (rm : RepM C ρ H m)
    (h : fin C ρ H E (fnS n body ds m) fun d _ ρ' H' => ∀ v, RepV C ρ' H' d v → Q v H') :
    fin C ρ H E (body (ds.map some ++ List.replicate (n - ds.length) none) m) (outK C { nx := fun _ H' => Q .non H', rt := Q }) := by
  unfold fnS at h
  cases q : body (ds.map some ++ List.replicate (n - ds.length) none) m with
  | bad => rw [q] at h; exact h
  | exc c m1 =>
    rw [q] at h
    intro ρ' H' x rm'
    dsimp only at h
    unfold gcX at h
    split at h
    · exact h ρ' H' x rm'
    · split at h
      · rename_i hc
        exact h _ H' (ext_cut x rm.len) (rm'.cut hc)
      · exact h ρ' H' x rm'
  | ok o m1 =>
    rw [q] at h
    have key : ∀ d, fin C ρ H E (gcR m.length d m1) (fun d _ ρ' H' => ∀ v, RepV C ρ' H' d v → Q v H') → ∀ ρ' H', Ext ρ H ρ' H' → RepM C ρ' H' m1 → ∀ v, RepV C ρ' H' d v → Q v H' := fun d h ρ' H' x rm' v rv => by
      unfold gcR at h
      split at h
      · exact h ρ' H' x rm' v rv
      · split at h
        · rename_i hc
          rw [Bool.and_eq_true] at hc
          exact h _ H' (ext_cut x rm.len) (rm'.cut hc.2) v (rv.cut hc.1)
        · exact h ρ' H' x rm' v rv
    cases o with
    | nx g1 => exact fun ρ' H' x rm' σ' re' => key .non h ρ' H' x rm' .non (by simp only [RepV])
    | rt d => exact fun ρ' H' x rm' v rv => key d h ρ' H' x rm' v rv
    | bk g1 => exact h.elim
    | ct g1 => exact h.elim
/-- THE RULE for a def over data -/
theorem fn_ok {P : Program} {w : World} {K : PySem.W.Frag} {mg : Str → Option Value} {base : Heap} {x qual : Str} {st : Stmt} {f : Addr} {fd : FuncData} {N ps : List Str} {k n : Nat} {body : Sm} (F : Fun K x qual st f fd) (S : FnScope N ps (defScope st)) (hn : ps.length = n)
    (hb : ∀ (cdv : Value) (A : Around) (outer : List PySem.Env) (s : Shared) (H : Hp) (E : XK), Room k (A.deeper (envOfC qual (defScope st) s.heap.objs.size f cdv)) →
      DSs C E (cxOf (L2.CX P w) P w K mg base N qual (defScope st) f cdv A outer s H E) (defBody st) body) :
    FnOk P w K mg base (L2.CX P w) (k + 1) f fd ps (spOf C n (fnS N.length body)) := by
  refine F.okX S (fun vs H Q E h => ?_) (fun cdv A outer s H vs Q E hr h => ?_)
  · obtain ⟨ρ, m, ds, hl, rl, _⟩ := h
    rw [← rl.length, hl, hn]
  · obtain ⟨ρ, m, ds, hl, rl, rm, h⟩ := h
    exact ⟨_, hb cdv A outer s H E hr, ρ, _, m, start_rep rl, rm, body_of rm h⟩
end
end LW
/-! LwP: operations on plain data: arithmetic, order, equality, membership, subscripts, slices, built-in functions. Core Lean alone. -/
namespace LW

/-- the list that is read at a value: a list by its contents, the script, a list that changes -/
@[simp] def lstOf (m : Mem) : D → Option (List D)
  | .lst ds => some ds
  | .scr ns => some (ns.map D.int)
  | .ref n => match m[n]? with | some (.lst ds) => some ds | _ => none
  | _ => none
/-- a list or a tuple -/
@[simp] def seqOf (m : Mem) : D → Option (List D)
  | .tup ds => some ds
  | .tpx ds => some ds
  | d => lstOf m d

/-! ### arithmetic -/
def big (i : Int) : Bool := Nat.ble i.natAbs 18446744073709551615
def inR (i : Int) : Bool := Nat.ble i.natAbs 4611686018427387903
def repOk (n : Nat) (j : Int) : Bool := Nat.ble j.natAbs 2147483647 && Nat.ble (n * j.toNat) lim
def powOk (i j : Int) : Bool := decide (0 ≤ j) && Nat.ble j.natAbs 1000000 && Nat.ble i.natAbs 18446744073709551615
theorem ble_of {a b : Nat} (h : a ≤ b) : Nat.ble a b = true := Nat.ble_eq_true_of_le h
theorem big_of {i : Int} (h1 : -10000000000 < i) (h2 : i < 10000000000) : big i = true := ble_of (by omega)
theorem inR_of {i : Int} (h1 : -10000000000 < i) (h2 : i < 10000000000) : inR i = true := ble_of (by omega)
theorem powOk_of {i j : Int} (h1 : 0 ≤ j) (h2 : j ≤ 1000) (h3 : i.natAbs < 10000000000) : powOk i j = true := by
  unfold powOk
  rw [decide_eq_true h1, ble_of (by omega), ble_of (by omega)]
  rfl
theorem repOk_of {n : Nat} {j : Int} (h1 : -1000 < j) (h2 : j < 1000) (h3 : n ≤ 10000) : repOk n j = true := by
  unfold repOk
  have h4 : j.toNat ≤ 1000 := by omega
  have h5 : n * j.toNat ≤ 10000 * 1000 := Nat.mul_le_mul h3 h4
  rw [ble_of (by omega), ble_of (show n * j.toNat ≤ lim by unfold lim; omega)]
  rfl
theorem big_le {i : Int} (h : big i = true) : i.natAbs ≤ 18446744073709551615 := Nat.le_of_ble_eq_true h
theorem inR_le {i : Int} (h : inR i = true) : i.natAbs ≤ 4611686018427387903 := Nat.le_of_ble_eq_true h
theorem repOk_le {n : Nat} {j : Int} (h : repOk n j = true) : j.natAbs ≤ 2147483647 ∧ n * j.toNat ≤ lim := by
  unfold repOk at h
  rw [Bool.and_eq_true] at h
  exact ⟨Nat.le_of_ble_eq_true h.1, Nat.le_of_ble_eq_true h.2⟩
theorem powOk_le {i j : Int} (h : powOk i j = true) : 0 ≤ j ∧ j.natAbs ≤ 1000000 ∧ i.natAbs ≤ 18446744073709551615 := by
  unfold powOk at h
  rw [Bool.and_eq_true, Bool.and_eq_true] at h
  exact ⟨of_decide_eq_true h.1.1, Nat.le_of_ble_eq_true h.1.2, Nat.le_of_ble_eq_true h.2⟩
@[simp] def addD : Op := fun _ x y => match x, y with
  | .int i, .int j => some (.int (i + j))
  | .str a, .str b => if a.length + b.length ≤ lim then some (.str (a ++ b)) else none
  | .tup a, .tup b => if a.length + b.length ≤ lim then some (.tup (a ++ b)) else none
  | .lst a, .lst b => if a.length + b.length ≤ lim then some (.lst (a ++ b)) else none
  | _, _ => none
@[simp] def subD : Op := fun _ x y => match x, y with
  | .int i, .int j => some (.int (i - j))
  | _, _ => none
@[simp] def mulD : Op := fun _ x y => match x, y with
  | .int i, .int j => if big i || big j then some (.int (i * j)) else none
  | .str a, .int j => if repOk a.length j then some (.str (List.replicate j.toNat a).flatten) else none
  | .lst a, .int j => if repOk a.length j then some (.lst (List.replicate j.toNat a).flatten) else none
  | _, _ => none
@[simp] def modD : Op := fun _ x y => match x, y with
  | .int i, .int j => if 0 < j then some (.int (i % j)) else none
  | _, _ => none
@[simp] def powD : Op := fun _ x y => match x, y with
  | .int i, .int j => if powOk i j then some (.int (i ^ j.toNat)) else none
  | _, _ => none
@[simp] def negD : Un := fun _ x => match x with | .int i => some (.int (-i)) | _ => none

/-! ### order, equality, membership -/
@[simp] def ltD : Op := fun _ x y => match x, y with
  | .int i, .int j => some (.bl (decide (i < j)))
  | .str a, .str b => some (.bl (decide (a < b)))
  | _, _ => none
@[simp] def leD : Op := fun _ x y => match x, y with
  | .int i, .int j => some (.bl (decide (i ≤ j)))
  | .str a, .str b => some (.bl (!decide (b < a)))
  | _, _ => none
@[simp] def gtD : Op := fun _ x y => match x, y with
  | .int i, .int j => some (.bl (decide (j < i)))
  | _, _ => none
@[simp] def geD : Op := fun _ x y => match x, y with
  | .int i, .int j => some (.bl (decide (j ≤ i)))
  | _, _ => none
mutual
/-- data that == looks through: k levels at most -/
def D.sh : Nat → D → Bool
  | _, .non => true
  | _, .bl _ => true
  | _, .int _ => true
  | _, .str _ => true
  | k + 1, .tup ds => D.shL k ds
  | k + 1, .lst ds => D.shL k ds
  | _, _ => false
def D.shL : Nat → List D → Bool
  | _, [] => true
  | k, d :: ds => D.sh k d && D.shL k ds
end
mutual
def D.eqv : D → D → Bool
  | .non, .non => true
  | .bl a, .bl b => a == b
  | .bl a, .int j => (if a then 1 else 0) == j
  | .int i, .bl b => i == (if b then 1 else 0)
  | .int i, .int j => i == j
  | .str x, .str y => x == y
  | .lst xs, .lst ys => D.eqvL xs ys
  | .tup xs, .tup ys => D.eqvL xs ys
  | _, _ => false
def D.eqvL : List D → List D → Bool
  | [], [] => true
  | x :: xs, y :: ys => D.eqv x y && D.eqvL xs ys
  | _, _ => false
end
/-- lists that change and the script, by what they hold now -/
@[simp] def D.now (m : Mem) : D → D
  | .tpx ds => .tup ds
  | .scr ns => .lst (ns.map D.int)
  | .ref n => match m[n]? with | some (.lst ds) => .lst ds | _ => .ref n
  | d => d
@[simp] def eqD : Op := fun m x y => if D.sh 9 (x.now m) && D.sh 9 (y.now m) then some (.bl (D.eqv (x.now m) (y.now m))) else none
@[simp] def neD : Op := fun m x y => if D.sh 9 (x.now m) && D.sh 9 (y.now m) then some (.bl (!D.eqv (x.now m) (y.now m))) else none
/-- flat things -/
@[simp] def D.flat : D → Bool
  | .non => true | .bl _ => true | .int _ => true | .str _ => true | _ => false
@[simp] def inD : Op := fun m x y => match x, y with
  | .str [c], .str s => some (.bl (decide (c ∈ s)))
  | x, y => match seqOf m y with
    | some ds => if x.flat && ds.all D.flat then some (.bl (ds.any fun d => D.eqv d x)) else none
    | none => none
@[simp] def notInD : Op := fun m x y => match inD m x y with | some (.bl b) => some (.bl (!b)) | _ => none
@[simp] def D.isN : D → Bool
  | .non => true | _ => false
@[simp] def isND : Op := fun _ x y => match y with | .non => some (.bl x.isN) | _ => none
@[simp] def isNotND : Op := fun _ x y => match y with | .non => some (.bl (!x.isN)) | _ => none

/-! ### subscripts, slices -/
def ixD (n : Nat) (i : Int) : Option Nat := if 0 ≤ i then (if i < n then some i.toNat else none) else if -(n : Int) ≤ i then some (i + n).toNat else none
@[simp] def getD : Op := fun m x y => match y with
  | .int i => match x with
    | .str s => (ixD s.length i).bind fun j => (s[j]?).map fun c => .str [c]
    | x => match seqOf m x with
      | some ds => (ixD ds.length i).bind fun j => ds[j]?
      | none => none
  | _ => none
def sIxD (n d : Nat) : Option Int → Nat
  | none => d
  | some v => if v < 0 then (v + (n : Int)).toNat else min v.toNat n
def cutD {α : Type} (xs : List α) (lo hi : Option Int) : List α := (xs.drop (sIxD xs.length 0 lo)).take (sIxD xs.length xs.length hi - sIxD xs.length 0 lo)
abbrev Sl := Mem → D → Option Int → Option Int → Option D
@[simp] def slD : Sl := fun m x lo hi => match x with
  | .str s => some (.str (cutD s lo hi))
  | .tup ds => some (.tup (cutD ds lo hi))
  | .tpx ds => some (.tup (cutD ds lo hi))
  | x => (lstOf m x).map fun ds => .lst (cutD ds lo hi)
abbrev Op1 := Env → Mem → R (Option Int)
@[simp] def noO : Op1 := fun _ m => .ok none m
@[simp] def someO (a : Ex) : Op1 := fun g m => (a g m).bind fun x m1 => match x with | .int i => .ok (some i) m1 | _ => .bad
@[simp] def slE (f : Sl) (a : Ex) (lo hi : Op1) : Ex := fun g m => (a g m).bind fun x m1 => (lo g m1).bind fun l m2 => (hi g m2).bind fun h m3 => opt (f m3 x l h) m3

/-! ### built-in functions -/
@[simp] def lenB : Bf := fun m xs => match xs with
  | [.str s] => some (.int s.length)
  | [x] => (seqOf m x).map fun ds => .int ds.length
  | _ => none
/-- the type's name -/
@[simp] def D.tyN (m : Mem) : D → Option String
  | .non => some "NoneType" | .bl _ => some "bool" | .int _ => some "int" | .str _ => some "str" | .tup _ => some "tuple" | .tpx _ => some "tuple" | .lst _ => some "list" | .scr _ => some "list"
  | .ref n => match m[n]? with | some (.lst _) => some "list" | some (.dct _ _) => some "dict" | _ => none
  | _ => none
@[simp] def isD (t : String) : Un := fun m x => (x.tyN m).map fun n => .bl (n == t || (n == "bool" && t == "int"))
@[simp] def allB : Bf := fun m xs => match xs with
  | [x] => match lstOf m x with
    | some ds => if ds.all (fun d => match d with | .bl _ => true | _ => false) then some (.bl (ds.all fun d => match d with | .bl b => b | _ => false)) else none
    | none => none
  | _ => none
@[simp] def strsOf : List D → Option (List (List Nat))
  | [] => some []
  | .str s :: r => (strsOf r).map fun l => s :: l
  | _ => none
@[simp] def intsOf : List D → Option (List Int)
  | [] => some []
  | .int i :: r => (intsOf r).map fun l => i :: l
  | _ => none
@[simp] def sumB : Bf := fun m xs => match xs with
  | [x] => match lstOf m x with | some ds => (intsOf ds).map fun ns => .int ns.sum | none => none
  | _ => none
/-- list(x), a new list by its contents -/
@[simp] def listB : Bf := fun m xs => match xs with
  | [.str s] => some (.lst (s.map fun c => .str [c]))
  | [x] => (seqOf m x).map fun ds => .lst ds
  | _ => none
@[simp] def tupleB : Bf := fun m xs => match xs with
  | [x] => (seqOf m x).map fun ds => .tup ds
  | _ => none
@[simp] def intB : Bf := fun _ xs => match xs with
  | [.int i] => some (.int i)
  | [.bl b] => some (.int (if b then 1 else 0))
  | _ => none
def joinL (s : List Nat) : List (List Nat) → List Nat
  | [] => []
  | [p] => p
  | p :: q :: r => p ++ s ++ joinL s (q :: r)
def joinD : Op := fun m x y => match x with
  | .str s => match seqOf m y with
    | some ds => match strsOf ds with
      | some ps => if (ps.map List.length).sum + ps.length * s.length ≤ lim then some (.str (joinL s ps)) else none
      | none => none
    | none => none
  | _ => none
/-- a list without what came before, in its order -/
def dedup {α : Type} [DecidableEq α] : List α → List α
  | [] => []
  | x :: r => x :: (dedup r).filter fun y => decide (y ≠ x)
/-- len(set(text)) -/
@[simp] def lenSetD : Un := fun _ x => match x with
  | .str s => if s.length < 4000 then some (.int (dedup s).length) else none
  | _ => none
/-! ### what is walked -/
@[simp] def itS (a : Ex) : Ar := fun g m => (a g m).bind fun x m1 => match x with
  | .str s => .ok (s.map fun c => .str [c]) m1
  | _ => .bad
@[simp] def itL (a : Ex) : Ar := fun g m => (a g m).bind fun x m1 => match x with
  | .lst ds => .ok ds m1
  | _ => .bad
@[simp] def itT (a : Ex) : Ar := fun g m => (a g m).bind fun x m1 => match x with
  | .tup ds => .ok ds m1
  | .tpx ds => .ok ds m1
  | _ => .bad
/-- what is walked, by what it is -/
@[simp] def itA (a : Ex) : Ar := fun g m => (a g m).bind fun x m1 => match x with
  | .str s => .ok (s.map fun c => .str [c]) m1
  | .lst ds => .ok ds m1
  | .tup ds => .ok ds m1
  | .tpx ds => .ok ds m1
  | _ => .bad
@[simp] def itR1 (a : Ex) : Ar := fun g m => (a g m).bind fun x m1 => match x with
  | .int j => if inR j then .ok ((List.range j.toNat).map fun (k : Nat) => .int k) m1 else .bad
  | _ => .bad
@[simp] def itR2 (a b : Ex) : Ar := fun g m => (a g m).bind fun x m1 => (b g m1).bind fun y m2 => match x, y with
  | .int i, .int j => if inR i && inR j then .ok ((List.range (j - i).toNat).map fun (k : Nat) => .int (i + k)) m2 else .bad
  | _, _ => .bad

/-! ### things that change -/
/-- a list that is to change is made -/
@[simp] def newE (a : Ex) : Ex := fun g m => (a g m).bind fun x m1 => match x with
  | .lst ds => .ok (.ref m1.length) (m1 ++ [.lst ds])
  | _ => .bad
/-- a list's method that changes it: what it hands back, what the list is then -/
abbrev Mt := List D → List D → Option (D × List D)
@[simp] def mtE (f : Mt) (a : Ex) (r : Ar) : Ex := fun g m => (a g m).bind fun x m1 => match x with
  | .ref n => match m1[n]? with
    | some (.lst _) => (r g m1).bind fun ys m2 => match m2[n]? with
      | some (.lst ds) => match f ds ys with
        | some (d, ds') => .ok d (m2.set n (.lst ds'))
        | none => .bad
      | _ => .bad
    | _ => .bad
  | _ => .bad
@[simp] def appM : Mt := fun ds ys => match ys with
  | [y] => if ds.length < lim then some (.non, ds ++ [y]) else none
  | _ => none
@[simp] def extM : Mt := fun ds ys => match ys with
  | [.lst es] => if ds.length + es.length ≤ lim then some (.non, ds ++ es) else none
  | _ => none
@[simp] def popM : Mt := fun ds ys => match ys with
  | [] => match ds[ds.length - 1]? with | some d => some (d, ds.dropLast) | none => none
  | _ => none
@[simp] def popAtM : Mt := fun ds ys => match ys with
  | [.int i] => if ds.length ≤ lim then match ixD ds.length i with
    | some k => match ds[k]? with | some d => some (d, ds.eraseIdx k) | none => none
    | none => none else none
  | _ => none
@[simp] def revM : Mt := fun ds ys => match ys with
  | [] => some (.non, ds.reverse)
  | _ => none
/-- from here on the list at a slot does not change -/
@[simp] def frzS (i : Nat) : Sm := fun g m => match g[i]? with
  | some (some (.ref n)) => match m[n]? with
    | some (.lst ds) => .ok (.nx (g.set i (some (.lst ds)))) (m.set n .gone)
    | _ => .bad
  | _ => .bad
/-- {a: b, c: d}.get(k, x) of texts -/
@[simp] def dlook (k : List Nat) : List D → List D → Option D
  | .str q :: ks, v :: vs => match dlook k ks vs with | some w => some w | none => if q = k then some v else none
  | _, _ => none
/-- a method of a text with one argument -/
@[simp] def sopE (f : Op) (a b : Ex) : Ex := fun g m => (a g m).bind fun x m1 => match x with
  | .str _ => (b g m1).bind fun y m2 => opt (f m2 x y) m2
  | _ => .bad
/-- {k1: v1, k2: v2}.get(k, x), all keys texts -/
@[simp] def dget2E (k1 v1 k2 v2 k x : Ex) : Ex := fun g m => (k1 g m).bind fun a m1 => (v1 g m1).bind fun b m2 => (k2 g m2).bind fun c m3 => (v2 g m3).bind fun d m4 =>
  match a, c with
  | .str a, .str c => (k g m4).bind fun q m5 => (x g m5).bind fun z m6 => match q with
    | .str q => .ok (if q = c then d else if q = a then b else z) m6
    | .non => .ok z m6
    | _ => .bad
  | _, _ => .bad
/-! ### zip, enumerate -/
@[simp] def srcOf : D → Option (List D)
  | .str s => some (s.map fun c => .str [c])
  | .lst ds => some ds
  | .tup ds => some ds
  | .tpx ds => some ds
  | _ => none
def zipD (xs ys : List D) : List D := List.zipWith (fun a b => D.tup [a, b]) xs ys
@[simp] def itZ (a b : Ex) : Ar := fun g m => (a g m).bind fun x m1 => (b g m1).bind fun y m2 => match srcOf x with
  | some xs => match srcOf y with
    | some ys => .ok (zipD xs ys) m2
    | none => .bad
  | none => .bad
/-! ### refusals, tables of defs -/
/-- try: .. except .. as e: return which(e) -/
@[simp] def tryS (ix : String → Option Nat) (b : Sm) : Sm := fun g m => match b g m with
  | .exc c m1 => match ix c with
    | some j => .ok (.rt (.tup [.str [114, 101, 102, 117, 115, 101, 100], .int j])) m1
    | none => .bad
  | r => r
/-- a call of what an expression gives, one of a table's defs -/
@[simp] def callX (tbl : String → Option Fn) (c : Ex) (a : Ar) : Ex := fun g m => (c g m).bind fun x m1 => match x with
  | .fn n => match tbl n with
    | some F => (a g m1).bind fun xs m2 => F xs m2
    | none => .bad
  | _ => .bad
/-- list(range(n)) -/
@[simp] def lrE (a : Ex) : Ex := fun g m => (a g m).bind fun x m1 => match x with
  | .int j => if inR j && Nat.ble j.toNat lim then .ok (.lst ((List.range j.toNat).map fun (k : Nat) => .int k)) m1 else .bad
  | _ => .bad
/-! ### dicts of whole numbers -/
/-- (a, b): a tuple of which all is known -/
@[simp] def tpxE (a : Ar) : Ex := fun g m => (a g m).bind fun xs m1 => if xs.length ≤ lim then .ok (.tpx xs) m1 else .bad
def pairsOf : List D → Option (List (Int × D))
  | [] => some []
  | .tup [.int i, v] :: r => (pairsOf r).map fun l => (i, v) :: l
  | _ => none
/-- dict(pairs), the numbers all unlike -/
def dictB : Bf := fun _ xs => match xs with
  | [.tpx ds] => match pairsOf ds with
    | some l => if (l.map (·.1)).Nodup then some (.dct (l.map fun p => .int p.1) (l.map (·.2))) else none
    | none => none
  | _ => none
def dfind (i : Int) : List D → List D → Option D
  | .int j :: ks, v :: vs => if j = i then some v else dfind i ks vs
  | _ :: ks, _ :: vs => dfind i ks vs
  | _, _ => none
/-- book.get(number) -/
def get1D : Op := fun _ x y => match x, y with
  | .dct ks vs, .int i => some ((dfind i ks vs).getD .non)
  | _, _ => none
/-- a dict's method with one argument -/
@[simp] def dopE (f : Op) (a b : Ex) : Ex := fun g m => (a g m).bind fun x m1 => match x with
  | .dct _ _ => (b g m1).bind fun y m2 => opt (f m2 x y) m2
  | _ => .bad
def enumD (xs : List D) : List D := List.zipWith (fun (k : Nat) d => D.tup [.int k, d]) (List.range xs.length) xs
@[simp] def itE (a : Ex) : Ar := fun g m => (a g m).bind fun x m1 => match x with
  | .str s => .ok (enumD (s.map fun c => .str [c])) m1
  | .lst ds => .ok (enumD ds) m1
  | _ => .bad
end LW
/-! LwO: the operations on data agree with the layer's rules. -/
namespace LW
open PySem PySem.Spec PyProof.Rows L2
section
variable {C : Cn} {W : XK} {X : Cx} {ρ : Rho} {H : Hp} {m : Mem}

theorem RepV.str_at {s : List Nat} {v : V} (h : RepV C ρ H (.str s) v) : v = .str ⟨s.toArray⟩ ∧ s.length ≤ lim ∧ ∀ c ∈ s, c < 1114112 := by simpa only [RepV] using h
theorem RepV.int_at {i : Int} {v : V} (h : RepV C ρ H (.int i) v) : v = .int i := by simpa only [RepV] using h
theorem RepV.bl_at {b : Bool} {v : V} (h : RepV C ρ H (.bl b) v) : v = .bl b := by simpa only [RepV] using h
theorem RepV.non_at {v : V} (h : RepV C ρ H .non v) : v = .non := by simpa only [RepV] using h
theorem RepV.ty_at {n : String} {v : V} (h : RepV C ρ H (.ty n) v) : v = .ty n := by simpa only [RepV] using h
theorem rv_int {i : Int} : RepV C ρ H (.int i) (.int i) := by simp only [RepV]
theorem rv_bl {b : Bool} : RepV C ρ H (.bl b) (.bl b) := by simp only [RepV]
theorem rv_non : RepV C ρ H .non .non := by simp only [RepV]
theorem rv_str {s : List Nat} (hl : s.length ≤ lim) (hc : ∀ c ∈ s, c < 1114112) : RepV C ρ H (.str s) (.str ⟨s.toArray⟩) := by simp only [RepV]; exact ⟨trivial, hl, hc⟩
theorem str_app (a b : List Nat) : (⟨a.toArray⟩ : Str) ++ (⟨b.toArray⟩ : Str) = ⟨(a ++ b).toArray⟩ := TL.ext_tl (by rw [TL.tl_append] <;> rfl)
theorem str_len (a : List Nat) : (⟨a.toArray⟩ : Str).length = a.length := by rw [TL.len_tl] <;> rfl
theorem mem_repl {α : Type} {a : List α} {n : Nat} {c : α} (h : c ∈ (List.replicate n a).flatten) : c ∈ a := by
  obtain ⟨l, hl, hc⟩ := List.mem_flatten.mp h
  rw [(List.mem_replicate.mp hl).2] at hc
  exact hc
theorem len_repl {α : Type} (a : List α) (n : Nat) : (List.replicate n a).flatten.length = n * a.length := by
  induction n with
  | zero => simp
  | succ n ih => rw [List.replicate_succ, List.flatten_cons, List.length_append, ih, Nat.succ_mul, Nat.add_comm]
theorem RepL.repl {ds : List D} {vs : List V} (h : RepL C ρ H ds vs) : ∀ n : Nat, RepL C ρ H (List.replicate n ds).flatten (List.replicate n vs).flatten
  | 0 => by simp only [List.replicate_zero, List.flatten_nil, RepL]
  | n + 1 => by
    rw [List.replicate_succ, List.replicate_succ, List.flatten_cons, List.flatten_cons]
    exact RepL.append h (RepL.repl h n)

/-! ### + - * % ** -/
abbrev rAdd4 (K : PySem.W.Frag) : R2 := fun x y H Q => (rI0 fun i j => .int (i + j)) x y H Q ∨ ((∃ i j, x = .str i ∧ y = .str j ∧ i.length + j.length ≤ sizeLine ∧ Q (.str (i ++ j)) H) ∨ (rCatA K x y H Q ∨ rCat x y H Q))
theorem or_add : OpR X (binaryOp .Add) (rAdd4 X.K) := op_add.or (op_add_str.or (op_catA.or op_cat))
theorem os_add : OpS C (rAdd4 C.K) addD := by
  intro ρ H m d1 d2 v1 v2 d Q rm r1 r2 e q
  cases d1 with
  | int i =>
    cases d2 with
    | int j =>
      cases e
      exact .inl ⟨i, j, r1.int_at, r2.int_at, q _ H (Same.refl H) rv_int⟩
    | _ => cases e
  | str a =>
    cases d2 with
    | str b =>
      simp only [addD] at e
      split at e
      · rename_i hz
        cases e
        obtain ⟨e1, l1, c1⟩ := r1.str_at
        obtain ⟨e2, l2, c2⟩ := r2.str_at
        refine .inr (.inl ⟨_, _, e1, e2, by rw [str_len, str_len, ← lim_eq]; exact hz, ?_⟩)
        rw [str_app]
        refine q _ H (Same.refl H) (rv_str (by rw [List.length_append]; exact hz) fun c hc => ?_)
        rcases List.mem_append.mp hc with z | z
        · exact c1 c z
        · exact c2 c z
      · cases e
    | _ => cases e
  | tup a =>
    cases d2 with
    | tup b =>
      simp only [addD] at e
      split at e
      · rename_i hz
        cases e
        obtain ⟨p1, xs, e1, s1, l1⟩ := r1.tup_sq
        obtain ⟨p2, ys, e2, s2, l2⟩ := r2.tup_sq
        refine .inr (.inr (.inl ⟨p1, p2, xs, ys, e1, e2, s1, s2, by rw [← l1.length, ← l2.length, ← lim_eq]; exact hz, fun hx => ?_, fun hx hy => ?_, fun hx hy p hp => ?_⟩))
        · have : a = [] := by
            have := l1.length
            rw [hx] at this
            exact List.length_eq_zero_iff.mp this
          subst this
          rw [← e2]
          exact q _ H (Same.refl H) r2
        · have : b = [] := by
            have := l2.length
            rw [hy] at this
            exact List.length_eq_zero_iff.mp this
          subst this
          rw [List.append_nil] at q
          rw [← e1]
          exact q _ H (Same.refl H) r1
        · exact q _ _ (same_upd hp) (rep_tup rm hp (l1.append l2))
      · cases e
    | _ => cases e
  | lst a =>
    cases d2 with
    | lst b =>
      simp only [addD] at e
      split at e
      · rename_i hz
        cases e
        obtain ⟨p1, xs, e1, n1, s1, l1⟩ := r1.lst_at
        obtain ⟨p2, ys, e2, n2, s2, l2⟩ := r2.lst_at
        exact .inr (.inr (.inr ⟨p1, p2, xs, ys, e1, e2, s1, s2, by rw [← l1.length, ← l2.length, ← lim_eq]; exact hz, fun p hp => q _ _ (same_upd hp) (rep_lst rm hp (l1.append l2))⟩))
      · cases e
    | _ => cases e
  | _ => cases d2 <;> cases e
theorem os_sub : OpS C (rI0 fun i j => .int (i - j)) subD := by
  intro ρ H m d1 d2 v1 v2 d Q rm r1 r2 e q
  cases d1 with
  | int i =>
    cases d2 with
    | int j =>
      cases e
      exact ⟨i, j, r1.int_at, r2.int_at, q _ H (Same.refl H) rv_int⟩
    | _ => cases e
  | _ => cases d2 <;> cases e
/-- s * n -/
def rMulS : R2 := fun x y H Q => ∃ z n, x = .str z ∧ y = .int n ∧ n < 2 ^ 31 ∧ -(2 ^ 63) ≤ n ∧ z.length * n.toNat ≤ sizeLine ∧ Q (.str ⟨(List.replicate n.toNat z.cps.toList).flatten.toArray⟩) H
theorem repl_cps (z : Str) (n : Nat) : ((List.replicate n z.cps).foldl (· ++ ·) #[]) = (List.replicate n z.cps.toList).flatten.toArray := by
  have key : ∀ (n : Nat) (acc : Array Nat), (List.replicate n z.cps).foldl (· ++ ·) acc = acc ++ (List.replicate n z.cps.toList).flatten.toArray := by
    intro n
    induction n with
    | zero => intro acc; simp
    | succ n ih =>
      intro acc
      rw [List.replicate_succ, List.foldl_cons, ih, List.replicate_succ, List.flatten_cons]
      apply Array.toList_inj.mp
      simp
  rw [key]; simp
theorem or_mulS : OpR X (binaryOp .Mult) rMulS := by
  intro pins s σ H x y v u Q I rx ry h
  obtain ⟨z, n, rfl, rfl, h1, h0, hz, q⟩ := h
  obtain ⟨t, rfl⟩ := rx
  obtain ⟨t', rfl⟩ := ry
  have hs : sizeLine = 16777216 := sizeLine_eq
  refine PySem.P.mul_str ?_ ?_ ?_ ?_
  · rw [decide_eq_false (by omega), decide_eq_false (by omega)] <;> rfl
  · intro hn _ hb
    have hle : (z.length : Int) ≤ 16777216 := by
      have : z.length * 1 ≤ z.length * n.toNat := Nat.mul_le_mul_left _ (by omega)
      omega
    have h2 : (2 ^ 63 - 1 : Int) / n ≥ 16777216 := by
      have hn0 : (0 : Int) < n := by omega
      exact (Int.le_ediv_iff_mul_le hn0).mpr (by omega)
    omega
  · intro _ _
    unfold Builtin.Str.tooLong
    simp only [gt_iff_lt, decide_eq_false_iff_not]
    omega
  · by_cases c1 : n < 1
    · rw [if_pos c1]
      have e0 : n.toNat = 0 := by omega
      rw [e0] at q
      exact ⟨by decide, ⟨.str Str.empty, H, I.tok _, ⟨_, rfl⟩, q⟩⟩
    · rw [if_neg c1]
      by_cases c2 : (n == 1 || z.length == 0) = true
      · rw [if_pos c2]
        have ez : (⟨(List.replicate n.toNat z.cps.toList).flatten.toArray⟩ : Str) = z := by
          apply TL.ext_tl
          show (List.replicate n.toNat z.cps.toList).flatten = z.cps.toList
          rw [Bool.or_eq_true] at c2
          rcases c2 with c2 | c2
          · have : n = 1 := by simpa using c2
            subst this
            simp
          · have e0 : z.cps.toList = [] := (TL.len0_tl z).mp (by simpa using c2)
            rw [e0]
            simp
        rw [ez] at q
        exact ⟨.str z, H, I, ⟨_, rfl⟩, q⟩
      · rw [if_neg c2]
        refine ⟨?_, ?_⟩
        · rw [repl_cps]
          show (⟨(List.replicate n.toNat z.cps.toList).flatten.toArray⟩ : Str).length ≤ sizeLine
          rw [str_len, len_repl, Nat.mul_comm]
          have e5 : z.cps.toList.length = z.length := (TL.len_tl z).symm
          rw [e5]
          exact hz
        · rw [repl_cps]
          exact ⟨.str _, H, I.tok _, ⟨_, rfl⟩, q⟩

abbrev rMul3 : R2 := fun x y H Q => (rI CMul fun i j => .int (i * j)) x y H Q ∨ (rMulS x y H Q ∨ rRep x y H Q)
theorem or_mul : OpR X (binaryOp .Mult) rMul3 := op_mul.or (or_mulS.or op_rep)
theorem os_mul : OpS C rMul3 mulD := by
  intro ρ H m d1 d2 v1 v2 d Q rm r1 r2 e q
  have hs : sizeLine = 16777216 := sizeLine_eq
  have hlim : lim = 16777216 := rfl
  cases d1 with
  | int i =>
    cases d2 with
    | int j =>
      simp only [mulD] at e
      split at e
      · rename_i hb
        cases e
        refine .inl ⟨i, j, r1.int_at, r2.int_at, ?_, q _ H (Same.refl H) rv_int⟩
        rw [Bool.or_eq_true] at hb
        rcases hb with h1 | h1
        · have h2 := big_le h1
          exact .inl ⟨by omega, by omega⟩
        · have h2 := big_le h1
          exact .inr ⟨by omega, by omega⟩
      · cases e
    | _ => cases e
  | str a =>
    cases d2 with
    | int j =>
      simp only [mulD] at e
      split at e
      · rename_i hb
        cases e
        have hb := repOk_le hb
        obtain ⟨e1, l1, c1⟩ := r1.str_at
        refine .inr (.inl ⟨_, j, e1, r2.int_at, by omega, by omega, by rw [str_len]; omega, ?_⟩)
        exact q _ H (Same.refl H) (rv_str (by rw [len_repl, Nat.mul_comm]; exact hb.2) fun c hc => c1 c (mem_repl hc))
      · cases e
    | _ => cases e
  | lst a =>
    cases d2 with
    | int j =>
      simp only [mulD] at e
      split at e
      · rename_i hb
        cases e
        have hb := repOk_le hb
        obtain ⟨p1, xs, e1, n1, s1, l1⟩ := r1.lst_at
        exact .inr (.inr ⟨p1, j, xs, e1, r2.int_at, s1, by omega, by omega, by rw [← l1.length]; omega, fun p hp => q _ _ (same_upd hp) (rep_lst rm hp (l1.repl j.toNat))⟩)
      · cases e
    | _ => cases e
  | _ => cases d2 <;> cases e
theorem os_mod : OpS C (rI (fun _ j => 0 < j) fun i j => .int (i % j)) modD := by
  intro ρ H m d1 d2 v1 v2 d Q rm r1 r2 e q
  cases d1 with
  | int i =>
    cases d2 with
    | int j =>
      simp only [modD] at e
      split at e
      · rename_i hb
        cases e
        exact ⟨i, j, r1.int_at, r2.int_at, hb, q _ H (Same.refl H) rv_int⟩
      · cases e
    | _ => cases e
  | _ => cases d2 <;> cases e
theorem os_pow : OpS C (rI CPow fun i j => .int (i ^ j.toNat)) powD := by
  intro ρ H m d1 d2 v1 v2 d Q rm r1 r2 e q
  cases d1 with
  | int i =>
    cases d2 with
    | int j =>
      simp only [powD] at e
      split at e
      · rename_i hb
        cases e
        have hb := powOk_le hb
        exact ⟨i, j, r1.int_at, r2.int_at, ⟨hb.1, by omega, by omega⟩, q _ H (Same.refl H) rv_int⟩
      · cases e
    | _ => cases e
  | _ => cases d2 <;> cases e
theorem us_neg : UnS C (rU fun i => .int (-i)) negD := by
  intro ρ H m d1 v1 d Q rm r1 e q
  cases d1 with
  | int i => cases e; exact ⟨i, r1.int_at, q _ H (Same.refl H) rv_int⟩
  | _ => cases e

/-! ### < <= > >= -/
abbrev rLt2 : R2 := fun x y H Q => (rI0 fun i j => .bl (decide (i < j))) x y H Q ∨ (∃ i j, x = .str i ∧ y = .str j ∧ Q (.bl (decide (i.cps.toList < j.cps.toList))) H)
abbrev rLe2 : R2 := fun x y H Q => (rI0 fun i j => .bl (decide (i ≤ j))) x y H Q ∨ (∃ i j, x = .str i ∧ y = .str j ∧ Q (.bl (!decide (j.cps.toList < i.cps.toList))) H)
theorem or_lt : OpR X (compareOp .Lt) rLt2 := op_lt.or op_lt_str
theorem or_le : OpR X (compareOp .LtE) rLe2 := op_le.or op_le_str
theorem os_lt : OpS C rLt2 ltD := by
  intro ρ H m d1 d2 v1 v2 d Q rm r1 r2 e q
  cases d1 with
  | int i =>
    cases d2 with
    | int j => cases e; exact .inl ⟨i, j, r1.int_at, r2.int_at, q _ H (Same.refl H) rv_bl⟩
    | _ => cases e
  | str a =>
    cases d2 with
    | str b => cases e; exact .inr ⟨_, _, r1.str_at.1, r2.str_at.1, q _ H (Same.refl H) rv_bl⟩
    | _ => cases e
  | _ => cases d2 <;> cases e
theorem os_le : OpS C rLe2 leD := by
  intro ρ H m d1 d2 v1 v2 d Q rm r1 r2 e q
  cases d1 with
  | int i =>
    cases d2 with
    | int j => cases e; exact .inl ⟨i, j, r1.int_at, r2.int_at, q _ H (Same.refl H) rv_bl⟩
    | _ => cases e
  | str a =>
    cases d2 with
    | str b => cases e; exact .inr ⟨_, _, r1.str_at.1, r2.str_at.1, q _ H (Same.refl H) rv_bl⟩
    | _ => cases e
  | _ => cases d2 <;> cases e
theorem os_ge : OpS C (rI0 fun i j => .bl (decide (j ≤ i))) geD := by
  intro ρ H m d1 d2 v1 v2 d Q rm r1 r2 e q
  cases d1 with
  | int i =>
    cases d2 with
    | int j => cases e; exact ⟨i, j, r1.int_at, r2.int_at, q _ H (Same.refl H) rv_bl⟩
    | _ => cases e
  | _ => cases d2 <;> cases e

/-! ### == -/
mutual
def toPd : D → PyData
  | .bl b => .bool b
  | .int i => .int i
  | .str s => .str ⟨s.toArray⟩
  | .tup ds => .tuple (toPdL ds)
  | .lst ds => .list (toPdL ds)
  | _ => .none
def toPdL : List D → List PyData
  | [] => []
  | d :: ds => toPd d :: toPdL ds
end
mutual
theorem rep_dp : ∀ (k : Nat) (d : D) (v : V), D.sh k d = true → RepV C ρ H d v → Dp C.K H v (toPd d) ∧ (toPd d).canLay0 = true ∧ (toPd d).depth ≤ k
  | k, .non, v, _, r => by rw [r.non_at]; exact ⟨.non, rfl, Nat.zero_le _⟩
  | k, .bl b, v, _, r => by rw [r.bl_at]; exact ⟨.bl b, rfl, Nat.zero_le _⟩
  | k, .int i, v, _, r => by rw [r.int_at]; exact ⟨.int i, rfl, Nat.zero_le _⟩
  | k, .str s, v, _, r => by
    obtain ⟨e, _, hc⟩ := r.str_at
    rw [e]
    refine ⟨.str _, ?_, Nat.zero_le _⟩
    show PyData.strOk _ = true
    unfold PyData.strOk
    simp only [Array.all_eq_true', List.mem_toArray, decide_eq_true_eq]
    intro c hm
    exact hc c hm
  | k + 1, .tup ds, v, h, r => by
    obtain ⟨a, xs, e, sq, rl⟩ := r.tup_sq
    obtain ⟨h1, h2, h3⟩ := rep_dpL k ds xs (by simpa only [D.sh] using h) rl
    rw [e]
    exact ⟨.tup sq h1, h2, Nat.succ_le_succ h3⟩
  | k + 1, .lst ds, v, h, r => by
    obtain ⟨a, xs, e, nl, sq, rl⟩ := r.lst_at
    obtain ⟨h1, h2, h3⟩ := rep_dpL k ds xs (by simpa only [D.sh] using h) rl
    rw [e]
    exact ⟨.lst (.inl (.inl sq)) h1, h2, Nat.succ_le_succ h3⟩
  | 0, .tup ds, v, h, r => by simp [D.sh] at h
  | 0, .lst ds, v, h, r => by simp [D.sh] at h
  | k, .dct _ _, v, h, r => by cases k <;> simp [D.sh] at h
  | k, .gdz _ _, v, h, r => by cases k <;> simp [D.sh] at h
  | k, .scr _, v, h, r => by cases k <;> simp [D.sh] at h
  | k, .ref _, v, h, r => by cases k <;> simp [D.sh] at h
  | k, .ty _, v, h, r => by cases k <;> simp [D.sh] at h
  | k, .fn _, v, h, r => by cases k <;> simp [D.sh] at h
  | k, .exc _, v, h, r => by cases k <;> simp [D.sh] at h
theorem rep_dpL : ∀ (k : Nat) (ds : List D) (vs : List V), D.shL k ds = true → RepL C ρ H ds vs → DpAll C.K H vs (toPdL ds) ∧ PyData.canLayAll0 (toPdL ds) = true ∧ PyData.depthAll (toPdL ds) ≤ k
  | k, [], vs, _, r => by
    simp only [RepL] at r
    subst r
    exact ⟨.nil, rfl, Nat.zero_le _⟩
  | k, d :: ds, vs, h, r => by
    simp only [RepL] at r
    obtain ⟨v, r', rfl, h1, h2⟩ := r
    simp only [D.shL, Bool.and_eq_true] at h
    obtain ⟨a1, a2, a3⟩ := rep_dp k d v h.1 h1
    obtain ⟨b1, b2, b3⟩ := rep_dpL k ds r' h.2 h2
    refine ⟨.cons a1 b1, ?_, ?_⟩
    · show ((toPd d).canLay0 && PyData.canLayAll0 (toPdL ds)) = true
      rw [a2, b2]; rfl
    · show max (toPd d).depth (PyData.depthAll (toPdL ds)) ≤ k
      omega
end
theorem arr_beq (a b : List Nat) : ((⟨a.toArray⟩ : Str) == (⟨b.toArray⟩ : Str)) = (a == b) := by
  rw [Bool.eq_iff_iff]
  simp only [beq_iff_eq]
  constructor
  · intro e
    have := congrArg (fun z : Str => z.cps.toList) e
    simpa using this
  · intro e; rw [e]
mutual
theorem eqv_pd : ∀ (k j : Nat) (a b : D), D.sh k a = true → D.sh j b = true → PyData.eqv (toPd a) (toPd b) = D.eqv a b := by
  intro k j a b ha hb
  cases a with
  | tup xs =>
    cases b with
    | tup ys =>
      cases k with
      | zero => simp [D.sh] at ha
      | succ k =>
        cases j with
        | zero => simp [D.sh] at hb
        | succ j =>
          show PyData.eqvAll (toPdL xs) (toPdL ys) = D.eqvL xs ys
          exact eqv_pdL k j xs ys (by simpa only [D.sh] using ha) (by simpa only [D.sh] using hb)
    | str y => rfl
    | _ => first | rfl | (cases j <;> simp [D.sh] at hb)
  | lst xs =>
    cases b with
    | lst ys =>
      cases k with
      | zero => simp [D.sh] at ha
      | succ k =>
        cases j with
        | zero => simp [D.sh] at hb
        | succ j =>
          show PyData.eqvAll (toPdL xs) (toPdL ys) = D.eqvL xs ys
          exact eqv_pdL k j xs ys (by simpa only [D.sh] using ha) (by simpa only [D.sh] using hb)
    | str y => rfl
    | _ => first | rfl | (cases j <;> simp [D.sh] at hb)
  | str x =>
    cases b with
    | str y =>
      show ((⟨x.toArray⟩ : Str) == ⟨y.toArray⟩) = D.eqv (.str x) (.str y)
      rw [arr_beq]
      simp only [D.eqv]
    | _ => first | rfl | (cases j <;> simp [D.sh] at hb)
  | non => cases b <;> first | rfl | (cases j <;> simp [D.sh] at hb)
  | bl i => cases b <;> first | rfl | (cases j <;> simp [D.sh] at hb)
  | int i => cases b <;> first | rfl | (cases j <;> simp [D.sh] at hb)
  | _ => cases k <;> simp [D.sh] at ha
theorem eqv_pdL : ∀ (k j : Nat) (a b : List D), D.shL k a = true → D.shL j b = true → PyData.eqvAll (toPdL a) (toPdL b) = D.eqvL a b
  | k, j, [], [], _, _ => rfl
  | k, j, [], _ :: _, _, _ => rfl
  | k, j, _ :: _, [], _, _ => rfl
  | k, j, x :: xs, y :: ys, ha, hb => by
    simp only [D.shL, Bool.and_eq_true] at ha hb
    show (PyData.eqv (toPd x) (toPd y) && PyData.eqvAll (toPdL xs) (toPdL ys)) = (D.eqv x y && D.eqvL xs ys)
    rw [eqv_pd k j x y ha.1 hb.1, eqv_pdL k j xs ys ha.2 hb.2]
end

theorem RepM.lst_at (rm : RepM C ρ H m) {n : Nat} {ds : List D} {v : V} (r : RepV C ρ H (.ref n) v) (e : m[n]? = some (.lst ds)) : ∃ a xs, v = .ref a ∧ ρ.l[n]? = some (a, true) ∧ H a = some (.lst xs) ∧ RepL C ρ H ds xs := by
  simp only [RepV] at r
  obtain ⟨a, rfl, l, q⟩ := r
  obtain ⟨hl, xs, h1, h2⟩ := rm.obj n a l _ q e
  subst hl
  exact ⟨a, xs, rfl, q, h1, h2⟩
theorem ints_rep : ∀ ns : List Int, RepL C ρ H (ns.map D.int) (ns.map V.int)
  | [] => by simp only [List.map_nil, RepL]
  | n :: ns => by
    simp only [List.map_cons, RepL]
    exact ⟨_, _, rfl, rv_int, ints_rep ns⟩
/-- a list that is read -/
theorem lst_read (rm : RepM C ρ H m) {d : D} {ds : List D} {v : V} (r : RepV C ρ H d v) (e : lstOf m d = some ds) : ∃ a xs, v = .ref a ∧ SqL C.K H a xs ∧ RepL C ρ H ds xs := by
  cases d with
  | lst ds' =>
    cases e
    obtain ⟨a, xs, e1, _, s1, l1⟩ := r.lst_at
    exact ⟨a, xs, e1, .inl (.inl s1), l1⟩
  | scr ns =>
    cases e
    obtain ⟨a, e1, s1⟩ := r.scr_sq
    exact ⟨a, _, e1, s1, ints_rep ns⟩
  | ref n =>
    simp only [lstOf] at e
    split at e
    · rename_i ds' q
      cases e
      obtain ⟨a, xs, e1, _, s1, l1⟩ := rm.lst_at r q
      exact ⟨a, xs, e1, .inl (.inl s1), l1⟩
    · cases e
  | _ => cases e
theorem seq_read (rm : RepM C ρ H m) {d : D} {ds : List D} {v : V} (r : RepV C ρ H d v) (e : seqOf m d = some ds) : ∃ a xs, v = .ref a ∧ (SqL C.K H a xs ∨ SqT C.K H a xs) ∧ RepL C ρ H ds xs := by
  cases d with
  | tup ds' =>
    cases e
    obtain ⟨a, xs, e1, s1, l1⟩ := r.tup_sq
    exact ⟨a, xs, e1, .inr s1, l1⟩
  | tpx ds' =>
    cases e
    obtain ⟨a, xs, e1, s1, l1⟩ := r.wk.tup_sq
    exact ⟨a, xs, e1, .inr s1, l1⟩
  | lst _ => obtain ⟨a, xs, e1, s1, l1⟩ := lst_read rm r e; exact ⟨a, xs, e1, .inl s1, l1⟩
  | scr _ => obtain ⟨a, xs, e1, s1, l1⟩ := lst_read rm r e; exact ⟨a, xs, e1, .inl s1, l1⟩
  | ref _ => obtain ⟨a, xs, e1, s1, l1⟩ := lst_read rm r e; exact ⟨a, xs, e1, .inl s1, l1⟩
  | _ => cases e
theorem now_dp (rm : RepM C ρ H m) {k : Nat} {d : D} {v : V} (hk : D.sh k (d.now m) = true) (r : RepV C ρ H d v) : Dp C.K H v (toPd (d.now m)) ∧ (toPd (d.now m)).canLay0 = true ∧ (toPd (d.now m)).depth ≤ k := by
  have viaL : ∀ ds, lstOf m d = some ds → d.now m = .lst ds → Dp C.K H v (toPd (d.now m)) ∧ (toPd (d.now m)).canLay0 = true ∧ (toPd (d.now m)).depth ≤ k := fun ds e1 e2 => by
    obtain ⟨a, xs, rfl, s1, l1⟩ := lst_read rm r e1
    rw [e2] at hk ⊢
    cases k with
    | zero => simp [D.sh] at hk
    | succ k =>
      obtain ⟨h1, h2, h3⟩ := rep_dpL k ds xs (by simpa only [D.sh] using hk) l1
      exact ⟨.lst s1 h1, h2, Nat.succ_le_succ h3⟩
  cases d with
  | tpx ds => exact rep_dp k (.tup ds) v hk r.wk
  | scr ns => exact viaL _ rfl rfl
  | ref n =>
    cases q : m[n]? with
    | none => simp only [D.now, q] at hk; cases k <;> simp [D.sh] at hk
    | some o =>
      cases o with
      | lst ds => exact viaL ds (by simp only [lstOf, q]) (by simp only [D.now, q])
      | _ => simp only [D.now, q] at hk; cases k <;> simp [D.sh] at hk
  | _ => exact rep_dp k _ v hk r
theorem os_eq : OpS C (rEqD C.K) eqD := by
  intro ρ H m d1 d2 v1 v2 d Q rm r1 r2 e q
  unfold eqD at e
  split at e
  · rename_i hs
    rw [Bool.and_eq_true] at hs
    cases e
    obtain ⟨a1, a2, a3⟩ := now_dp rm hs.1 r1
    obtain ⟨b1, b2, b3⟩ := now_dp rm hs.2 r2
    refine ⟨_, _, a1, b1, ?_, ?_, ?_⟩
    · unfold SeqAt.shaped; rw [a2, decide_eq_true (by omega)]; rfl
    · unfold SeqAt.shaped; rw [b2, decide_eq_true (by omega)]; rfl
    · rw [eqv_pd 9 9 _ _ hs.1 hs.2]
      exact q _ H (Same.refl H) rv_bl
  · cases e
theorem os_ne : OpS C (rNeD C.K) neD := by
  intro ρ H m d1 d2 v1 v2 d Q rm r1 r2 e q
  unfold neD at e
  split at e
  · rename_i hs
    rw [Bool.and_eq_true] at hs
    cases e
    obtain ⟨a1, a2, a3⟩ := now_dp rm hs.1 r1
    obtain ⟨b1, b2, b3⟩ := now_dp rm hs.2 r2
    refine ⟨_, _, a1, b1, ?_, ?_, ?_⟩
    · unfold SeqAt.shaped; rw [a2, decide_eq_true (by omega)]; rfl
    · unfold SeqAt.shaped; rw [b2, decide_eq_true (by omega)]; rfl
    · rw [eqv_pd 9 9 _ _ hs.1 hs.2]
      exact q _ H (Same.refl H) rv_bl
  · cases e

/-! ### in -/
theorem flat_rep {d : D} {v : V} (h : d.flat = true) (r : RepV C ρ H d v) : flatV v = true := by
  cases d with
  | non => rw [r.non_at]; rfl
  | bl b => rw [r.bl_at]; rfl
  | int i => rw [r.int_at]; rfl
  | str s => rw [r.str_at.1]; rfl
  | _ => cases h
theorem eqV_rep {d e : D} {v u : V} (h1 : d.flat = true) (h2 : e.flat = true) (r1 : RepV C ρ H d v) (r2 : RepV C ρ H e u) : eqV v u = D.eqv d e := by
  cases d with
  | non => rw [r1.non_at]; cases e <;> first | (rw [r2.non_at]; rfl) | (rw [r2.bl_at]; rfl) | (rw [r2.int_at]; rfl) | (rw [r2.str_at.1]; rfl) | cases h2
  | bl b => rw [r1.bl_at]; cases e <;> first | (rw [r2.non_at]; rfl) | (rw [r2.bl_at]; rfl) | (rw [r2.int_at]; rfl) | (rw [r2.str_at.1]; rfl) | cases h2
  | int i => rw [r1.int_at]; cases e <;> first | (rw [r2.non_at]; rfl) | (rw [r2.bl_at]; rfl) | (rw [r2.int_at]; rfl) | (rw [r2.str_at.1]; rfl) | cases h2
  | str s =>
    rw [r1.str_at.1]
    cases e with
    | str s' =>
      rw [r2.str_at.1]
      show ((⟨s.toArray⟩ : Str) == ⟨s'.toArray⟩) = _
      rw [arr_beq]; simp only [D.eqv]
    | non => rw [r2.non_at]; rfl
    | bl _ => rw [r2.bl_at]; rfl
    | int _ => rw [r2.int_at]; rfl
    | _ => cases h2
  | _ => cases h1
theorem flat_all : ∀ {ds : List D} {vs : List V}, ds.all D.flat = true → RepL C ρ H ds vs → vs.all flatV = true
  | [], _, _, r => by simp only [RepL] at r; rw [r]; rfl
  | d :: ds, vs, h, r => by
    simp only [RepL] at r
    obtain ⟨v, r', rfl, h1, h2⟩ := r
    simp only [List.all_cons, Bool.and_eq_true] at h ⊢
    exact ⟨flat_rep h.1 h1, flat_all h.2 h2⟩
theorem any_rep {x : D} {vx : V} (hx : x.flat = true) (rx : RepV C ρ H x vx) : ∀ {ds : List D} {vs : List V}, ds.all D.flat = true → RepL C ρ H ds vs → inV vx vs = ds.any fun d => D.eqv d x
  | [], _, _, r => by simp only [RepL] at r; rw [r]; rfl
  | d :: ds, vs, h, r => by
    simp only [RepL] at r
    obtain ⟨v, r', rfl, h1, h2⟩ := r
    simp only [List.all_cons, Bool.and_eq_true] at h
    show (eqV v vx || inV vx r') = _
    rw [eqV_rep h.1 hx h1 rx, any_rep hx rx h.2 h2]
    rfl
abbrev rIn2 (K : PySem.W.Frag) : R2 := fun x y H Q => (∃ (c : Nat) (z : Str), x = .str ⟨#[c]⟩ ∧ y = .str z ∧ Q (.bl (decide (c ∈ z.cps.toList))) H) ∨ rIn K false x y H Q
abbrev rNotIn2 (K : PySem.W.Frag) : R2 := fun x y H Q => (∃ (c : Nat) (z : Str), x = .str ⟨#[c]⟩ ∧ y = .str z ∧ Q (.bl (!decide (c ∈ z.cps.toList))) H) ∨ rIn K true x y H Q
theorem or_in : OpR X (compareOp .In) (rIn2 X.K) := op_in_sign.or op_in_seq
theorem or_notIn : OpR X (compareOp .NotIn) (rNotIn2 X.K) := op_notIn_sign.or op_notIn_seq
theorem in_cases {x y : D} {b : Bool} (e : inD m x y = some (.bl b)) : (∃ c s, x = .str [c] ∧ y = .str s ∧ b = decide (c ∈ s)) ∨ (∃ ds, seqOf m y = some ds ∧ x.flat = true ∧ ds.all D.flat = true ∧ b = ds.any fun d => D.eqv d x) := by
  unfold inD at e
  split at e
  · rename_i c s
    exact .inl ⟨c, s, rfl, rfl, by injection e with e; injection e with e; exact e.symm⟩
  · split at e
    · rename_i ds q
      split at e
      · rename_i hf
        rw [Bool.and_eq_true] at hf
        exact .inr ⟨ds, q, hf.1, hf.2, by injection e with e; injection e with e; exact e.symm⟩
      · cases e
    · cases e
theorem in_bl {x y d : D} (e : inD m x y = some d) : ∃ b, d = .bl b := by
  unfold inD at e
  split at e
  · exact ⟨_, (Option.some.inj e).symm⟩
  · split at e
    · split at e
      · exact ⟨_, (Option.some.inj e).symm⟩
      · cases e
    · cases e
theorem os_in : OpS C (rIn2 C.K) inD := by
  intro ρ H m d1 d2 v1 v2 d Q rm r1 r2 e q
  obtain ⟨b, rfl⟩ := in_bl e
  rcases in_cases e with ⟨c, s, rfl, rfl, rfl⟩ | ⟨ds, hq, hf, ha, rfl⟩
  · exact .inl ⟨c, _, r1.str_at.1, r2.str_at.1, q _ H (Same.refl H) rv_bl⟩
  · obtain ⟨a, xs, e2, sq, rl⟩ := seq_read rm r2 hq
    refine .inr ⟨a, xs, e2, sq, flat_rep hf r1, flat_all ha rl, ?_⟩
    rw [if_neg (by decide), any_rep hf r1 ha rl]
    exact q _ H (Same.refl H) rv_bl
theorem os_notIn : OpS C (rNotIn2 C.K) notInD := by
  intro ρ H m d1 d2 v1 v2 d Q rm r1 r2 e q
  unfold notInD at e
  split at e
  · rename_i b e'
    cases e
    rcases in_cases e' with ⟨c, s, rfl, rfl, rfl⟩ | ⟨ds, hq, hf, ha, rfl⟩
    · exact .inl ⟨c, _, r1.str_at.1, r2.str_at.1, q _ H (Same.refl H) rv_bl⟩
    · obtain ⟨a, xs, e2, sq, rl⟩ := seq_read rm r2 hq
      refine .inr ⟨a, xs, e2, sq, flat_rep hf r1, flat_all ha rl, ?_⟩
      rw [if_pos rfl, any_rep hf r1 ha rl]
      exact q _ H (Same.refl H) rv_bl
  · cases e
theorem non_iff {d : D} {v : V} (r : RepV C ρ H d v) : decide (v = .non) = d.isN := by
  cases d with
  | non => rw [r.non_at]; rfl
  | bl b => rw [r.bl_at]; rfl
  | int i => rw [r.int_at]; rfl
  | str s => rw [r.str_at.1]; rfl
  | tup ds => obtain ⟨a, xs, rfl, _⟩ := r.tup_sq; rfl
  | tpx ds => obtain ⟨a, xs, rfl, _⟩ := r.wk.tup_sq; rfl
  | lst ds => obtain ⟨a, xs, rfl, _⟩ := r.lst_at; rfl
  | scr ns => obtain ⟨a, rfl, _⟩ := r.scr_sq; rfl
  | dct _ _ => simp only [RepV] at r; obtain ⟨a, xs, rfl, _⟩ := r; rfl
  | gdz _ _ => simp only [RepV] at r; obtain ⟨a, _, _, _, rfl, _⟩ := r; rfl
  | ref _ => simp only [RepV] at r; obtain ⟨a, rfl, _⟩ := r; rfl
  | ty n => rw [r.ty_at]; rfl
  | fn _ => simp only [RepV] at r; obtain ⟨a, rfl, _⟩ := r; rfl
  | exc _ => simp only [RepV] at r; obtain ⟨a, rfl, _⟩ := r; rfl
theorem os_notN : OpS C (fun x y H Q => y = .non ∧ Q (.bl (!decide (x = .non))) H) isNotND := by
  intro ρ H m d1 d2 v1 v2 d Q rm r1 r2 e q
  cases d2 with
  | non =>
    cases e
    refine ⟨r2.non_at, ?_⟩
    rw [non_iff r1]
    exact q _ H (Same.refl H) rv_bl
  | _ => cases e

/-! ### subscripts, slices -/
theorem ix_eq (n : Nat) (i : Int) : ixN n i = ixD n i := rfl
theorem os_get : OpS C (rIx C.K) LW.getD := by
  intro ρ H m d1 d2 v1 v2 d Q rm r1 r2 e q
  cases d2 with
  | int i =>
    have e2 := r2.int_at
    cases d1 with
    | str s =>
      simp only [LW.getD] at e
      obtain ⟨j, hj, e⟩ := Option.bind_eq_some_iff.mp e
      obtain ⟨c, hc, e⟩ := Option.map_eq_some_iff.mp e
      subst e
      obtain ⟨e1, l1, c1⟩ := r1.str_at
      refine .inr (.inr ⟨_, i, c, e1, e2, by rw [str_len, ← lim_eq]; exact l1, ?_, ?_⟩)
      · show (ixN s.length i).bind (fun j => s[j]?) = some c
        rw [ix_eq, hj]; exact hc
      · exact q _ H (Same.refl H) (rv_str (s := [c]) (show 1 ≤ lim by decide) fun c' hm => by
          rw [List.mem_singleton.mp hm]; exact c1 c (List.mem_of_getElem? hc))
    | tup ds =>
      simp only [LW.getD, seqOf] at e
      obtain ⟨j, hj, e⟩ := Option.bind_eq_some_iff.mp e
      obtain ⟨a, xs, e1, sq, rl⟩ := r1.tup_sq
      obtain ⟨v, hv, rv⟩ := rl.get e
      refine .inr (.inl ⟨a, xs, i, v, e1, e2, sq, ?_, q _ H (Same.refl H) rv⟩)
      show (ixN xs.length i).bind (fun j => xs[j]?) = some v
      rw [← rl.length, ix_eq, hj]; exact hv
    | tpx ds =>
      simp only [LW.getD, seqOf] at e
      obtain ⟨j, hj, e⟩ := Option.bind_eq_some_iff.mp e
      obtain ⟨a, xs, e1, sq, rl⟩ := r1.wk.tup_sq
      obtain ⟨v, hv, rv⟩ := rl.get e
      refine .inr (.inl ⟨a, xs, i, v, e1, e2, sq, ?_, q _ H (Same.refl H) rv⟩)
      show (ixN xs.length i).bind (fun j => xs[j]?) = some v
      rw [← rl.length, ix_eq, hj]; exact hv
    | lst ds =>
      simp only [LW.getD, seqOf, lstOf] at e
      obtain ⟨j, hj, e⟩ := Option.bind_eq_some_iff.mp e
      obtain ⟨a, xs, e1, sq, rl⟩ := lst_read rm r1 rfl
      obtain ⟨v, hv, rv⟩ := rl.get e
      refine .inl ⟨a, xs, i, v, e1, e2, sq, ?_, q _ H (Same.refl H) rv⟩
      show (ixN xs.length i).bind (fun j => xs[j]?) = some v
      rw [← rl.length, ix_eq, hj]; exact hv
    | scr ns =>
      simp only [LW.getD, seqOf, lstOf] at e
      obtain ⟨j, hj, e⟩ := Option.bind_eq_some_iff.mp e
      obtain ⟨a, xs, e1, sq, rl⟩ := lst_read rm r1 rfl
      obtain ⟨v, hv, rv⟩ := rl.get e
      refine .inl ⟨a, xs, i, v, e1, e2, sq, ?_, q _ H (Same.refl H) rv⟩
      show (ixN xs.length i).bind (fun j => xs[j]?) = some v
      rw [← rl.length, ix_eq, hj]; exact hv
    | ref n =>
      simp only [LW.getD, seqOf] at e
      cases hs : lstOf m (.ref n) with
      | none => rw [hs] at e; cases e
      | some ds =>
        rw [hs] at e
        obtain ⟨j, hj, e⟩ := Option.bind_eq_some_iff.mp e
        obtain ⟨a, xs, e1, sq, rl⟩ := lst_read rm r1 hs
        obtain ⟨v, hv, rv⟩ := rl.get e
        refine .inl ⟨a, xs, i, v, e1, e2, sq, ?_, q _ H (Same.refl H) rv⟩
        show (ixN xs.length i).bind (fun j => xs[j]?) = some v
        rw [← rl.length, ix_eq, hj]; exact hv
    | _ => cases e
  | _ => cases e
variable {a b c : Expr} {fa fb fc : Ex} {pos : Pos}
theorem de_ix {f : Op} {r : R2} (ho : IxR X r) (hs : OpS C r f) (ha : DE C W X a fa) (hb : DE C W X b fb) (hp : PlainIx b) : DE C W X (.Subscript a b pos) (opE f fa fb) :=
  PE.imp (pe_ix ho ha hb hp) (bin_of hs)
end
end LW
/-! LwQ: slices, built-in functions, methods, what is walked, lists that change: the rules over data. -/
namespace LW
open PySem PySem.Spec PyProof.Rows L2
section
variable {C : Cn} {W : XK} {X : Cx} {a b c : Expr} {fa fb fc : Ex} {pos : Pos} {es : List Expr} {fr : Ar}

/-! ### slices -/
def SlS (C : Cn) (r : V → Option Int → Option Int → Hp → VK → Prop) (f : Sl) : Prop := ∀ (ρ : Rho) (H : Hp) (m : Mem) (d1 : D) (lo hi : Option Int) (v1 : V) (d : D) (Q : VK), RepM C ρ H m → RepV C ρ H d1 v1 → f m d1 lo hi = some d →
  (∀ v H', Same H H' → RepV C ρ H' d v → Q v H') → r v1 lo hi H Q
abbrev DO (C : Cn) (W : XK) (X : Cx) (e : Option Expr) (f : Op1) : Prop := PO X e (fun σ H Q => ∃ ρ g m, RepE C ρ H g σ ∧ RepM C ρ H m ∧ fin C ρ H W (f g m) fun o _ _ H' => Q o H')
theorem PO.imp {e : Option Expr} {t t' : TO} (h : PO X e t) (i : ∀ σ H Q, t' σ H Q → t σ H Q) : PO X e t' := ⟨fun pins s σ H Q I q => h.run pins s σ H Q I (i σ H Q q)⟩
theorem do_no : DO C W X none noO := by
  refine PO.imp po_none ?_
  rintro σ H Q ⟨ρ, g, m, re, rm, h⟩
  exact fin.now rm h
theorem do_some (h : DE C W X a fa) : DO C W X (some a) (someO fa) := by
  refine PO.imp (po_some h) ?_
  rintro σ H Q ⟨ρ, g, m, re, rm, h⟩
  refine ⟨ρ, g, m, re, rm, h.bind.imp fun d m1 ρ1 H1 x1 rm1 h1 v r => ?_⟩
  cases d with
  | int i => exact ⟨i, r.int_at, fin.now rm1 h1⟩
  | _ => exact h1.elim
theorem de_sl {f : Sl} {r : V → Option Int → Option Int → Hp → VK → Prop} {lo hi : Option Expr} {fl fh : Op1} {p2 : Pos} (ho : SlR X r) (hs : SlS C r f) (ha : DE C W X a fa) (hl : DO C W X lo fl) (hh : DO C W X hi fh) :
    DE C W X (.Subscript a (.Slice lo hi none p2) pos) (slE f fa fl fh) := by
  refine PE.imp (pe_slice ho ha hl hh) ?_
  rintro σ H Q ⟨ρ, g, m, re, rm, h⟩
  refine ⟨ρ, g, m, re, rm, h.bind.imp fun d m1 ρ1 H1 x1 rm1 h1 v r => ?_⟩
  refine ⟨ρ1, g, m1, re.ext x1, rm1, h1.bind.imp fun l m2 ρ2 H2 x2 rm2 h2 => ?_⟩
  refine ⟨ρ2, g, m2, (re.ext x1).ext x2, rm2, h2.bind.imp fun u m3 ρ3 H3 x3 rm3 h3 => ?_⟩
  obtain ⟨d', e, q⟩ := h3.opt rm3
  exact hs ρ3 H3 m3 d l u v d' Q rm3 ((r.ext x2).ext x3) e q
theorem sIx_eq (n d : Nat) (o : Option Int) : HT.sIx n d o = sIxD n d o := by cases o <;> rfl
theorem cutV_eq (xs : List V) (lo hi : Option Int) : cutV xs lo hi = cutD xs lo hi := by
  unfold cutV cutD
  rw [sIx_eq, sIx_eq]
theorem RepL.cutD {ρ : Rho} {H : Hp} {ds : List D} {vs : List V} (h : RepL C ρ H ds vs) (lo hi : Option Int) : RepL C ρ H (cutD ds lo hi) (cutD vs lo hi) := by
  unfold LW.cutD
  rw [h.length]
  exact (h.drop _).take _
theorem cutD_sub {α : Type} {xs : List α} {lo hi : Option Int} {c : α} (h : c ∈ cutD xs lo hi) : c ∈ xs := List.mem_of_mem_drop (List.mem_of_mem_take h)
theorem cutD_len {α : Type} (xs : List α) (lo hi : Option Int) : (cutD xs lo hi).length ≤ xs.length := by
  unfold cutD
  rw [List.length_take, List.length_drop]
  omega
abbrev rSl3 (K : PySem.W.Frag) : V → Option Int → Option Int → Hp → VK → Prop := fun x lo hi H Q => rSlS x lo hi H Q ∨ (rSlA K x lo hi H Q ∨ rSlL K x lo hi H Q)
theorem or_sl : SlR X (rSl3 X.K) := sl_str.or (sl_tupA.or sl_list)
theorem cutS_eq (s : List Nat) (lo hi : Option Int) : cutS ⟨s.toArray⟩ lo hi = ⟨(cutD s lo hi).toArray⟩ := by
  apply TL.ext_tl
  unfold cutS cutD
  simp only [str_len, sIx_eq]
theorem ss_sl : SlS C (rSl3 C.K) slD := by
  intro ρ H m d1 lo hi v1 d Q rm r1 e q
  have viaL : ∀ ds, lstOf m d1 = some ds → d = .lst (cutD ds lo hi) → rSl3 C.K v1 lo hi H Q := fun ds e1 e2 => by
    obtain ⟨a, xs, rfl, sq, rl⟩ := lst_read rm r1 e1
    subst e2
    refine .inr (.inr ⟨a, xs, rfl, sq, fun p hp => ?_⟩)
    rw [cutV_eq]
    exact q _ _ (same_upd hp) (rep_lst rm hp (rl.cutD lo hi))
  cases d1 with
  | str s =>
    cases e
    obtain ⟨e1, l1, c1⟩ := r1.str_at
    refine .inl ⟨_, e1, by rw [str_len, ← lim_eq]; exact l1, ?_⟩
    rw [cutS_eq]
    exact q _ H (Same.refl H) (rv_str (Nat.le_trans (cutD_len s lo hi) l1) fun c hc => c1 c (cutD_sub hc))
  | tup ds =>
    cases e
    obtain ⟨a, xs, e1, sq, rl⟩ := r1.tup_sq
    refine .inr (.inl ⟨a, xs, e1, sq, fun hw => ?_, fun _ p hp => ?_⟩)
    · have : cutD ds lo hi = ds := by
        unfold cutD
        rw [rl.length, ← sIx_eq, ← sIx_eq, hw.1, hw.2, Nat.sub_zero, List.drop_zero, ← rl.length, List.take_length]
      rw [this] at q
      rw [← e1]
      exact q _ H (Same.refl H) r1
    · rw [cutV_eq]
      exact q _ _ (same_upd hp) (rep_tup rm hp (rl.cutD lo hi))
  | tpx ds =>
    cases e
    obtain ⟨a, xs, e1, sq, rl⟩ := r1.wk.tup_sq
    refine .inr (.inl ⟨a, xs, e1, sq, fun hw => ?_, fun _ p hp => ?_⟩)
    · have : cutD ds lo hi = ds := by
        unfold cutD
        rw [rl.length, ← sIx_eq, ← sIx_eq, hw.1, hw.2, Nat.sub_zero, List.drop_zero, ← rl.length, List.take_length]
      rw [this] at q
      rw [← e1]
      exact q _ H (Same.refl H) r1.wk
    · rw [cutV_eq]
      exact q _ _ (same_upd hp) (rep_tup rm hp (rl.cutD lo hi))
  | lst ds => cases e; exact viaL _ rfl rfl
  | scr ns => cases e; exact viaL _ rfl rfl
  | ref n =>
    simp only [slD] at e
    obtain ⟨ds, h1, h2⟩ := Option.map_eq_some_iff.mp e
    exact viaL ds h1 h2.symm
  | _ => cases e

/-! ### built-in functions -/
theorem bs_len : BfS C (fun xs H Q => ∃ x n, xs = [x] ∧ LenV C.K x H n ∧ Q (.int n) H) lenB := by
  intro ρ H m ds vs d Q rm rl e q
  cases ds with
  | nil => cases e
  | cons d1 r =>
    cases r with
    | cons _ _ => cases d1 <;> cases e
    | nil =>
      simp only [RepL] at rl
      obtain ⟨v, _, rfl, r1, rfl⟩ := rl
      have viaS : ∀ ds, seqOf m d1 = some ds → d = .int ds.length → ∃ x n, [v] = [x] ∧ LenV C.K x H n ∧ Q (.int n) H := fun ds e1 e2 => by
        obtain ⟨a, xs, rfl, sq, rl⟩ := seq_read rm r1 e1
        subst e2
        refine ⟨_, xs.length, rfl, ?_, ?_⟩
        · rcases sq with sq | sq
          · exact .inl ⟨xs, sq, rfl⟩
          · exact .inr ⟨xs, sq, rfl⟩
        · rw [← rl.length]
          exact q _ H (Same.refl H) rv_int
      cases d1 with
      | str s =>
        cases e
        obtain ⟨e1, l1, c1⟩ := r1.str_at
        refine ⟨v, s.length, rfl, ?_, q _ H (Same.refl H) rv_int⟩
        rw [e1]
        exact ⟨by rw [str_len, ← lim_eq]; exact l1, (str_len s).symm⟩
      | tup ds => cases e; exact viaS _ rfl rfl
      | tpx ds => cases e; exact viaS _ rfl rfl
      | lst ds => cases e; exact viaS _ rfl rfl
      | scr ns => cases e; exact viaS _ rfl rfl
      | ref n =>
        simp only [lenB] at e
        obtain ⟨ds, h1, h2⟩ := Option.map_eq_some_iff.mp e
        exact viaS ds h1 h2.symm
      | _ => cases e
theorem RepM.dct_ty {ρ : Rho} {H : Hp} {m : Mem} (rm : RepM C ρ H m) {n : Nat} {ks vs : List D} {v : V} (r : RepV C ρ H (.ref n) v) (e : m[n]? = some (.dct ks vs)) : ∃ a, v = .ref a ∧ ((∃ kvs, H a = some (.dK kvs)) ∨ ∃ kvs, H a = some (.dT kvs)) := by
  simp only [RepV] at r
  obtain ⟨a, rfl, l, q⟩ := r
  obtain ⟨hl, xs, h1, h2 | h2⟩ := rm.obj n a l _ q e
  · obtain ⟨kk, _, _, h⟩ := h2
    exact ⟨a, rfl, .inl ⟨_, h⟩⟩
  · obtain ⟨kk, _, _, h⟩ := h2
    exact ⟨a, rfl, .inr ⟨_, h⟩⟩
/-- its type -/
theorem ty_of {ρ : Rho} {H : Hp} {m : Mem} (rm : RepM C ρ H m) {d : D} {v : V} {n : String} (r : RepV C ρ H d v) (e : d.tyN m = some n) : TyX C.K H v (.type n) := by
  have sqT : ∀ {a xs}, SqT C.K H a xs → TyX C.K H (.ref a) (.type "tuple") := fun {a xs} sq => by
    rcases sq with (sq | ⟨o, sq⟩) | ⟨o, its, k, h1, h2, _⟩
    · exact .base (.tup sq)
    · exact .fTuple sq
    · exact .kTuple h1 h2
  have sqL : ∀ {a xs}, SqL C.K H a xs → TyX C.K H (.ref a) (.type "list") := fun {a xs} sq => by
    rcases sq with (sq | ⟨o, sq⟩) | ⟨o, its, k, h1, h2, _⟩
    · exact .base (.lst sq)
    · exact .base (.frz sq)
    · exact .kList h1 h2
  cases d with
  | non => cases e; rw [r.non_at]; exact .base .non
  | bl b => cases e; rw [r.bl_at]; exact .base (.bl b)
  | int i => cases e; rw [r.int_at]; exact .base (.int i)
  | str s => cases e; rw [r.str_at.1]; exact .base (.str _)
  | tup ds => cases e; obtain ⟨a, xs, rfl, sq, _⟩ := r.tup_sq; exact sqT sq
  | tpx ds => cases e; obtain ⟨a, xs, rfl, sq, _⟩ := r.wk.tup_sq; exact sqT sq
  | lst ds => cases e; obtain ⟨a, xs, rfl, _, sq, _⟩ := r.lst_at; exact .base (.lst sq)
  | scr ns => cases e; obtain ⟨a, rfl, sq⟩ := r.scr_sq; exact sqL sq
  | ref k =>
    simp only [D.tyN] at e
    split at e
    · rename_i ds q
      cases e
      obtain ⟨a, xs, rfl, _, sq, _⟩ := rm.lst_at r q
      exact .base (.lst sq)
    · rename_i ks vs q
      cases e
      obtain ⟨a, rfl, sq⟩ := rm.dct_ty r q
      rcases sq with ⟨kvs, sq⟩ | ⟨kvs, sq⟩
      · exact .base (.dK sq)
      · exact .base (.dT sq)
    · cases e
  | _ => cases e
def tyNames : List String := ["NoneType", "bool", "int", "str", "tuple", "list", "dict"]
theorem kit_all : ∀ n ∈ tyNames, ∀ t ∈ ["int", "bool", "str", "tuple", "list"], kitB n t = some (n == t || (n == "bool" && t == "int")) := by decide +kernel
theorem de_is {t : String} {x : Str} {p p2 pos : Pos} (ht : t ∈ ["int", "bool", "str", "tuple", "list"]) (hK : C.K = X.K) (hg : Gl X "isinstance") (hm : X.mg "isinstance" = none) (hg2 : Gl X x) (hm2 : X.mg x = none) (hv : bootBuiltins x = some (.type t)) (ha : DE C W X a fa)
    (hn : x ≠ "__name__" := by decide) (hdb : (x == ("__debug__" : Str)) = false := by decide)
    (s1 : starEach (a :: [.Name x p2]) X.env = (false, eval a X.env) :: starEach [.Name x p2] X.env := by rfl) (s2 : starEach (.Name x p2 :: []) X.env = (false, eval (.Name x p2) X.env) :: starEach [] X.env := by rfl)
    (hpl : (backTo pos (starEach [.Name x p2] X.env)).any (·.1) = false := by rfl) : DE C W X (.Call (.Name "isinstance" p) [a, .Name x p2] [] pos) (unE (isD t) fa) := by
  refine PE.imp (pe_callB call_isi hg hm (by decide +kernel) (pa_cons ha (pa_cons (pe_bltn (v := .ty t) hg2 hm2 hv rfl hn hdb) pa_nil s2) s1) (by decide) (by decide) s1 hpl) ?_
  rintro σ H Q ⟨ρ, g, m, re, rm, h⟩
  refine ⟨ρ, g, m, re, rm, h.bind.imp fun d m1 ρ1 H1 x1 rm1 h1 v r => ?_⟩
  obtain ⟨d', e, q⟩ := h1.opt rm1
  simp only [isD] at e
  obtain ⟨n, h2, h3⟩ := Option.map_eq_some_iff.mp e
  subst h3
  have hn : n ∈ tyNames := by
    cases d <;> simp only [D.tyN] at h2 <;> first
      | (cases h2; decide)
      | (split at h2 <;> first | (cases h2; decide) | cases h2)
      | cases h2
  show rIsi X.K [v, .ty t] H1 Q
  rw [← hK]
  exact ⟨v, .ty t, .type n, .type t, _, rfl, .ty t, ty_of rm1 r h2, kit_ty (kit_all n hn t ht), q _ H1 (Same.refl H1) rv_bl⟩
theorem bools_of {ρ : Rho} {H : Hp} : ∀ {ds : List D} {vs : List V}, ds.all (fun d => match d with | .bl _ => true | _ => false) = true → RepL C ρ H ds vs → ∃ bs : List Bool, vs = bs.map V.bl ∧ (ds.all fun d => match d with | .bl b => b | _ => false) = bs.all id
  | [], _, _, r => by simp only [RepL] at r; exact ⟨[], r, rfl⟩
  | d :: ds, vs, h, r => by
    simp only [RepL] at r
    obtain ⟨v, r', rfl, h1, h2⟩ := r
    simp only [List.all_cons, Bool.and_eq_true] at h
    obtain ⟨bs, e1, e2⟩ := bools_of h.2 h2
    cases d with
    | bl b => exact ⟨b :: bs, by rw [h1.bl_at, e1]; rfl, by simp only [List.all_cons, e2]; rfl⟩
    | _ => cases h.1
theorem bs_all : BfS C (rAll C.K) allB := by
  intro ρ H m ds vs d Q rm rl e q
  match ds, rl, e with
  | [x], rl, e =>
    simp only [RepL] at rl
    obtain ⟨v, _, rfl, r1, rfl⟩ := rl
    simp only [allB] at e
    split at e
    · rename_i ds' hq
      split at e
      · rename_i hb
        cases e
        obtain ⟨a, xs, rfl, sq, rl2⟩ := lst_read rm r1 hq
        obtain ⟨bs, e1, e2⟩ := bools_of hb rl2
        subst e1
        refine ⟨a, bs, rfl, sq, ?_⟩
        rw [← e2]
        exact q _ H (Same.refl H) rv_bl
      · cases e
    · cases e
  | [], _, e => cases e
  | _ :: _ :: _, _, e => cases e
theorem ints_of {ρ : Rho} {H : Hp} : ∀ {ds : List D} {vs : List V} {ns : List Int}, intsOf ds = some ns → RepL C ρ H ds vs → vs = ns.map V.int
  | [], _, _, e, r => by cases e; simp only [RepL] at r; rw [r]; rfl
  | d :: ds, vs, ns, e, r => by
    simp only [RepL] at r
    obtain ⟨v, r', rfl, h1, h2⟩ := r
    cases d with
    | int i =>
      simp only [intsOf] at e
      obtain ⟨l, h3, h4⟩ := Option.map_eq_some_iff.mp e
      subst h4
      rw [h1.int_at, ints_of h3 h2]; rfl
    | _ => cases e
theorem strs_of {ρ : Rho} {H : Hp} : ∀ {ds : List D} {vs : List V} {ps : List (List Nat)}, strsOf ds = some ps → RepL C ρ H ds vs → vs = (ps.map fun p => (⟨p.toArray⟩ : Str)).map V.str ∧ ∀ p ∈ ps, ∀ c ∈ p, c < 1114112
  | [], _, _, e, r => by cases e; exact ⟨by simp only [RepL] at r; rw [r]; rfl, fun p hp => (nomatch hp)⟩
  | d :: ds, vs, ps, e, r => by
    simp only [RepL] at r
    obtain ⟨v, r', rfl, h1, h2⟩ := r
    cases d with
    | str s =>
      simp only [strsOf] at e
      obtain ⟨l, h3, h4⟩ := Option.map_eq_some_iff.mp e
      subst h4
      obtain ⟨i1, i2⟩ := strs_of h3 h2
      refine ⟨by rw [h1.str_at.1, i1]; rfl, fun p hp => ?_⟩
      rcases List.mem_cons.mp hp with e | hp
      · subst e; exact h1.str_at.2.2
      · exact i2 p hp
    | _ => cases e
/-- list(text) -/
theorem cr_listS (hc : X.calm = true) : CallR X (.type "list") (fun xs H Q => ∃ z : Str, xs = [.str z] ∧ z.length ≤ sizeLine ∧ ∀ p, H p = none → Q (.ref p) (upd H p (.lst (z.cps.toList.map fun c => .str ⟨#[c]⟩)))) := by
  intro pins s σ H xs us Q I r h
  obtain ⟨z, rfl, hz, q⟩ := h
  obtain ⟨u, rfl, t, rfl⟩ := vals1 r
  refine call_list_str (I.ok.hd hc) z t (hn := hz) fun h' tk acc' c' hk hS' hacc => ?_
  have hf := I.hok.fresh (Nat.le_refl s.heap.objs.size)
  refine ⟨.ref s.heap.objs.size, _, I.laid (t' := tk) (o := .lst (z.cps.toList.map fun c => .str ⟨#[c]⟩)) hk (Nat.le_refl _) ⟨?_, acc'.toList, c', ?_, ?_⟩, rfl, q _ hf⟩
  · rw [List.length_map]; exact hz
  · refine vals_of_at ?_ fun j x u h1 h2 => ?_
    · rw [List.length_map, Array.length_toList, Array.length_toList]; exact hacc.1.symm
    · obtain ⟨c, t2, h3, rfl⟩ := hacc.2 j u (by rw [← Array.getElem?_toList]; exact h2)
      rw [List.getElem?_map, Array.getElem?_toList, h3] at h1
      cases h1
      exact ⟨t2, rfl⟩
  · rw [hS']
abbrev rList2 (K : PySem.W.Frag) : List V → Hp → VK → Prop := fun xs H Q => (∃ z : Str, xs = [.str z] ∧ z.length ≤ sizeLine ∧ ∀ p, H p = none → Q (.ref p) (upd H p (.lst (z.cps.toList.map fun c => .str ⟨#[c]⟩)))) ∨
  (∃ p ys, xs = [.ref p] ∧ (SqL K H p ys ∨ SqT K H p ys) ∧ ∀ l, H l = none → Q (.ref l) (upd H l (.lst ys)))
theorem CallR.or {f : Value} {r r' : List V → Hp → VK → Prop} (h : CallR X f r) (h' : CallR X f r') : CallR X f (fun xs H Q => r xs H Q ∨ r' xs H Q) := by
  intro pins s σ H xs us Q I rv q
  rcases q with q | q
  · exact h pins s σ H xs us Q I rv q
  · exact h' pins s σ H xs us Q I rv q
theorem or_list (hc : X.calm = true) : CallR X (.type "list") (rList2 X.K) := (cr_listS hc).or call_list_of
theorem signs_rep {ρ : Rho} {H : Hp} : ∀ {s : List Nat}, (∀ c ∈ s, c < 1114112) → RepL C ρ H (s.map fun c => D.str [c]) (s.map fun c => V.str ⟨#[c]⟩)
  | [], _ => by simp only [List.map_nil, RepL]
  | c :: s, h => by
    simp only [List.map_cons, RepL]
    exact ⟨_, _, rfl, rv_str (s := [c]) (show 1 ≤ lim by decide) (fun c' hm => by rw [List.mem_singleton.mp hm]; exact h c List.mem_cons_self), signs_rep fun c' hm => h c' (List.mem_cons_of_mem _ hm)⟩
theorem bs_list : BfS C (rList2 C.K) listB := by
  intro ρ H m ds vs d Q rm rl e q
  match ds, rl, e with
  | [x], rl, e =>
    simp only [RepL] at rl
    obtain ⟨v, _, rfl, r1, rfl⟩ := rl
    have viaS : ∀ ds, seqOf m x = some ds → d = .lst ds → rList2 C.K [v] H Q := fun ds e1 e2 => by
      obtain ⟨a, xs, rfl, sq, rl⟩ := seq_read rm r1 e1
      subst e2
      exact .inr ⟨a, xs, rfl, sq, fun p hp => q _ _ (same_upd hp) (rep_lst rm hp rl)⟩
    cases x with
    | str s =>
      cases e
      obtain ⟨e1, l1, c1⟩ := r1.str_at
      refine .inl ⟨_, by rw [e1], by rw [str_len, ← lim_eq]; exact l1, fun p hp => q _ _ (same_upd hp) (rep_lst rm hp (signs_rep c1))⟩
    | tup ds => cases e; exact viaS _ rfl rfl
    | tpx ds => cases e; exact viaS _ rfl rfl
    | lst ds => cases e; exact viaS _ rfl rfl
    | scr ns => cases e; exact viaS _ rfl rfl
    | ref n =>
      simp only [listB] at e
      obtain ⟨ds, h1, h2⟩ := Option.map_eq_some_iff.mp e
      exact viaS ds h1 h2.symm
    | _ => cases e
  | [], _, e => cases e
  | _ :: _ :: _, _, e => simp only [listB] at e; cases e
theorem bs_tuple : BfS C (fun xs H Q => ∃ p ys, xs = [.ref p] ∧ ((SqL C.K H p ys ∧ ∀ l, H l = none → Q (.ref l) (upd H l (.tup ys))) ∨ (SqT C.K H p ys ∧ Q (.ref p) H))) tupleB := by
  intro ρ H m ds vs d Q rm rl e q
  match ds, rl, e with
  | [x], rl, e =>
    simp only [RepL] at rl
    obtain ⟨v, _, rfl, r1, rfl⟩ := rl
    have viaL : ∀ ds, lstOf m x = some ds → d = .tup ds → ∃ p ys, [v] = [.ref p] ∧ ((SqL C.K H p ys ∧ ∀ l, H l = none → Q (.ref l) (upd H l (.tup ys))) ∨ (SqT C.K H p ys ∧ Q (.ref p) H)) := fun ds e1 e2 => by
      obtain ⟨a, xs, rfl, sq, rl⟩ := lst_read rm r1 e1
      subst e2
      exact ⟨a, xs, rfl, .inl ⟨sq, fun p hp => q _ _ (same_upd hp) (rep_tup rm hp rl)⟩⟩
    cases x with
    | tup ds =>
      cases e
      obtain ⟨a, xs, e1, sq, rl⟩ := r1.tup_sq
      refine ⟨a, xs, by rw [e1], .inr ⟨sq, ?_⟩⟩
      rw [← e1]
      exact q _ H (Same.refl H) r1
    | tpx ds =>
      cases e
      obtain ⟨a, xs, e1, sq, rl⟩ := r1.wk.tup_sq
      refine ⟨a, xs, by rw [e1], .inr ⟨sq, ?_⟩⟩
      rw [← e1]
      exact q _ H (Same.refl H) r1.wk
    | lst ds => cases e; exact viaL _ rfl rfl
    | scr ns => cases e; exact viaL _ rfl rfl
    | ref n =>
      simp only [tupleB] at e
      obtain ⟨ds, h1, h2⟩ := Option.map_eq_some_iff.mp e
      exact viaL ds h1 h2.symm
    | _ => cases e
  | [], _, e => cases e
  | _ :: _ :: _, _, e => simp only [tupleB] at e; cases e
theorem bs_int : BfS C (fun xs H Q => (∃ i, xs = [.int i] ∧ Q (.int i) H) ∨ ∃ k, xs = [.bl k] ∧ Q (.int (if k then 1 else 0)) H) intB := by
  intro ρ H m ds vs d Q rm rl e q
  cases ds with
  | nil => cases e
  | cons x r =>
    cases r with
    | cons _ _ => cases x <;> cases e
    | nil =>
      simp only [RepL] at rl
      obtain ⟨v, _, rfl, r1, rfl⟩ := rl
      cases x with
      | int i => cases e; exact .inl ⟨i, by rw [r1.int_at], q _ H (Same.refl H) rv_int⟩
      | bl b => cases e; exact .inr ⟨b, by rw [r1.bl_at], q _ H (Same.refl H) rv_int⟩
      | _ => cases e

/-! ### what is walked -/
theorem walk_str {ρ : Rho} {H : Hp} {s : List Nat} (hc : ∀ c ∈ s, c < 1114112) : WalkD C ρ H (s.map fun c => D.str [c]) (Its ⟨s.toArray⟩) := by
  intro ρ1 H1 i m1 x _
  refine ⟨fun e => ?_, fun d hd => ⟨?_, fun v H2 y => ?_⟩⟩
  · show s.toArray.size ≤ i
    rw [e]; simp
  · show i < s.toArray.size
    have := (List.getElem?_eq_some_iff.mp hd).1
    simpa using this
  · obtain ⟨rfl, c, h1, rfl⟩ := y
    have h1 : s[i]? = some c := by simpa using h1
    rw [List.getElem?_map, h1] at hd
    cases hd
    exact ⟨Same.refl _, rv_str (s := [c]) (show 1 ≤ lim by decide) fun c' hm => by rw [List.mem_singleton.mp hm]; exact hc c (List.mem_of_getElem? h1)⟩
variable {tg : Expr}
theorem di_str (ha : DE C W X a fa) : DI C W X tg a (itS fa) := by
  refine PI.imp (pi_str ha) ?_
  rintro σ H R ⟨ρ, g, m, re, rm, h⟩
  refine ⟨ρ, g, m, re, rm, h.bind.imp fun d m1 ρ1 H1 x1 rm1 h1 v r => ?_⟩
  cases d with
  | str s =>
    obtain ⟨e, l, hc⟩ := r.str_at
    exact ⟨_, e, fin.now rm1 h1 _ (walk_str hc)⟩
  | _ => exact h1.elim
theorem walk_lst {ρ : Rho} {H : Hp} {ds : List D} {a : Addr} {xs : List V} (nl : ¬ lives ρ a) (hq : H a = some (.lst xs)) (rl : RepL C ρ H ds xs) : WalkD C ρ H ds (Itl C.K a) := by
  intro ρ1 H1 i m1 x _
  obtain ⟨_, q1⟩ := x.keep a (.lst xs) trivial nl hq
  have sq : SqL C.K H1 a xs := .inl (.inl q1)
  refine ⟨fun e => ⟨xs, sq, by rw [e, rl.length]; exact Nat.le_refl _⟩, fun d hd => ?_⟩
  obtain ⟨v, hv, rv⟩ := rl.get hd
  refine ⟨⟨xs, v, sq, hv⟩, fun w H2 y => ?_⟩
  obtain ⟨rfl, y⟩ := y
  have e := y xs sq
  rw [hv] at e
  cases e
  exact ⟨Same.refl _, rv.ext x⟩
theorem di_lst (hK : C.K = X.K) (ha : DE C W X a fa) : DI C W X tg a (itL fa) := by
  refine PI.imp (pi_list ha) ?_
  rintro σ H R ⟨ρ, g, m, re, rm, h⟩
  refine ⟨ρ, g, m, re, rm, h.bind.imp fun d m1 ρ1 H1 x1 rm1 h1 v r => ?_⟩
  cases d with
  | lst ds =>
    obtain ⟨p, xs, e, nl, sq, rl⟩ := r.lst_at
    refine ⟨p, e, ⟨xs, .inl (.inl sq)⟩, ?_⟩
    rw [← hK]
    exact fin.now rm1 h1 _ (walk_lst nl sq rl)
  | _ => exact h1.elim
theorem walk_tup {ρ : Rho} {H : Hp} {ds : List D} {v : V} (r : RepV C ρ H (.tup ds) v) : ∃ a, v = .ref a ∧ (∃ xs, SqT C.K H a xs) ∧ WalkD C ρ H ds (Itt C.K a) := by
  simp only [RepV] at r
  obtain ⟨a, xs, e, h1, rl⟩ := r
  have r : RepV C ρ H (.tup ds) v := by simp only [RepV]; exact ⟨a, xs, e, h1, rl⟩
  have all : ∀ ρ1 H1, Ext ρ H ρ1 H1 → SqT C.K H1 a xs := fun ρ1 H1 x => by
    rcases h1 with ⟨nl, q | ⟨o, q⟩⟩ | k
    · exact .inl (.inl (x.keep a (.tup xs) trivial nl q).2)
    · exact .inl (.inr ⟨o, (x.keep a (.frz o (.tup xs)) trivial nl q).2⟩)
    · rcases k with (k | ⟨_, k⟩) | k
      · cases k
      · cases k
      · exact .inr k
  refine ⟨a, e, ⟨xs, all ρ H (.refl _ _)⟩, fun ρ1 H1 i m1 x _ => ?_⟩
  have sq := all ρ1 H1 x
  refine ⟨fun e => ⟨xs, sq, by rw [e, rl.length]; exact Nat.le_refl _⟩, fun d hd => ?_⟩
  obtain ⟨v, hv, rv⟩ := rl.get hd
  refine ⟨⟨xs, v, sq, hv⟩, fun w H2 y => ?_⟩
  obtain ⟨rfl, y⟩ := y
  have e := y xs sq
  rw [hv] at e
  cases e
  exact ⟨Same.refl _, rv.ext x⟩
theorem di_tup (hK : C.K = X.K) (ha : DE C W X a fa) : DI C W X tg a (itT fa) := by
  refine PI.imp (pi_tup ha) ?_
  rintro σ H R ⟨ρ, g, m, re, rm, h⟩
  refine ⟨ρ, g, m, re, rm, h.bind.imp fun d m1 ρ1 H1 x1 rm1 h1 v r => ?_⟩
  cases d with
  | tpx ds =>
    obtain ⟨p, e, sq, wk⟩ := walk_tup r.wk
    refine ⟨p, e, hK ▸ sq, ?_⟩
    rw [← hK]
    exact fin.now rm1 h1 _ wk
  | tup ds =>
    obtain ⟨p, e, sq, wk⟩ := walk_tup r
    refine ⟨p, e, hK ▸ sq, ?_⟩
    rw [← hK]
    exact fin.now rm1 h1 _ wk
  | _ => exact h1.elim
theorem walk_rng {ρ : Rho} {H : Hp} (lo : Int) (n : Nat) : WalkD C ρ H ((List.range n).map fun (k : Nat) => D.int (lo + k)) (Itr lo n) := by
  intro ρ1 H1 i m1 x _
  refine ⟨fun e => ?_, fun d hd => ⟨?_, fun v H2 y => ?_⟩⟩
  · show n ≤ i
    rw [e]; simp
  · show i < n
    have := (List.getElem?_eq_some_iff.mp hd).1
    simpa using this
  · obtain ⟨rfl, rfl⟩ := y
    have hi : i < n := by
      have := (List.getElem?_eq_some_iff.mp hd).1
      simpa using this
    rw [List.getElem?_map, List.getElem?_range hi] at hd
    cases hd
    exact ⟨Same.refl _, rv_int⟩
theorem di_rng1 {p : Pos} (hg : Gl X "range") (hm : X.mg "range" = none) (ha : DE C W X a fa) (hs : starEach [a] X.env = [(false, eval a X.env)] := by rfl) (s1 : starEach (a :: []) X.env = (false, eval a X.env) :: starEach [] X.env := by rfl) : DI C W X tg (.Call (.Name "range" p) [a] [] pos) (itR1 fa) := by
  refine PI.imp (pi_range1 hg hm (pa_cons ha pa_nil s1) hs) ?_
  rintro σ H R ⟨ρ, g, m, re, rm, h⟩
  refine ⟨ρ, g, m, re, rm, h.bind.imp fun d m1 ρ1 H1 x1 rm1 h1 v r => ?_⟩
  cases d with
  | int j =>
    by_cases hb : inR j = true
    · simp only [hb, if_true] at h1
      have hb := inR_le hb
      refine ⟨j, by rw [r.int_at], by omega, by omega, fin.now rm1 h1 _ ?_⟩
      have := walk_rng (C := C) (ρ := ρ1) (H := H1) 0 j.toNat
      simpa using this
    · simp only [hb, if_false] at h1
      exact h1.elim
  | _ => exact h1.elim
end
end LW
/-! LwM: things that change: made, changed, frozen; methods. -/
namespace LW
open PySem PySem.Spec PyProof.Rows L2
section
variable {C : Cn} {W : XK} {X : Cx} {a b c : Expr} {fa fb fc : Ex} {pos : Pos} {es : List Expr} {fr : Ar} {ρ : Rho} {H : Hp} {m : Mem}

/-! ### a new thing that is to change -/
def Rho.more (ρ : Rho) (p : Addr) : Rho := ⟨ρ.l ++ [(p, true)], ρ.z⟩
theorem lives_more {p q : Addr} : lives (ρ.more p) q ↔ lives ρ q ∨ q = p := by
  unfold lives Rho.more
  simp only [List.mem_append, List.mem_singleton, Prod.mk.injEq, and_true]
  constructor
  · rintro ((h | h) | h)
    · exact .inl (.inl h)
    · exact .inr h
    · exact .inl (.inr h)
  · rintro ((h | h) | h)
    · exact .inl (.inl h)
    · exact .inr h
    · exact .inl (.inr h)
theorem ext_more {p : Addr} {o : HO} (hp : H p = none) : Ext ρ H (ρ.more p) (upd H p o) := by
  refine ⟨fun n a ⟨l, h⟩ => ⟨l, ?_⟩, fun b u pl n r => ?_, fun b u pl n r => ?_, fun b o' z q => ⟨z, same_upd hp _ _ q⟩, (Ext.of_same (ρ := ρ) (same_upd hp)).there⟩
  · show (ρ.l ++ [(p, true)])[n]? = _
    rw [List.getElem?_append_left (List.getElem?_eq_some_iff.mp h).1]
    exact h
  · exact ⟨fun hl => (lives_more.mp hl).elim n fun e => absurd r (by rw [e, hp]; exact fun z => (nomatch z)), same_upd hp _ _ r⟩
  · exact ⟨fun hl => (lives_more.mp hl).elim n (fun e => by rcases r with r | ⟨_, r⟩ <;> (rw [e, hp] at r; cases r)), Rd.same (same_upd hp) r⟩
/-- what is told of a thing stays so -/
theorem RepO.ext {ρ' : Rho} {H' : Hp} {a : Addr} {l : Bool} (x : Ext ρ H ρ' H') (e : l = true → H' a = H a) : ∀ {o : MO}, RepO C ρ H a l o → RepO C ρ' H' a l o
  | .lst ds, h => by
    obtain ⟨hl, xs, q, r⟩ := h
    exact ⟨hl, xs, (e hl).trans q, r.ext x⟩
  | .dct ks vs, h => by
    obtain ⟨hl, xs, r, h⟩ := h
    refine ⟨hl, xs, r.ext x, ?_⟩
    rcases h with ⟨kk, l, ek, q⟩ | ⟨kk, l, ek, q⟩
    · exact .inl ⟨kk, l, ek, (e hl).trans q⟩
    · exact .inr ⟨kk, l, ek, (e hl).trans q⟩
  | .ins c fs, h => by
    obtain ⟨hl, Cc, dx, vs, h1, h2, h3, h4⟩ := h
    exact ⟨hl, Cc, dx, vs, h1, h2, (e hl).trans h3, h4.ext x⟩
  | .gd ks vs, h => by
    obtain ⟨hl, xs, vv, h1, h2, h3, h4, h5⟩ := h
    exact ⟨hl, xs, vv, (e hl).trans h1, h2, h3, h4.ext x, h5.ext x⟩
  | .gone, h => h
theorem RepM.more {p : Addr} {o : HO} {u : MO} (rm : RepM C ρ H m) (hp : H p = none) (ru : RepO C (ρ.more p) (upd H p o) p true u) : RepM C (ρ.more p) (upd H p o) (m ++ [u]) := by
  have x : Ext ρ H (ρ.more p) (upd H p o) := ext_more hp
  refine ⟨by show (ρ.l ++ [(p, true)]).length = _; rw [List.length_append, List.length_append, rm.len]; rfl, fun n a l w h1 h2 => ?_, fun n k a h1 h2 => ?_, fun a z => ⟨x.there a (rm.hid a z).1, fun hm => ?_⟩⟩
  · change (ρ.l ++ [(p, true)])[n]? = some (a, l) at h1
    by_cases hn : n < ρ.l.length
    · rw [List.getElem?_append_left hn] at h1
      rw [List.getElem?_append_left (by rw [← rm.len]; exact hn)] at h2
      refine (rm.obj n a l w h1 h2).ext x fun e => ?_
      subst e
      rw [upd_ne]
      intro e
      subst e
      exact rm.free_of hp (.inl (List.mem_of_getElem? h1))
    · have e : n = ρ.l.length := by
        have := (List.getElem?_eq_some_iff.mp h1).1
        rw [List.length_append, List.length_singleton] at this
        omega
      subst e
      rw [List.getElem?_append_right (Nat.le_refl _), Nat.sub_self] at h1
      rw [List.getElem?_append_right (by rw [rm.len]; exact Nat.le_refl _), rm.len, Nat.sub_self] at h2
      cases h1
      cases h2
      exact ru
  · have key : ∀ {n : Nat}, (ρ.l ++ [(p, true)])[n]? = some (a, true) → (ρ.l[n]? = some (a, true) ∧ a ≠ p) ∨ (n = ρ.l.length ∧ a = p) := fun {n} h => by
      by_cases hn : n < ρ.l.length
      · rw [List.getElem?_append_left hn] at h
        refine .inl ⟨h, fun e => ?_⟩
        subst e
        exact rm.free_of hp (.inl (List.mem_of_getElem? h))
      · have e : n = ρ.l.length := by
          have := (List.getElem?_eq_some_iff.mp h).1
          rw [List.length_append, List.length_singleton] at this
          omega
        subst e
        rw [List.getElem?_append_right (Nat.le_refl _), Nat.sub_self] at h
        cases h
        exact .inr ⟨rfl, rfl⟩
    rcases key h1 with ⟨q1, n1⟩ | ⟨q1, n1⟩ <;> rcases key h2 with ⟨q2, n2⟩ | ⟨q2, n2⟩
    · exact rm.dis n k a q1 q2
    · exact absurd n2 n1
    · exact absurd n1 n2
    · rw [q1, q2]
  · have hm : (a, true) ∈ ρ.l ++ [(p, true)] := hm
    rcases List.mem_append.mp hm with h | h
    · exact (rm.hid a z).2 h
    · have e : a = p := by simpa using h
      subst e
      exact (rm.hid a z).1 hp
theorem more_ref {p : Addr} {o : HO} (rm : RepM C ρ H m) : RepV C (ρ.more p) (upd H p o) (.ref m.length) (.ref p) := by
  simp only [RepV]
  refine ⟨p, rfl, true, ?_⟩
  show (ρ.l ++ [(p, true)])[m.length]? = _
  rw [← rm.len, List.getElem?_append_right (Nat.le_refl _), Nat.sub_self]
  rfl
/-- .. a list -/
theorem new_lst {p : Addr} {ds : List D} {xs : List V} (rm : RepM C ρ H m) (hp : H p = none) (rl : RepL C ρ H ds xs) : Ext ρ H (ρ.more p) (upd H p (.lst xs)) ∧ RepM C (ρ.more p) (upd H p (.lst xs)) (m ++ [.lst ds]) ∧ RepV C (ρ.more p) (upd H p (.lst xs)) (.ref m.length) (.ref p) :=
  ⟨ext_more hp, rm.more hp ⟨rfl, xs, upd_same, rl.ext (ext_more hp)⟩, more_ref rm⟩
theorem de_newL (h : DA C W X es fr) : DE C W X (.List es pos) (newE (lstE fr)) := by
  refine PE.imp (pe_lst h) ?_
  rintro σ H Q ⟨ρ, g, m, re, rm, h⟩
  have asc : ∀ {α β γ : Type} (r : R α) (f : α → Mem → R β) (f' : β → Mem → R γ), (r.bind f).bind f' = r.bind fun a m => (f a m).bind f' := fun r f f' => by cases r <;> rfl
  simp only [newE, lstE, asc] at h
  refine ⟨ρ, g, m, re, rm, h.bind.imp fun ds m1 ρ1 H1 x1 rm1 h1 vs r => ?_⟩
  by_cases hz : ds.length ≤ lim
  · rw [if_pos hz] at h1
    refine ⟨by rw [← lim_eq, ← r.length]; exact hz, fun p hp => ?_⟩
    obtain ⟨a1, a2, a3⟩ := new_lst rm1 hp r
    exact h1 _ _ a1 a2 _ a3
  · rw [if_neg hz] at h1; exact h1.elim
theorem de_newList {x : Str} {p : Pos} (hK : C.K = X.K) (hc : X.calm = true) (hg : Gl X x) (hm : X.mg x = none) (hv : bootBuiltins x = some (.type "list")) (ha : DE C W X a fa) (hn : x ≠ "__name__" := by decide) (hdb : (x == ("__debug__" : Str)) = false := by decide)
    (he : starEach (a :: []) X.env = (false, eval a X.env) :: starEach [] X.env := by rfl) : DE C W X (.Call (.Name x p) [a] [] pos) (newE (bE listB (consA fa nilA))) := by
  refine PE.imp (pe_callTy (or_list hc) hg hm hv (pa_cons ha pa_nil he) hn hdb he rfl) ?_
  rintro σ H Q ⟨ρ, g, m, re, rm, h⟩
  have asc : ∀ {α β γ : Type} (r : R α) (f : α → Mem → R β) (f' : β → Mem → R γ), (r.bind f).bind f' = r.bind fun a m => (f a m).bind f' := fun r f f' => by cases r <;> rfl
  simp only [newE, bE, consA, nilA, asc] at h
  refine ⟨ρ, g, m, re, rm, h.bind.imp fun d m1 ρ1 H1 x1 rm1 h1 v r => ?_⟩
  simp only [R.bind_ok] at h1
  show rList2 X.K [v] H1 Q
  rw [← hK]
  cases e : listB m1 [d] with
  | none => rw [e] at h1; exact h1.elim
  | some w =>
    rw [e] at h1
    simp only [opt_some, R.bind_ok] at h1
    have viaS : ∀ ds, seqOf m1 d = some ds → w = .lst ds → rList2 C.K [v] H1 Q := fun ds e1 e2 => by
      obtain ⟨q, xs, rfl, sq, rl⟩ := seq_read rm1 r e1
      subst e2
      refine .inr ⟨q, xs, rfl, sq, fun p hp => ?_⟩
      obtain ⟨a1, a2, a3⟩ := new_lst rm1 hp rl
      exact h1 _ _ a1 a2 _ a3
    cases d with
    | str s =>
      cases e
      obtain ⟨e1, l1, c1⟩ := r.str_at
      refine .inl ⟨_, by rw [e1], by rw [str_len, ← lim_eq]; exact l1, fun p hp => ?_⟩
      obtain ⟨a1, a2, a3⟩ := new_lst rm1 hp (signs_rep c1)
      exact h1 _ _ a1 a2 _ a3
    | tup ds => cases e; exact viaS _ rfl rfl
    | tpx ds => cases e; exact viaS _ rfl rfl
    | lst ds => cases e; exact viaS _ rfl rfl
    | scr ns => cases e; exact viaS _ rfl rfl
    | ref n =>
      simp only [listB] at e
      obtain ⟨ds, h3, h4⟩ := Option.map_eq_some_iff.mp e
      exact viaS ds h3 h4.symm
    | _ => cases e

/-! ### a thing is changed -/
theorem ext_put {n : Nat} {p : Addr} {o : HO} (rm : RepM C ρ H m) (hn : ρ.l[n]? = some (p, true)) : Ext ρ H ρ (upd H p o) := by
  have hp : lives ρ p := .inl (List.mem_of_getElem? hn)
  refine ⟨fun _ _ h => h, fun b u pl nl r => ⟨nl, ?_⟩, fun b u pl nl r => ⟨nl, ?_⟩, fun b o' z q => ⟨z, ?_⟩, fun b hb => ?_⟩
  · rw [upd_ne (fun e => nl (by rw [e]; exact hp))]; exact r
  · have ne : b ≠ p := fun e => nl (by rw [e]; exact hp)
    rcases r with r | ⟨ob, r⟩
    · exact .inl (by rw [upd_ne ne]; exact r)
    · exact .inr ⟨ob, by rw [upd_ne ne]; exact r⟩
  · rw [upd_ne (fun e => (rm.hid b z).2 (by rw [e]; exact List.mem_of_getElem? hn))]; exact q
  · by_cases e : b = p
    · rw [e, upd_same]; exact fun z => nomatch z
    · rw [upd_ne e]; exact hb
theorem RepM.put {n : Nat} {p : Addr} {o : HO} {u : MO} (rm : RepM C ρ H m) (hn : ρ.l[n]? = some (p, true)) (ru : RepO C ρ (upd H p o) p true u) : RepM C ρ (upd H p o) (m.set n u) := by
  have x := ext_put (o := o) rm hn
  refine ⟨by rw [List.length_set]; exact rm.len, fun k a l w h1 h2 => ?_, rm.dis, fun a z => ⟨x.there a (rm.hid a z).1, (rm.hid a z).2⟩⟩
  by_cases e : n = k
  · subst e
    rw [hn] at h1
    cases h1
    have hl : n < m.length := by rw [← rm.len]; exact (List.getElem?_eq_some_iff.mp hn).1
    rw [List.getElem?_set_self hl] at h2
    cases h2
    exact ru
  · rw [List.getElem?_set_ne e] at h2
    refine (rm.obj k a l w h1 h2).ext x fun hl => ?_
    subst hl
    rw [upd_ne]
    intro ea
    subst ea
    exact e (rm.dis n k a hn h1)
/-- what a list's method asks -/
def MtS (C : Cn) (r : V → List V → Hp → VK → Prop) (f : Mt) : Prop := ∀ (ρ : Rho) (H : Hp) (p : Addr) (ds es : List D) (xs ys : List V) (d : D) (ds' : List D) (Q : VK), H p = some (.lst xs) → RepL C ρ H ds xs → RepL C ρ H es ys → f ds es = some (d, ds') →
  (∀ v xs', RepV C ρ H d v → RepL C ρ H ds' xs' → Q v (upd H p (.lst xs'))) → r (.ref p) ys H Q
theorem mt_of {r : V → List V → Hp → VK → Prop} {f : Mt} (hs : MtS C r f) (σ : St) (H : Hp) (Q : VK) (h : tD C W (mtE f fa fr) σ H Q) :
    tBM X.K "list" r (tD C W fa) (tDA C W fr) σ H Q := by
  obtain ⟨ρ, g, m, re, rm, h⟩ := h
  refine ⟨ρ, g, m, re, rm, h.bind.imp fun d m1 ρ1 H1 x1 rm1 h1 v rv => ?_⟩
  cases d with
  | ref n =>
    simp only at h1
    split at h1
    · rename_i ds0 q1
      obtain ⟨p, xs0, rfl, hn, sq0, rl0⟩ := rm1.lst_at rv q1
      refine ⟨.inl ⟨rfl, xs0, .inl (.inl sq0)⟩, ρ1, g, m1, re.ext x1, rm1, h1.bind.imp fun ys m2 ρ2 H2 x2 rm2 h2 vs rys => ?_⟩
      split at h2
      · rename_i ds q2
        obtain ⟨p2, xs, e2, hn2, sq, rl⟩ := rm2.lst_at (rv.ext x2) q2
        cases e2
        cases e : f ds ys with
        | none => rw [e] at h2; exact h2.elim
        | some w =>
          obtain ⟨d', ds'⟩ := w
          rw [e] at h2
          refine hs ρ2 H2 p ds ys xs vs d' ds' Q sq rl rys e fun v' xs' r1 r2 => ?_
          have x3 := ext_put (o := .lst xs') rm2 hn2
          exact h2 ρ2 _ x3 (rm2.put hn2 ⟨rfl, xs', upd_same, r2.ext x3⟩) v' (r1.ext x3)
      · exact h2.elim
    · exact h1.elim
  | _ => exact h1.elim
theorem RepL.erase {ρ : Rho} {H : Hp} {ds : List D} {vs : List V} (h : RepL C ρ H ds vs) (k : Nat) : RepL C ρ H (ds.eraseIdx k) (vs.eraseIdx k) := by
  rw [List.eraseIdx_eq_take_drop_succ, List.eraseIdx_eq_take_drop_succ]
  exact (h.take k).append (h.drop (k + 1))
theorem ms_app : MtS C rAppend appM := by
  intro ρ H p ds es xs ys d ds' Q hp rl rys e q
  cases es with
  | nil => cases e
  | cons y r =>
    cases r with
    | cons _ _ => cases e
    | nil =>
      simp only [RepL] at rys
      obtain ⟨v, _, rfl, r1, rfl⟩ := rys
      simp only [appM] at e
      split at e
      · rename_i hz
        cases e
        refine ⟨p, xs, v, rfl, rfl, hp, by rw [← rl.length, ← lim_eq]; exact hz, q _ _ rv_non (rl.append ?_)⟩
        simp only [RepL]
        exact ⟨v, [], rfl, r1, rfl⟩
      · cases e
theorem ms_popAt : MtS C rPopAt popAtM := by
  intro ρ H p ds es xs ys d ds' Q hp rl rys e q
  have hlim : lim = 16777216 := rfl
  cases es with
  | nil => cases e
  | cons y r =>
    cases r with
    | cons _ _ => cases y <;> cases e
    | nil =>
      simp only [RepL] at rys
      obtain ⟨v, _, rfl, r1, rfl⟩ := rys
      cases y with
      | int i =>
        simp only [popAtM] at e
        split at e
        · rename_i hz
          split at e
          · rename_i k hk
            split at e
            · rename_i d1 hd
              cases e
              have hk' : ixN xs.length i = some k := by rw [← rl.length]; exact hk
              obtain ⟨h1, h2, h3, h4⟩ := ixN_seq hk'
              obtain ⟨v2, hv, rv⟩ := rl.get hd
              have hxl : xs.length ≤ 16777216 := by rw [← rl.length]; exact hz
              refine ⟨p, xs, i, k, v2, rfl, by rw [r1.int_at], hp, by omega, by omega, h1, hv, q _ _ rv ?_⟩
              exact rl.erase k
            · cases e
          · cases e
        · cases e
      | _ => cases e
theorem RepL.dropLast {ρ : Rho} {H : Hp} {ds : List D} {vs : List V} (h : RepL C ρ H ds vs) : RepL C ρ H ds.dropLast vs.dropLast := by
  rw [List.dropLast_eq_take, List.dropLast_eq_take, h.length]
  exact h.take _
theorem ms_pop : MtS C rPop popM := by
  intro ρ H p ds es xs ys d ds' Q hp rl rys e q
  cases es with
  | cons _ _ => cases e
  | nil =>
    simp only [RepL] at rys
    subst rys
    simp only [popM] at e
    split at e
    · rename_i d1 hd
      cases e
      obtain ⟨v2, hv, rv⟩ := rl.get hd
      exact ⟨p, xs, v2, rfl, rfl, hp, by rw [← rl.length]; exact hv, q _ _ rv rl.dropLast⟩
    · cases e
/-! ### methods by name -/
variable {o e : Expr} {fo : Ex} {apos cpos : Pos}
end
/-! ### frozen -/
section
variable {C : Cn} {W : XK} {X : Cx} {ρ : Rho} {H : Hp} {m : Mem}
end
end LW
/-! LwS: names with their facts by rfl; join; lists' methods without arguments; how many targets; a small dict that is asked at once. -/
namespace LW
open PySem PySem.Spec PyProof.Rows L2
section
variable {C : Cn} {W : XK} {X : Cx} {a b c o e : Expr} {fa fb fc : Ex} {t : Ts} {fr : Ar} {pos : Pos} {ρ : Rho} {H : Hp} {m : Mem}
theorem dv (i : Nat) {x : Str} {pos : Pos} (hN : X.N[i]? = some x := by rfl) (hv : Vis X.env.scope x := by first | exact Or.inl rfl | exact Or.inr (Or.inl rfl) | exact Or.inr (Or.inr rfl)) (hd : (x == ("__debug__" : Str)) = false := by decide)
    (hcd : (x == ("__classdict__" : Str)) = false := by decide) : DE C W X (.Name x pos) (vE i) := de_var hN hv hd hcd

/-! ### how many targets -/
def TgNo (t : Tg) : Prop := ∀ d g m c m', t d g m ≠ .exc c m'
def GsNo (n : Nat) (t : Gs) : Prop := (∀ ds g m g' m', t ds g m = .ok g' m' → ds.length = n) ∧ ∀ ds g m c m', t ds g m ≠ .exc c m'
theorem no_nm {i : Nat} : TgNo (nmG i) := fun d g m c m' e => by cases e
theorem gs_nil : GsNo 0 nilG := ⟨fun ds g m g' m' e => by cases ds <;> simp_all, fun ds g m c m' e => by cases ds <;> simp_all⟩
theorem gs_cons {t : Tg} {r : Gs} {n : Nat} (h1 : TgNo t) (h2 : GsNo n r) : GsNo (n + 1) (consG t r) := by
  refine ⟨fun ds g m g' m' e => ?_, fun ds g m c m' e => ?_⟩
  · cases ds with
    | nil => cases e
    | cons d ds =>
      simp only [consG] at e
      cases q : t d g m with
      | bad => rw [q] at e; cases e
      | exc c m2 => exact absurd q (h1 _ _ _ _ _)
      | ok g1 m1 => rw [q] at e; rw [List.length_cons, h2.1 _ _ _ _ _ e]
  · cases ds with
    | nil => cases e
    | cons d ds =>
      simp only [consG] at e
      cases q : t d g m with
      | bad => rw [q] at e; cases e
      | exc c m2 => exact absurd q (h1 _ _ _ _ _)
      | ok g1 m1 => rw [q] at e; exact h2.2 _ _ _ _ _ e
theorem dg_tupN {es : List Expr} {k n : Nat} {tgs : Gs} (hK : C.K = X.K) (hc : X.calm = true) (h : DGs C W X es tgs) (hl : GsNo n tgs)
    (hn : (assignEach es X.env).length = n := by rfl) (hst : (assignEach es X.env).findIdx? (·.1) = none := by rfl) : DG C W X (.Tuple es k pos) (tupG tgs) :=
  dg_tup hK hc h hl.1 (fun ds g m c m' e => absurd e (hl.2 _ _ _ _ _)) hn hst

/-! ### methods without arguments -/
theorem mt0_of {r : V → List V → Hp → VK → Prop} {f : Mt} (hs : MtS C r f) (σ : St) (H : Hp) (Q : VK) (h : tD C W (mtE f fa nilA) σ H Q) : tBM0 X.K "list" r (tD C W fa) σ H Q := by
  obtain ⟨ρ, g, m, re, rm, h⟩ := h
  refine ⟨ρ, g, m, re, rm, h.bind.imp fun d m1 ρ1 H1 x1 rm1 h1 v rv => ?_⟩
  cases d with
  | ref n =>
    simp only at h1
    split at h1
    · rename_i ds q2
      obtain ⟨p, xs, rfl, hn2, sq, rl⟩ := rm1.lst_at rv q2
      refine ⟨.inl ⟨rfl, xs, .inl (.inl sq)⟩, ?_⟩
      simp only [nilA, R.bind_ok] at h1
      rw [q2] at h1
      simp only at h1
      cases e : f ds [] with
      | none => rw [e] at h1; exact h1.elim
      | some w =>
        obtain ⟨d', ds'⟩ := w
        rw [e] at h1
        refine hs ρ1 H1 p ds [] xs [] d' ds' Q sq rl (by simp only [RepL]) e fun v' xs' r1 r2 => ?_
        have x3 := ext_put (o := .lst xs') rm1 hn2
        exact h1 ρ1 _ x3 (rm1.put hn2 ⟨rfl, xs', upd_same, r2.ext x3⟩) v' (r1.ext x3)
    · exact h1.elim
  | _ => exact h1.elim
/-! ### join -/
theorem join_eq (s : List Nat) : ∀ ps : List (List Nat), TL.joinL s ps = joinL s ps
  | [] => rfl
  | [p] => rfl
  | p :: q :: r => by
    show p ++ (s ++ TL.joinL s (q :: r)) = p ++ s ++ joinL s (q :: r)
    rw [join_eq s (q :: r), List.append_assoc]
theorem joinL_lt {s : List Nat} (hs : ∀ c ∈ s, c < 1114112) : ∀ {ps : List (List Nat)}, (∀ p ∈ ps, ∀ c ∈ p, c < 1114112) → ∀ c ∈ joinL s ps, c < 1114112
  | [], _, c, hc => by simp [joinL] at hc
  | [p], h, c, hc => h p (by simp) c hc
  | p :: q :: r, h, c, hc => by
    simp only [joinL, List.mem_append] at hc
    rcases hc with (hc | hc) | hc
    · exact h p (by simp) c hc
    · exact hs c hc
    · exact joinL_lt hs (fun p' hp' => h p' (List.mem_cons_of_mem _ hp')) c hc
theorem joinL_len (s : List Nat) : ∀ ps : List (List Nat), (joinL s ps).length ≤ (ps.map List.length).sum + ps.length * s.length
  | [] => by simp [joinL]
  | [p] => by simp [joinL]
  | p :: q :: r => by
    have h := joinL_len s (q :: r)
    simp only [joinL, List.length_append, List.map_cons, List.sum_cons, List.length_cons] at h ⊢
    have e : (r.length + 1 + 1) * s.length = (r.length + 1) * s.length + s.length := by rw [Nat.add_mul, Nat.one_mul]
    omega
theorem de_join {apos cpos : Pos} (hK : C.K = X.K) (ho : DE C W X o fa) (he : DE C W X e fb) (hs : starEach [e] X.env = [(false, eval e X.env)] := by rfl) (hbase : attributeBase o "join" X.env (eval o X.env) = eval o X.env := by rfl) (hline : (apos.endLine == cpos.line) = true := by rfl) :
    DE C W X (.Call (.Attribute o "join" apos) [e] [] cpos) (sopE joinD fa fb) := by
  refine PE.imp (pe_m1 F.slot_str_join F.type_str_join mt_join ho he hs hbase hline) ?_
  rintro σ H Q ⟨ρ, g, m, re, rm, h⟩
  refine ⟨ρ, g, m, re, rm, h.bind.imp fun d m1 ρ1 H1 x1 rm1 h1 v rv => ?_⟩
  cases d with
  | str s =>
    simp only [RepV] at rv
    obtain ⟨rfl, hl, hc⟩ := rv
    refine ⟨⟨_, rfl⟩, ρ1, g, m1, re.ext x1, rm1, h1.bind.imp fun d2 m2 ρ2 H2 x2 rm2 h2 v2 rv2 => ?_⟩
    obtain ⟨d, e, q⟩ := h2.opt rm2
    simp only [joinD] at e
    split at e
    · rename_i ds q1
      split at e
      · rename_i ps q2
        split at e
        · rename_i hz
          cases e
          obtain ⟨p, xs, rfl, sq, rl⟩ := seq_read rm2 rv2 q1
          obtain ⟨rfl, hcs⟩ := strs_of q2 rl
          have hz' : ((ps.map fun p => (⟨p.toArray⟩ : Str)).map (·.length)).sum + (ps.map fun p => (⟨p.toArray⟩ : Str)).length * (⟨s.toArray⟩ : Str).length ≤ 16777216 := by
            have e1 : (ps.map fun p => (⟨p.toArray⟩ : Str)).map (·.length) = ps.map List.length := by
              rw [List.map_map]
              exact List.map_congr_left fun p _ => by show p.toArray.size = _; simp
            rw [e1, List.length_map]
            have e2 : (⟨s.toArray⟩ : Str).length = s.length := by show s.toArray.size = _; simp
            rw [e2]
            exact hz
          refine ⟨_, p, _, rfl, rfl, hK ▸ sq, hz', ?_⟩
          refine q _ _ (fun _ _ e => e) ?_
          refine rep_str ?_ (Nat.le_trans (joinL_len s ps) hz) (List.all_eq_true.mpr fun c hc' => decide_eq_true (joinL_lt hc hcs c hc'))
          rw [TL.join_eq]
          refine (TL.tl_join _ _).trans ?_
          rw [← join_eq]
          show TL.joinL (s.toArray).toList _ = _
          have e3 : (ps.map fun p => (⟨p.toArray⟩ : Str)).map TL.tl = ps := by
            rw [List.map_map]
            conv => rhs; rw [← List.map_id ps]
            exact List.map_congr_left fun p _ => by show (p.toArray).toList = _; simp
          rw [e3]
        · cases e
      · cases e
    · cases e
  | _ => exact h1.elim

/-! ### a small dict, asked at once -/
theorem hide_str {ρ1 : Rho} {H1 : Hp} {s : List Nat} {v : V} (h : RepV C ρ1 H1 (.str s) v) : v = .str ⟨s.toArray⟩ := by simp only [RepV] at h; exact h.1
theorem two_look {k1 k2 q : Key} {w1 w2 : V} : valV (mergeK [] [(k1, w1), (k2, w2)]) q = if q = k2 then some w2 else if q = k1 then some w1 else none := by
  by_cases h12 : k1 = k2
  · subst h12
    by_cases hq : q = k1
    · subst hq
      simp [mergeK, putK, valV]
    · have hq' : ¬ k1 = q := fun e => hq e.symm
      simp [mergeK, putK, valV, hq, hq']
  · have h21 : ¬ k2 = k1 := fun e => h12 e.symm
    by_cases hq : q = k1
    · subst hq
      simp [mergeK, putK, valV, h12, h21]
    · have hq' : ¬ k1 = q := fun e => hq e.symm
      by_cases hq2 : q = k2
      · subst hq2
        simp [mergeK, putK, valV, h12, h21]
      · have hq3 : ¬ k2 = q := fun e => hq2 e.symm
        simp [mergeK, putK, valV, h12, h21, hq, hq2, hq', hq3]
theorem key_eq {x y : List Nat} : ((.inr ⟨x.toArray⟩ : Key) = .inr ⟨y.toArray⟩) ↔ x = y := by
  constructor
  · intro e
    have e1 := Sum.inr.inj e
    have e2 : x.toArray = y.toArray := congrArg Str.cps e1
    simpa using e2
  · intro e; rw [e]
end
end LW
/-! LwT: sets of a text's signs: how many, in their order. -/
namespace LW
open PySem PySem.Spec PyProof.Rows L2 PySem.Froz
section
variable {P : Program} {w : World} {A : Around} {E : Value → Shared → Prop} {s : Shared}
/-- the table can be walked -/
def RL (w : World) (G : SD) : Prop := Ris G.2.2.place.toList ∧ (w.params.followText "set-order" = true ∨ G.2.2.led = true)
theorem tail_rl {ep : Nat} {es : Array (Int × Value)} {t : SetTable} {b : Bool} (hr : Ris t.place.toList) (hl : w.params.followText "set-order" = true ∨ t.led = true) : RL w (tailTx ep es t b) := by
  unfold tailTx
  by_cases c : (!b && t.tooFull) = true
  · rw [if_pos c]
    exact ⟨relayAll_ris t es _, hl.imp id fun z => (relayAll_led t es _).trans z⟩
  · rw [if_neg c]
    exact ⟨hr, hl⟩
theorem add_rl {G : SD} {h : Int} {v : Value} (r : RL w G) : RL w (addTx h v G) := by
  have r1 := layNew_ris G.2.2 G.1 h v r.1
  have l1 := layNew_led G.2.2 G.1 h v
  have l2 : w.params.followText "set-order" = true ∨ (layNew G.2.2 G.1 h v).2.1.led = true := r.2.imp id fun z => l1.trans z
  unfold addTx
  refine tail_rl ?_ ?_
  · by_cases c : (layNew G.2.2 G.1 h v).2.1.plain = true
    · rw [if_pos c]; exact r1
    · rw [if_neg c]; exact r1
  · by_cases c : (layNew G.2.2 G.1 h v).2.1.plain = true
    · rw [if_pos c]; exact l2
    · rw [if_neg c]; exact l2
/-- a text that is there already is not put in again -/
theorem old_x {a : Addr} {G : SD} {l : List Str} {k : Str} {u : Tok} {Q : Bool → Shared → Prop} (ho : s.heap.get? a = some (sObj "set" G)) (F : TxOk P w G l) (hk : k ∈ l) (hb : l.length < scanBound) (h : Q false s) :
    wpAny (model P w) A (setAddHashed a (.str k u) (hashStr w k)) Q E s := by
  obtain ⟨es, ep, t⟩ := G
  have hkey : (strKind P w).is k (.str k u) = true := is_str k u
  have hb0 : es.size < scanBound := by have z : es.size = l.length := F.sz; omega
  unfold setAddHashed setAddHashedIn
  refine wpAny_holding (wpAny_bind (wpAny_setState_of ho (show (sObj "set" (es, ep, t)).data = .set es ep t from rfl) F.fit ?_))
  dsimp only
  rw [byScan_of rfl hb0 F.el]
  simp only [↓reduceIte]
  unfold setAddByScan
  refine wpAny_bind (wpAny_bind (wpAny_rule (wpAny_bind (wpAny_setScan_of (knd := strKind P w) (k := k) hkey ho (show (sObj "set" (es, ep, t)).data = .set es ep t from rfl) F.fit F.el ?_))))
  obtain ⟨e, he, q⟩ := (F.mem k).mp hk
  cases hf : List.findIdx? (fun e => (strKind P w).is k e.2) es.toList with
  | none =>
    have c := List.findIdx?_eq_none_iff.mp hf e he
    rw [q] at c
    cases c
  | some j =>
    dsimp only
    exact wpAny_pure (wpAny_pure h)
/-- the signs that have come, each once -/
def addNew (l : List Str) (c : Nat) : List Str := if sing c ∈ l then l else sing c :: l
end
section
variable {P : Program} {w : World} {A : Around} {R : Result → Shared → Prop} {I : Addr} {fp wr : List Addr} {n : Nat} {x : Str} {St : Nat → Heap → Prop} {a : Addr}
theorem cps_at {i c : Nat} (hc : x.cps[i]? = some c) : x.cps.toList.drop i = c :: x.cps.toList.drop (i + 1) := by
  have hc' : x.cps.toList[i]? = some c := by rw [Array.getElem?_toList]; exact hc
  obtain ⟨h1, h2⟩ := List.getElem?_eq_some_iff.mp hc'
  rw [List.drop_eq_getElem_cons h1, h2]
theorem upd_loop (W : Walks P w A.in1 I fp wr n (SignAt x) St) (hn : n = x.cps.size) (haf : a ∉ fp) : ∀ (m i : Nat) (s : Shared) (G : SD) (l : List Str), n - i = m → i ≤ n → St i s.heap →
    s.heap.get? a = some (sObj "set" G) → TxOk P w G l → RL w G → l.length + (n - i) + 1 < scanBound →
    (∀ h' tk G', (∀ b o, b ≠ a → b ∉ wr → s.heap.get? b = some o → h'.get? b = some o) → h'.get? a = some (sObj "set" G') → TxOk P w G' ((x.cps.toList.drop i).foldl addNew l) → RL w G' → R (.ok (.ret .none)) { s with heap := h', toks := tk }) →
    codeAny (model P w) A (.builtin "set.update.loop" ⟨[.ref a, .ref I], []⟩) R s := by
  have haw : a ∉ wr := fun z => haf (W.sub _ z)
  intro m
  induction m with
  | zero =>
    intro i s G l hm hi hst ha F r hb hR
    have hin : i = n := by omega
    refine codeAny_builtin PyProof.Rows.F.entry_set_update_loop ?_
    rw [Around.under_plainId PyProof.Rows.F.plain_set_update_loop _]
    show wpAny _ A.in1 (pyNext (.ref I) >>= _) _ _ s
    refine wpAny_bind (W.done s _ _ (hin ▸ hst) fun h' tk hk' => ?_)
    have q := hR h' tk G (fun b o _ hb e => hk' b o hb e) (hk' a _ haw ha)
    rw [List.drop_of_length_le (by rw [hin, hn]; simp)] at q
    show wpAny _ A.in1 (ret Value.none) _ _ _
    exact wpAny_pure (q F r)
  | succ m ih =>
    intro i s G l hm hi hst ha F r hb hR
    have hlt : i < n := by omega
    refine codeAny_builtin PyProof.Rows.F.entry_set_update_loop ?_
    rw [Around.under_plainId PyProof.Rows.F.plain_set_update_loop _]
    show wpAny _ A.in1 (pyNext (.ref I) >>= _) _ _ s
    refine wpAny_bind (W.item i s _ _ hlt hst fun v h' tk hP hst' hk' => ?_)
    obtain ⟨c, t, hc, rfl⟩ := hP
    have hd := cps_at hc
    have ha' : h'.get? a = some (sObj "set" G) := hk' a _ haw ha
    rw [hd] at hR
    show wpAny _ A.in1 (holding [Value.str (sing c) t] (setAdd a (.str (sing c) t)) >>= _) _ _ _
    refine wpAny_bind (wpAny_holding ?_)
    unfold setAdd
    refine wpAny_holding (wpAny_bind ((strKind P w).pyHash (k := sing c) (is_str _ _) ?_))
    by_cases hin : sing c ∈ l
    · refine old_x (s := { s with heap := h', toks := tk + 1 }) ha' F hin (by omega) ?_
      refine wpAny_pure ⟨plainId_quiet PyProof.Rows.F.plain_set_update_loop _, ih (i + 1) { s with heap := h', toks := tk + 1 } G l (by omega) hlt hst' ha' F r (by omega) fun h'' tk'' G'' k'' a'' F'' r'' => ?_⟩
      refine hR h'' tk'' G'' (fun b o h1 h2 e => k'' b o h1 h2 (hk' b o h2 e)) a'' ?_ r''
      rw [List.foldl_cons, show addNew l c = l from if_pos hin]
      exact F''
    · refine add_x (s := { s with heap := h', toks := tk + 1 }) (l := l) ha' F hin (by omega) ?_
      have hst2 : St (i + 1) (h'.update a fun _ => sObj "set" (addTx (hashStr w (sing c)) (.str (sing c) t) G)) := W.frame (i + 1) h' _ hst' fun b hb o e => Heap.get?_update_of_ne _ (fun z => haf (z ▸ hb)) e
      have ha2 := get_upd (sObj "set" (addTx (hashStr w (sing c)) (.str (sing c) t) G)) ha' rfl
      refine wpAny_pure ⟨plainId_quiet PyProof.Rows.F.plain_set_update_loop _, ih (i + 1) { s with heap := h'.update a fun _ => sObj "set" (addTx (hashStr w (sing c)) (.str (sing c) t) G), toks := tk + 1 } _ (sing c :: l) (by omega) hlt hst2 ha2 (add_ok t F) (add_rl r) (by rw [List.length_cons]; omega) fun h'' tk'' G'' k'' a'' F'' r'' => ?_⟩
      refine hR h'' tk'' G'' (fun b o h1 h2 e => k'' b o h1 h2 (Heap.get?_update_of_ne _ (Ne.symm h1) (hk' b o h2 e))) a'' ?_ r''
      rw [List.foldl_cons, show addNew l c = sing c :: l from if_neg hin]
      exact F''
end
section
variable {P : Program} {w : World} {A : Around} {E : Value → Shared → Prop} {s : Shared}
theorem set_made (v : Value) {Q : Value → Shared → Prop}
    (h : Q (.ref s.heap.objs.size) { s with heap := s.heap.push { cls := .type "set", dict := none, data := .set #[] 0 (.fresh 0 0 (!w.params.followText "set-order")) } }) :
    codeAny (model P w) A (.call (.builtin "set.__new__") ⟨[.type "set", v], []⟩) (wants Q E) s := by
  refine codeAny_of_tree ?_
  show wpAny _ A.in1 (do checkBuiltinCall "set.__new__" ⟨[.type "set", v], []⟩; again (.builtin "set.__new__" ⟨[.type "set", v], []⟩)) _ _ s
  refine wpAny_bind (wpAny_of_eq (PySem.F.newCall_set_1 v) (wpAny_pure ⟨plainId_quiet PySem.F.plain_set_new _, codeAny_builtin PySem.F.entry_set_new ?_⟩))
  rw [Around.under_plainId PySem.F.plain_set_new _]
  unfold Builtin.«set.__new__» Builtin.Frozenset.newClass
  have hsub := sub_set_self
  obtain ⟨hp, g, d, tk, os⟩ := s
  dsimp only
  wp_walk
  refine wpAny_askSetting (wpAny_pure ?_)
  dsimp only
  simp only [newObj]
  exact wpAny_bind (wpAny_alloc (wpAny_pure (wpAny_pure h)))
/-- set(text) -/
theorem call_set_text {y : Str} {tk0 : Tok} {Q : Value → Shared → Prop} (hh : A.handled = none) (hb : y.cps.size + 1 < scanBound)
    (h : ∀ (h' : Heap) (tk : Nat) (G : SD), h'.get? s.heap.objs.size = some (sObj "set" G) → TxOk P w G (y.cps.toList.foldl addNew []) → RL w G →
      (∀ b o, s.heap.get? b = some o → h'.get? b = some o) → Q (.ref s.heap.objs.size) { s with heap := h', toks := tk }) :
    wpAny (model P w) A (call (.type "set") [.str y tk0]) Q E s := by
  obtain ⟨c, tl, hmro⟩ := PySem.F.called_set.mro
  have hmade := PySem.F.called_set.made
  have hsub := PySem.F.called_set.sub
  refine wpAny_call (codeAny_of_tree ?_)
  show wpAny _ _ (callAny (.type "set") _) _ _ _
  refine wpAny_pure ⟨Code.quiet_builtin _ (by decide +kernel), codeAny_builtin PySem.F.entry_type_call ?_⟩
  rw [Around.under_plain (weight_type_call_type "set" [.str y tk0] []) rfl]
  have h1 := PySem.F.called_set.notType
  have h2 := PySem.F.called_set.canCreate
  have hct := PySem.F.typeCall_set_1 (.str y tk0)
  repeat (any_goals (first | assumption | wp_step))
  generalize hO : ({ cls := .type "set", dict := none, data := .set #[] 0 (.fresh 0 0 (!w.params.followText "set-order")) } : Obj) = O
  refine codeAny_mono (set_made (.str y tk0) (E := E) (Q := fun obj s1 => obj = .ref s.heap.objs.size ∧ s1 = { s with heap := s.heap.push O }) ⟨rfl, by rw [← hO]⟩) fun r s1 hr => ?_
  cases r with
  | error e => exact hr
  | ok fl =>
    cases fl with
    | ret obj =>
      obtain ⟨rfl, rfl⟩ := hr
      have hOc : O.cls = .type "set" := by rw [← hO]
      have hS : (s.heap.push O).get? s.heap.objs.size = some O := Heap.get?_push_size _ (by rw [← hO]; rfl)
      have hT : Shared.TypeIs { s with heap := s.heap.push O } (.ref s.heap.objs.size) "set" := ⟨_, hS, hOc⟩
      have hli := PySem.F.called_set.init.lookup
      have hbi := PySem.F.called_set.init.bind (.ref s.heap.objs.size)
      repeat (any_goals (first | assumption | wp_step))
      refine codeAny_mono (codeAny_call_builtin (R := wants (fun r s2 => r = .none ∧ ∃ h' tk G, s2 = { s with heap := h', toks := tk } ∧ h'.get? s.heap.objs.size = some (sObj "set" G) ∧ TxOk P w G (y.cps.toList.foldl addNew []) ∧ RL w G ∧
          (∀ b o, s.heap.get? b = some o → h'.get? b = some o)) E) PySem.F.called_set.init.plain PySem.F.entry_set_init (check_set_init_1 hT ?_)) fun r2 s2 hr2 => ?_
      · have hTy : Shared.TypeIs { s with heap := s.heap.push O } (.str y tk0) "str" := typeIs_str _ _ _
        have hsls := PySem.F.sub_str_set
        have hslf := PySem.F.sub_str_frozenset
        have hne : (Value.type "str" == Value.type "dict") = false := by decide
        subst hO
        unfold Builtin.«set.__init__» noKeywords Builtin.Frozenset.updateFrom
        generalize hPI : pyIter = PI
        wp_walk
        subst hPI
        refine wpAny_pyIter_str fun o St hW hst => ?_
        refine wpAny_bind (wpAny_runValue ?_)
        have hns : s.heap.objs.size ∉ [(s.heap.push { cls := .type "set", dict := none, data := .set #[] 0 (.fresh 0 0 (!w.params.followText "set-order")) }).objs.size] := by
          rw [Heap.size_push, List.mem_singleton]
          exact Nat.ne_of_lt (Nat.lt_succ_self _)
        have hG : ((s.heap.push { cls := .type "set", dict := none, data := .set #[] 0 (.fresh 0 0 (!w.params.followText "set-order")) }).push o).get? s.heap.objs.size = some (sObj "set" (#[], 0, .fresh 0 0 (!w.params.followText "set-order"))) := Heap.get?_push_of_some _ hS
        refine upd_loop (hW _ (by simp [hh])) rfl hns (y.cps.size - 0) 0 _ (#[], 0, .fresh 0 0 (!w.params.followText "set-order")) [] rfl (Nat.zero_le _) hst hG (TxOk.nil (by rfl)) ⟨List.Pairwise.nil, ?_⟩ (by simpa using hb) fun h' tk G' k' a' F' r' => ?_
        · show _ ∨ (!w.params.followText "set-order") = true
          cases w.params.followText "set-order"
          · exact .inr rfl
          · exact .inl rfl
        · show wpAny _ _ _ _ _ _
          refine wpAny_pure ?_
          show wpAny _ _ (ret Value.none) _ _ _
          refine wpAny_pure ⟨rfl, h', tk, G', rfl, a', F', r', fun b o' e => ?_⟩
          have hlt := Heap.lt_size e
          refine k' b o' (Nat.ne_of_lt hlt) ?_ (Heap.get?_push_of_some _ (Heap.get?_push_of_some _ e))
          rw [Heap.size_push, List.mem_singleton]
          exact Nat.ne_of_lt (Nat.lt_succ_of_lt hlt)
      · cases r2 with
        | error e => exact hr2
        | ok fl2 =>
          cases fl2 with
          | ret r =>
            obtain ⟨rfl, h', tk, G, rfl, g1, g2, g3, g4⟩ := hr2
            repeat (any_goals (first | assumption | wp_step))
            exact h _ _ G g1 g2 g3 g4
          | _ => exact hr2.elim
    | _ => exact hr.elim
/-! ### sorted -/
end
end LW
/-! LwU: len(set(text)), sorted(set(text)) over data. -/
namespace LW
open PySem PySem.Spec PyProof.Rows L2 PySem.Froz
/-! ### lists -/
theorem perm_of_sub {α : Type} [DecidableEq α] : ∀ {l m : List α}, l.Nodup → (∀ x ∈ l, x ∈ m) → m.length ≤ l.length → m.Perm l
  | [], m, _, _, hm => by
    have : m = [] := List.eq_nil_of_length_eq_zero (by simpa using hm)
    rw [this]
  | x :: l, m, nd, h, hm => by
    obtain ⟨n1, n2⟩ := List.nodup_cons.mp nd
    have hx : x ∈ m := h x (by simp)
    have p := List.perm_cons_erase hx
    refine p.trans (List.Perm.cons x (perm_of_sub n2 (fun y hy => ?_) ?_))
    · exact (List.mem_erase_of_ne (fun (e : y = x) => n1 (e ▸ hy))).mpr (h y (List.mem_cons_of_mem _ hy))
    · have := p.length_eq
      simp only [List.length_cons] at this hm
      omega
theorem fold_mem {k : Str} : ∀ (s : List Nat) (l : List Str), k ∈ s.foldl addNew l ↔ k ∈ l ∨ ∃ c ∈ s, k = sing c
  | [], l => by simp
  | c :: s, l => by
    rw [List.foldl_cons, fold_mem s]
    unfold addNew
    by_cases h : sing c ∈ l
    · rw [if_pos h]
      constructor
      · rintro (h1 | ⟨d, hd, e⟩)
        · exact .inl h1
        · exact .inr ⟨d, List.mem_cons_of_mem _ hd, e⟩
      · rintro (h1 | ⟨d, hd, e⟩)
        · exact .inl h1
        · rcases List.mem_cons.mp hd with rfl | hd
          · exact .inl (e ▸ h)
          · exact .inr ⟨d, hd, e⟩
    · rw [if_neg h]
      constructor
      · rintro (h1 | ⟨d, hd, e⟩)
        · rcases List.mem_cons.mp h1 with h1 | h1
          · exact .inr ⟨c, by simp, h1⟩
          · exact .inl h1
        · exact .inr ⟨d, List.mem_cons_of_mem _ hd, e⟩
      · rintro (h1 | ⟨d, hd, e⟩)
        · exact .inl (List.mem_cons_of_mem _ h1)
        · rcases List.mem_cons.mp hd with rfl | hd
          · exact .inl (List.mem_cons.mpr (.inl e))
          · exact .inr ⟨d, hd, e⟩
theorem fold_nodup : ∀ (s : List Nat) (l : List Str), l.Nodup → (s.foldl addNew l).Nodup
  | [], l, h => h
  | c :: s, l, h => by
    rw [List.foldl_cons]
    refine fold_nodup s _ ?_
    unfold addNew
    by_cases hc : sing c ∈ l
    · rw [if_pos hc]; exact h
    · rw [if_neg hc]; exact List.nodup_cons.mpr ⟨hc, h⟩
theorem sing_inj {c d : Nat} (h : sing c = sing d) : c = d := by
  have : [c] = [d] := congrArg (fun y : Str => y.cps.toList) h
  exact (List.cons.inj this).1
theorem dedup_mem {c : Nat} : ∀ {l : List Nat}, c ∈ dedup l ↔ c ∈ l
  | [] => by simp [dedup]
  | x :: r => by
    rw [dedup, List.mem_cons, List.mem_filter, dedup_mem (l := r), List.mem_cons]
    by_cases h : c = x
    · simp [h]
    · simp [h]
theorem dedup_nd : ∀ l : List Nat, (dedup l).Nodup
  | [] => by simp [dedup]
  | x :: r => by
    rw [dedup]
    refine List.nodup_cons.mpr ⟨fun h => ?_, (dedup_nd r).filter _⟩
    have := (List.mem_filter.mp h).2
    simp at this
theorem dedup_le : ∀ l : List Nat, (dedup l).length ≤ l.length
  | [] => by simp [dedup]
  | x :: r => by
    have h1 := dedup_le r
    have h2 := List.length_filter_le (fun y => decide (y ≠ x)) (dedup r)
    rw [dedup, List.length_cons, List.length_cons]
    omega
theorem map_sing_nd {l : List Nat} (h : l.Nodup) : (l.map sing).Nodup := by
  rw [List.nodup_iff_pairwise_ne] at h ⊢
  rw [List.pairwise_map]
  exact h.imp fun hab e => hab (sing_inj e)
theorem fold_perm (s : List Nat) : ((dedup s).map sing).Perm (s.foldl addNew []) := by
  have sub : ∀ k, k ∈ s.foldl addNew [] ↔ k ∈ (dedup s).map sing := fun k => by
    rw [fold_mem, List.mem_map]
    constructor
    · rintro (h | ⟨c, hc, e⟩)
      · simp at h
      · exact ⟨c, dedup_mem.mpr hc, e.symm⟩
    · rintro ⟨c, hc, e⟩
      exact .inr ⟨c, dedup_mem.mp hc, e.symm⟩
  have n1 := map_sing_nd (dedup_nd s)
  have n2 := fold_nodup s [] List.nodup_nil
  rcases Nat.le_total ((dedup s).map sing).length (s.foldl addNew []).length with h | h
  · exact perm_of_sub n2 (fun k hk => (sub k).mp hk) h
  · exact (perm_of_sub n1 (fun k hk => (sub k).mpr hk) h).symm
theorem fold_len (s : List Nat) : (s.foldl addNew []).length = (dedup s).length := by
  rw [← (fold_perm s).length_eq, List.length_map]
/-! ### the rules -/
section
variable {C : Cn} {W : XK} {X : Cx} {a : Expr} {fa : Ex} {p p2 pos pos2 : Pos}
def tLenT (ta : TE) : TE := fun σ H Q => ta σ H fun x H1 => ∃ z : Str, x = .str z ∧ z.cps.size < 4000 ∧ Q (.int (dedup z.cps.toList).length) H1
theorem pe_lenT {ta : TE} (hc : X.calm = true) (hg : Gl X "len") (hm : X.mg "len" = none) (hg2 : Gl X "set") (hm2 : X.mg "set" = none) (ha : PE X a ta)
    (na : starEach [a] X.env = (false, eval a X.env) :: starEach [] X.env := by rfl) : PE X (.Call (.Name "len" p) [.Call (.Name "set" p2) [a] [] pos2] [] pos) (tLenT ta) := by
  refine ⟨fun pins s σ H Q I h => ?_⟩
  refine Call_ (ld_blt I hg hm boot_len (PyProof.Rows.callWith_builtin1 (PyProof.Rows.args_cons ?_ rfl) rfl rfl))
  refine Call_ (ld_blt I hg2 hm2 boot_set (PyProof.Rows.callWith_type1 (PyProof.Rows.args_cons (thn (ha.run pins s σ H _ I h) fun v s1 ⟨x, H1, I1, r1, q1⟩ => PyProof.Rows.args_nil ?_) na) na rfl))
  obtain ⟨z, rfl, hz, q1⟩ := q1
  obtain ⟨u, rfl⟩ := id r1
  refine call_set_text (I1.ok.hd hc) (by unfold scanBound; omega) fun h' tk G g1 g2 g3 g4 => PyProof.Rows.args_nil ?_
  have I2 : Inv X pins σ H1 { s1 with heap := h', toks := tk } := I1.kept g4
  have hsz : G.1.size = (dedup z.cps.toList).length := by rw [g2.sz, fold_len]
  have hle : (dedup z.cps.toList).length < 4000 := by
    have h1 := dedup_le z.cps.toList
    have h2 : z.cps.toList.length = z.cps.size := Array.length_toList
    omega
  exact call_len_set g1 ⟨rfl, rfl, rfl⟩ rfl g2.fit (by rw [hsz]; omega) ⟨.int (dedup z.cps.toList).length, H1, I2.tok _, ⟨_, by rw [hsz]⟩, q1⟩
theorem txt_at {ρ : Rho} {H : Hp} {t : List Nat} {v : V} (h : RepV C ρ H (.str t) v) : v = .str ⟨t.toArray⟩ ∧ ∀ c ∈ t, c < 1114112 := by
  simp only [RepV] at h
  exact ⟨h.1, h.2.2⟩
theorem de_lenSet (hc : X.calm = true) (hg : Gl X "len") (hm : X.mg "len" = none) (hg2 : Gl X "set") (hm2 : X.mg "set" = none) (ha : DE C W X a fa) (na : starEach [a] X.env = (false, eval a X.env) :: starEach [] X.env := by rfl) :
    DE C W X (.Call (.Name "len" p) [.Call (.Name "set" p2) [a] [] pos2] [] pos) (unE lenSetD fa) := by
  refine PE.imp (pe_lenT hc hg hm hg2 hm2 ha na) ?_
  rintro σ H Q ⟨ρ, g, m, re, rm, h⟩
  refine ⟨ρ, g, m, re, rm, h.bind.imp fun d m1 ρ1 H1 x1 rm1 h1 v r => ?_⟩
  obtain ⟨d', e, q⟩ := h1.opt rm1
  cases d with
  | str t =>
    obtain ⟨rfl, hcs⟩ := txt_at r
    unfold lenSetD at e
    simp only at e
    split at e
    · rename_i hl
      cases e
      refine ⟨_, rfl, by simpa using hl, ?_⟩
      refine q _ H1 (fun _ _ e => e) ?_
      simp only [RepV, List.toList_toArray]
    · cases e
  | _ => cases e
end
end LW
/-! LwZ: zip over texts, lists, tuples, in any mixture. -/
namespace LW
open PySem PySem.Spec PyProof.Rows L2
/-- what is drawn from -/
inductive Src where
  | txt (z : Str) (t : Tok) | lst (a : Addr) | tup (a : Addr)
def Src.ad : Src → List Addr
  | .txt _ _ => [] | .lst a => [a] | .tup a => [a]
def Src.vals (K : PySem.W.Frag) : Src → Hp → List V → Prop
  | .txt z _, _, xs => xs = z.cps.toList.map fun c => .str ⟨#[c]⟩
  | .lst a, H, xs => SqL K H a xs
  | .tup a, H, xs => SqT K H a xs
def Src.itr : Src → Heap → Addr → Nat → Prop
  | .txt z t, h, it, i => h.IsStrIter it (strIterType z) z t i
  | .lst a, h, it, i => h.IsListIter it a i
  | .tup a, h, it, i => h.IsTupleIter it a i
def Src.val : Src → Value
  | .txt z t => .str z t | .lst a => .ref a | .tup a => .ref a
def Src.o : Src → Obj
  | .txt z t => { cls := .type (strIterType z), data := .fields #[.str z t, .int 0 0] }
  | .lst a => { cls := .type "list_iterator", data := .fields #[.ref a, .int 0 0] }
  | .tup a => { cls := .type "tuple_iterator", data := .fields #[.ref a, .int 0 0] }
theorem itr_keep {src : Src} {h h' : Heap} {it : Addr} {i : Nat} (x : src.itr h it i) (k : ∀ o, h.get? it = some o → h'.get? it = some o) : src.itr h' it i := by
  cases src with
  | txt z t => obtain ⟨o, ho, r⟩ := x; exact ⟨o, k o ho, r⟩
  | lst a => exact x.at k
  | tup a => exact x.at k
theorem itr_obj {src : Src} {h : Heap} {it : Addr} {i : Nat} (x : src.itr h it i) : ∃ o, h.get? it = some o ∧ ∀ v, o.data ≠ .cell v := by
  cases src with
  | txt z t => obtain ⟨o, ho, _, d⟩ := x; exact ⟨o, ho, fun v q => by rw [d] at q; cases q⟩
  | lst a => obtain ⟨o, ho, _, d⟩ := x; exact ⟨o, ho, fun v q => by rw [d] at q; cases q⟩
  | tup a => obtain ⟨o, ho, _, d⟩ := x; exact ⟨o, ho, fun v q => by rw [d] at q; cases q⟩
section
variable {X : Cx} {pins : List (Addr × Obj)} {σ : St} {H : Hp} {s : Shared} {A : Around}
theorem src_inj (I : Inv X pins σ H s) {src : Src} {xs ys : List V} (h1 : src.vals X.K H xs) (h2 : src.vals X.K H ys) : xs = ys := by
  cases src with
  | txt z t => rw [show xs = _ from h1, show ys = _ from h2]
  | lst a => exact I.list_inj h1 h2
  | tup a => exact I.tuple_inj h1 h2
theorem src_begins (I : Inv X pins σ H s) {src : Src} {xs : List V} (h : src.vals X.K H xs) : (∀ b ∈ src.ad, b < s.heap.objs.size) ∧ ∃ Hq, Begins src.val src.o Hq ∧ Hq s.heap := by
  cases src with
  | txt z t => exact ⟨fun b hb => by simp [Src.ad] at hb, _, begins_text z t, trivial⟩
  | lst a =>
    obtain ⟨its, rv, pl, _⟩ := I.list h
    refine ⟨fun b hb => ?_, _, begins_list a its.toArray, pl.isList⟩
    simp only [Src.ad, List.mem_singleton] at hb
    rw [hb]
    exact pl.lt
  | tup a =>
    obtain ⟨its, rv, pl, _⟩ := I.tuple h
    refine ⟨fun b hb => ?_, _, begins_tuple a its.toArray, pl⟩
    simp only [Src.ad, List.mem_singleton] at hb
    rw [hb]
    obtain ⟨o, ho, _⟩ := pl
    exact Heap.lt_size ho
theorem itr_zero {src : Src} {h : Heap} {it : Addr} (e : h.get? it = some src.o) : src.itr h it 0 := by
  cases src with
  | txt z t => exact ⟨_, e, rfl, rfl⟩
  | lst a => exact ⟨_, e, rfl, rfl⟩
  | tup a => exact ⟨_, e, rfl, rfl⟩
theorem src_draws (hh : A.handled = none) (I : Inv X pins σ H s) {src : Src} {it : Addr} {i : Nat} {xs : List V} (hne : it ∉ src.ad) (hv : src.vals X.K H xs) (hi : src.itr s.heap it i) :
    ∃ (Pv : Nat → Value → Prop) (St : Nat → Heap → Prop), Draws X.prog X.w A it (it :: src.ad) xs.length Pv St ∧ St i s.heap ∧ (∀ j v, Pv j v → ∃ x, xs[j]? = some x ∧ RelV x v) ∧ ∀ j h, St j h → src.itr h it j := by
  cases src with
  | txt z t =>
    have e : xs.length = z.cps.size := by rw [show xs = _ from hv]; simp
    rw [e]
    refine ⟨_, _, Draws.text hh it z t, hi, fun j v hp => ?_, fun j h q => q⟩
    obtain ⟨c, u, hc, rfl⟩ := hp
    refine ⟨.str ⟨#[c]⟩, ?_, u, rfl⟩
    rw [show xs = _ from hv, List.getElem?_map, Array.getElem?_toList, hc]
    rfl
  | lst a =>
    obtain ⟨its, rv, pl, _⟩ := I.list hv
    have e : xs.length = its.toArray.size := by rw [List.size_toArray]; exact rv.length
    rw [e]
    refine ⟨_, _, Draws.list hh it a (fun z => hne (by simp [Src.ad, z])) its.toArray, ⟨hi, pl.isList⟩, fun j v hp => ?_, fun j h q => q.1⟩
    have hp : its[j]? = some v := by simpa using hp
    have hj : j < xs.length := by rw [rv.length]; exact (List.getElem?_eq_some_iff.mp hp).1
    obtain ⟨u, hu, ru⟩ := rv.get (List.getElem?_eq_getElem hj)
    rw [hu] at hp
    cases hp
    exact ⟨_, List.getElem?_eq_getElem hj, ru⟩
  | tup a =>
    obtain ⟨its, rv, pl, _⟩ := I.tuple hv
    have e : xs.length = its.toArray.size := by rw [List.size_toArray]; exact rv.length
    rw [e]
    refine ⟨_, _, Draws.tuple hh it a (fun z => hne (by simp [Src.ad, z])) its.toArray, ⟨hi, pl⟩, fun j v hp => ?_, fun j h q => q.1⟩
    have hp : its[j]? = some v := by simpa using hp
    have hj : j < xs.length := by rw [rv.length]; exact (List.getElem?_eq_some_iff.mp hp).1
    obtain ⟨u, hu, ru⟩ := rv.get (List.getElem?_eq_getElem hj)
    rw [hu] at hp
    cases hp
    exact ⟨_, List.getElem?_eq_getElem hj, ru⟩
end
theorem nq {N i j : Nat} (h : i ≠ j) : @Ne Addr (N + i) (N + j) := fun e => h (Nat.add_left_cancel e)
theorem nqL {N j : Nat} (h : j ≠ 0) : @Ne Addr N (N + j) := fun e => h (Nat.left_eq_add.mp e)
theorem nqR {N j : Nat} (h : j ≠ 0) : @Ne Addr (N + j) N := fun e => h (Nat.left_eq_add.mp e.symm)
/-- pairs of both as they stand at each turn -/
def ItZ (K : PySem.W.Frag) (s1 s2 : Src) : It :=
  ⟨fun i H => ∃ xs ys x y, s1.vals K H xs ∧ s2.vals K H ys ∧ xs[i]? = some x ∧ ys[i]? = some y,
    fun i H v H' => ∃ T x y, v = .ref T ∧ H T = none ∧ H' = upd H T (.tup [x, y]) ∧ (∀ xs, s1.vals K H xs → xs[i]? = some x) ∧ ∀ ys, s2.vals K H ys → ys[i]? = some y,
    fun i H => ∃ xs ys, s1.vals K H xs ∧ s2.vals K H ys ∧ i ≤ xs.length ∧ i ≤ ys.length ∧ (i = xs.length ∨ i = ys.length)⟩
theorem turn_zipS {P : Program} {w : World} {K : PySem.W.Frag} {elts : List Expr} {kk : Nat} {tpos : Pos} {s1 s2 : Src} {N : Nat} (h1 : ∀ b ∈ s1.ad, b < N) (h2 : ∀ b ∈ s2.ad, b < N) :
    Turn P w K (.Tuple elts kk tpos) (ItZ K s1 s2) [N + 4, N + 2, N + 3, N, N + 1] (N + 4) (fun i h => IsZip h (N + 4) (N + 2) (N + 3) .none ∧ IsTupOf2 h (N + 2) (.ref N) (.ref (N + 1)) ∧ (∃ x y, IsTupOf2 h (N + 3) x y) ∧ s1.itr h N i ∧ s2.itr h (N + 1) i) where
  mem := by simp
  obj := fun i h st c hc => by
    obtain ⟨hz, hTI, ⟨x, y, hTO⟩, a1, a2⟩ := st
    simp only [List.mem_cons, List.not_mem_nil, or_false] at hc
    rcases hc with rfl | rfl | rfl | rfl | rfl
    · exact ⟨_, hz, fun v q => nomatch q⟩
    · exact ⟨_, hTI, fun v q => nomatch q⟩
    · exact ⟨_, hTO, fun v q => nomatch q⟩
    · exact itr_obj a1
    · exact itr_obj a2
  keep := fun i h h' st k => by
    obtain ⟨hz, hTI, ⟨x, y, hTO⟩, a1, a2⟩ := st
    exact ⟨k _ (by simp) _ hz, k _ (by simp) _ hTI, ⟨x, y, k _ (by simp) _ hTO⟩, itr_keep a1 fun o q => k _ (by simp) o q, itr_keep a2 fun o q => k _ (by simp) o q⟩
  item := by
    intro X hP hw hK hc i pins s σ H E I hf st hg
    subst hP hw hK
    obtain ⟨hz, hTI, ⟨x0, y0, hTO⟩, a1, a2⟩ := st
    obtain ⟨xs, ys, x, y, hqx, hqy, hx, hy⟩ := hg
    have hA : X.A.in1.handled = none := I.ok.hd hc
    obtain ⟨P1, S1, D1, t1, v1, b1⟩ := src_draws (A := X.A.in1) hA I (src := s1) (it := N) (fun z => Nat.lt_irrefl _ (h1 _ z)) hqx a1
    obtain ⟨P2, S2, D2, t2, v2, b2⟩ := src_draws (A := X.A.in1) hA I (src := s2) (it := N + 1) (fun z => absurd (h2 _ z) (Nat.not_lt.mpr (Nat.le_succ N))) hqy a2
    have hzl : (N + 4 : Nat) < s.heap.objs.size := Heap.lt_size hz
    refine wpAny_pyNext_zipD2_item (zip_sep2 h1 h2) D1 D2 hz hTI hTO t1 t2 (List.getElem?_eq_some_iff.mp hx).1 (List.getElem?_eq_some_iff.mp hy).1 fun u1 u2 h' tk p1 p2 z' TO' c1 c2 hT hsz hk => ?_
    refine ⟨_, rfl, wpAny_letOwnedTupleGo_zip (s := { s with heap := h', toks := tk }) z' fun h'' z'' sb => ?_⟩
    obtain ⟨x', hx', r1⟩ := v1 i u1 p1
    obtain ⟨y', hy', r2⟩ := v2 i u2 p2
    rw [hx] at hx'
    rw [hy] at hy'
    cases hx'
    cases hy'
    have hT2 : h''.get? s.heap.objs.size = some { cls := .type "tuple", data := .seq #[u1, u2] } := (sb.2 _ (Nat.ne_of_gt hzl)).trans hT
    have new : ObjOk X.prog X.w (upd H s.heap.objs.size (.tup [x, y])) h'' s.heap.objs.size (.tup [x, y]) :=
      ⟨by show 2 ≤ sizeLine; decide, [u1, u2], .cons r1 (.cons r2 .nil), ⟨_, hT2, rfl, _, rfl⟩⟩
    have I1 : Inv X pins σ (upd H s.heap.objs.size (.tup [x, y])) { s with heap := h'', toks := tk } :=
      I.turnedNew (t' := tk) (ch := [N + 4, N + 2, N + 3, N, N + 1]) (fun c o hb q => (sb.2 c (fun q' => hb (by simp [q']))).trans (hk c o (fun q' => hb (by simp [q'])) (fun q' => hb (by simp [q'])) (fun q' => hb (by simp [q'])) (fun q' => hb (by simp [q'])) q)) hf (Nat.le_refl _) new
    refine ⟨.ref s.heap.objs.size, _, I1, rfl, ⟨_, x, y, rfl, I.hok.fresh (Nat.le_refl _), rfl, fun l hl => by rw [src_inj I hl hqx]; exact hx, fun l hl => by rw [src_inj I hl hqy]; exact hy⟩, ⟨z'', ?_, ⟨u1, u2, ?_⟩, ?_, ?_⟩, fun c hcm => ?_⟩
    · exact (sb.2 _ (nq (by decide))).trans (hk _ _ (nq (by decide)) (nq (by decide)) (nqR (by decide)) (nq (by decide)) hTI)
    · exact (sb.2 _ (nq (by decide))).trans TO'
    · exact itr_keep (b1 _ _ c1) fun o q => (sb.2 _ (nqL (by decide))).trans q
    · exact itr_keep (b2 _ _ c2) fun o q => (sb.2 _ (nq (by decide))).trans q
    · have hlt : c < s.heap.objs.size := by
        simp only [List.mem_cons, List.not_mem_nil, or_false] at hcm
        have q : ∀ j : Nat, j ≤ 4 → N + j < s.heap.objs.size := fun j hj => Nat.lt_of_le_of_lt (Nat.add_le_add_left hj N) hzl
        rcases hcm with e | e | e | e | e
        · rw [e]; exact q 4 (by decide)
        · rw [e]; exact q 2 (by decide)
        · rw [e]; exact q 3 (by decide)
        · rw [e]; exact q 0 (by decide)
        · rw [e]; exact q 1 (by decide)
      rw [upd_ne (Nat.ne_of_lt hlt)]
      exact (hf c hcm).1
  done := by
    intro X hP hw hK hc i pins s σ H E I hf st hg
    subst hP hw hK
    obtain ⟨hz, hTI, ⟨x0, y0, hTO⟩, a1, a2⟩ := st
    obtain ⟨xs, ys, hqx, hqy, l1, l2, hend⟩ := hg
    have hA : X.A.in1.handled = none := I.ok.hd hc
    obtain ⟨P1, S1, D1, t1, v1, b1⟩ := src_draws (A := X.A.in1) hA I (src := s1) (it := N) (fun z => Nat.lt_irrefl _ (h1 _ z)) hqx a1
    obtain ⟨P2, S2, D2, t2, v2, b2⟩ := src_draws (A := X.A.in1) hA I (src := s2) (it := N + 1) (fun z => absurd (h2 _ z) (Nat.not_lt.mpr (Nat.le_succ N))) hqy a2
    exact wpAny_pyNext_zipD2_end (zip_sep2 h1 h2) D1 D2 hz hTI hTO t1 t2 l1 l2 hend fun h' tk hk => ⟨rfl, I.turnedL (t' := tk) (ch := [N + 4, N + 2, N + 3, N, N + 1]) (fun c o hb q =>
      hk c o (fun q' => hb (by simp [q'])) (fun q' => hb (by simp [q'])) (fun q' => hb (by simp [q'])) (fun q' => hb (by simp [q'])) q) hf⟩
  self := fun A i s Q E st h => wpAny_pyIter_zip st.1 h
/-- a value to draw from -/
def SrcV (K : PySem.W.Frag) (H : Hp) (v : V) (f : Tok → Src) : Prop :=
  (∃ z, v = .str z ∧ f = fun t => .txt z t) ∨ (∃ a xs, v = .ref a ∧ SqL K H a xs ∧ f = fun _ => .lst a) ∨ ∃ a xs, v = .ref a ∧ SqT K H a xs ∧ f = fun _ => .tup a
theorem srcV_at {K : PySem.W.Frag} {H : Hp} {v : V} {f : Tok → Src} {u : Value} (h : SrcV K H v f) (r : RelV v u) : ∃ t xs, u = (f t).val ∧ (f t).vals K H xs := by
  rcases h with ⟨z, rfl, rfl⟩ | ⟨a, xs, rfl, sq, rfl⟩ | ⟨a, xs, rfl, sq, rfl⟩
  · obtain ⟨t, rfl⟩ := r
    exact ⟨t, _, rfl, rfl⟩
  · cases r
    exact ⟨0, xs, rfl, sq⟩
  · cases r
    exact ⟨0, xs, rfl, sq⟩
def iZipS (K : PySem.W.Frag) (ta : TA) : TI := fun σ H R => ta σ H fun vs H1 => ∃ v1 v2 f1 f2, vs = [v1, v2] ∧ SrcV K H1 v1 f1 ∧ SrcV K H1 v2 f2 ∧ ∀ t1 t2, R (ItZ K (f1 t1) (f2 t2)) H1
theorem pi_zipS {X : Cx} {e e2 : Expr} {ta : TA} {p pos tpos : Pos} {elts : List Expr} {kk : Nat} (hg : Gl X "zip") (hm : X.mg "zip" = none) (ha : PA X [e, e2] ta)
    (hs : starEach [e, e2] X.env = (false, eval e X.env) :: starEach [e2] X.env := by rfl) (hpl : (backTo pos (starEach [e2] X.env)).any (·.1) = false := by rfl) :
    PI X (.Tuple elts kk tpos) (.Call (.Name "zip" p) [e, e2] [] pos) (iZipS X.K ta) := by
  refine ⟨fun pins s σ H R I h => ?_⟩
  refine Call_ (ld_blt I hg hm PyProof.Rows.boot_zip (PyProof.Rows.callWith_type1 (thn (ha.run pos pins s σ H _ I h) fun us s1 ⟨vs, H1, I1, r1, q1⟩ => ?_) hs hpl))
  obtain ⟨v1, v2, f1, f2, rfl, b1, b2, q⟩ := q1
  cases r1 with
  | cons r rr =>
    cases rr with
    | cons r' rr =>
      cases rr
      obtain ⟨t1, xs, rfl, w1⟩ := srcV_at b1 r
      obtain ⟨t2, ys, rfl, w2⟩ := srcV_at b2 r'
      obtain ⟨l1, H1q, B1, k1⟩ := src_begins I1 w1
      obtain ⟨l2, H2q, B2, k2⟩ := src_begins I1 w2
      refine zip_begins2 B1 B2 k1 k2 fun h' hz hTI hTO g1 g2 hsz hk => wpAny_pyIter_zip hz ?_
      have I2 : Inv X pins σ H1 { s1 with heap := h' } := I1.kept (t' := s1.toks) hk
      refine ⟨s1.heap.objs.size + 4, [s1.heap.objs.size + 4, s1.heap.objs.size + 2, s1.heap.objs.size + 3, s1.heap.objs.size, s1.heap.objs.size + 1], _, _, H1, rfl, I2, turn_zipS l1 l2, ⟨hz, hTI, ⟨_, _, hTO⟩, itr_zero g1, itr_zero g2⟩, fun c hcm => ?_, q t1 t2⟩
      have hle : s1.heap.objs.size ≤ c := by
        simp only [List.mem_cons, List.not_mem_nil, or_false] at hcm
        rcases hcm with e | e | e | e | e
        · rw [e]; exact Nat.le_add_right _ _
        · rw [e]; exact Nat.le_add_right _ _
        · rw [e]; exact Nat.le_add_right _ _
        · rw [e]; exact Nat.le_refl _
        · rw [e]; exact Nat.le_add_right _ _
      exact I1.fpOk hle (I1.hok.fresh hle)
/-! ### over data -/
section
variable {C : Cn} {W : XK} {X : Cx} {a b : Expr} {fa fb : Ex} {ρ : Rho} {H : Hp}
theorem src_rep {d : D} {ds : List D} {v : V} (r : RepV C ρ H d v) (e : srcOf d = some ds) : ∃ f, SrcV C.K H v f ∧ ∀ t ρ1 H1, Ext ρ H ρ1 H1 → ∃ xs, (f t).vals C.K H1 xs ∧ RepL C ρ1 H1 ds xs := by
  cases d with
  | str s =>
    obtain ⟨rfl, hc⟩ := txt_at r
    cases e
    refine ⟨_, .inl ⟨_, rfl, rfl⟩, fun t ρ1 H1 _ => ⟨_, rfl, ?_⟩⟩
    have := signs_rep (C := C) (ρ := ρ1) (H := H1) hc
    simpa using this
  | lst xs =>
    cases e
    obtain ⟨p, vs, rfl, nl, q, rl⟩ := r.lst_at
    refine ⟨_, .inr (.inl ⟨p, vs, rfl, .inl (.inl q), rfl⟩), fun t ρ1 H1 x => ⟨vs, ?_, rl.ext x⟩⟩
    exact .inl (.inl (x.keep p (.lst vs) trivial nl q).2)
  | tup xs =>
    cases e
    obtain ⟨p, vs, rfl, sq, rl⟩ := r.tup_sq
    refine ⟨_, .inr (.inr ⟨p, vs, rfl, sq, rfl⟩), fun t ρ1 H1 x => ?_⟩
    obtain ⟨p', vs', e', sq', rl'⟩ := (r.ext x).tup_sq
    cases e'
    exact ⟨vs', sq', rl'⟩
  | tpx xs =>
    cases e
    obtain ⟨p, vs, rfl, sq, rl⟩ := r.wk.tup_sq
    refine ⟨_, .inr (.inr ⟨p, vs, rfl, sq, rfl⟩), fun t ρ1 H1 x => ?_⟩
    obtain ⟨p', vs', e', sq', rl'⟩ := (r.ext x).wk.tup_sq
    cases e'
    exact ⟨vs', sq', rl'⟩
  | _ => cases e
theorem zipD_len (xs ys : List D) : (zipD xs ys).length = min xs.length ys.length := by simp [zipD]
theorem zipD_get {xs ys : List D} {i : Nat} {d : D} (h : (zipD xs ys)[i]? = some d) : ∃ x y, xs[i]? = some x ∧ ys[i]? = some y ∧ d = .tup [x, y] := by
  unfold zipD at h
  rw [List.getElem?_zipWith] at h
  cases hx : xs[i]? with
  | none => rw [hx] at h; cases h
  | some x =>
    cases hy : ys[i]? with
    | none => rw [hx, hy] at h; cases h
    | some y => rw [hx, hy] at h; cases h; exact ⟨x, y, rfl, rfl, rfl⟩
theorem di_zip {elts : List Expr} {kk : Nat} {p pos tpos : Pos} (hK : C.K = X.K) (hg : Gl X "zip") (hm : X.mg "zip" = none) (ha : DE C W X a fa) (hb : DE C W X b fb)
    (s1 : starEach (a :: [b]) X.env = (false, eval a X.env) :: starEach [b] X.env := by rfl) (s2 : starEach (b :: []) X.env = (false, eval b X.env) :: starEach [] X.env := by rfl)
    (hs : starEach [a, b] X.env = (false, eval a X.env) :: starEach [b] X.env := by rfl) (hpl : (backTo pos (starEach [b] X.env)).any (·.1) = false := by rfl) :
    DI C W X (.Tuple elts kk tpos) (.Call (.Name "zip" p) [a, b] [] pos) (itZ fa fb) := by
  refine PI.imp (pi_zipS hg hm (pa_cons ha (pa_cons hb pa_nil s2) s1) hs hpl) ?_
  rintro σ H R ⟨ρ, g, m, re, rm, h⟩
  refine ⟨ρ, g, m, re, rm, h.bind.imp fun d m1 ρ1 H1 x1 rm1 h1 v r => ?_⟩
  refine ⟨ρ1, g, m1, re.ext x1, rm1, h1.bind.imp fun d2 m2 ρ2 H2 x2 rm2 h2 v2 r2 => ?_⟩
  cases e1 : srcOf d with
  | none => rw [e1] at h2; exact h2.elim
  | some xs =>
    cases e2 : srcOf d2 with
    | none => rw [e1, e2] at h2; exact h2.elim
    | some ys =>
      rw [e1, e2] at h2
      obtain ⟨f1, b1, c1⟩ := src_rep (r.ext x2) e1
      obtain ⟨f2, b2, c2⟩ := src_rep r2 e2
      refine ⟨v, v2, f1, f2, rfl, hK ▸ b1, hK ▸ b2, fun t1 t2 => fin.now rm2 h2 _ ?_⟩
      intro ρ3 H3 i m3 x3 rm3
      obtain ⟨us, u1, u2⟩ := c1 t1 ρ3 H3 x3
      obtain ⟨ws, w1, w2⟩ := c2 t2 ρ3 H3 x3
      refine ⟨fun hi => ?_, fun d' hd => ?_⟩
      · rw [zipD_len] at hi
        have q1 := u2.length
        have q2 := w2.length
        exact ⟨us, ws, hK ▸ u1, hK ▸ w1, by omega, by omega, by omega⟩
      · obtain ⟨x, y, hx, hy, rfl⟩ := zipD_get hd
        obtain ⟨vx, ex, rx⟩ := u2.get hx
        obtain ⟨vy, ey, ry⟩ := w2.get hy
        refine ⟨⟨us, ws, vx, vy, hK ▸ u1, hK ▸ w1, ex, ey⟩, fun z H4 hy4 => ?_⟩
        obtain ⟨T, x', y', rfl, nT, rfl, k1, k2⟩ := hy4
        have q1 := k1 us (hK ▸ u1)
        have q2 := k2 ws (hK ▸ w1)
        rw [ex] at q1
        rw [ey] at q2
        cases q1
        cases q2
        exact ⟨same_upd nT, rep_tup rm3 nT (by simp only [RepL]; exact ⟨_, _, rfl, rx, _, _, rfl, ry, rfl⟩)⟩
end
end LW
/-! LwX: exact tuples; dict(pairs); what a dict of whole numbers holds; None asked of a dict of texts. -/
namespace LW
open PySem PySem.Spec PyProof.Rows L2
section
variable {C : Cn} {W : XK} {X : Cx} {a b c o e : Expr} {fa fb fc : Ex} {fr : Ar} {es : List Expr} {pos : Pos} {ρ : Rho} {H : Hp} {m : Mem}
def tTupX (t : TA) : TE := fun σ H Q => t σ H fun xs H1 => xs.length ≤ sizeLine ∧ ∀ p o, H1 p = none → o.dict = none → Q (.ref p) (upd H1 p (.frz o (.tup xs)))
theorem pe_tupX {x1} {t : TA} (h : PA X es t) : PE X (.Tuple es x1 pos) (tTupX t) := by
  refine ⟨fun pins s σ H Q I hq => ?_⟩
  refine wpAny_Tuple_spliced (thn (h.run pos pins s σ H _ I hq) fun us s1 ⟨xs, H1, I1, r, z, q⟩ => ⟨by rw [← r.length]; exact z, ?_⟩)
  have hf : H1 s1.heap.objs.size = none := I1.hok.fresh (Nat.le_refl _)
  refine ⟨.ref s1.heap.objs.size, upd H1 s1.heap.objs.size (.frz _ (.tup xs)), I1.laid (t' := s1.toks) (fun b u e => Heap.get?_push_of_some _ e) (Nat.le_refl _) ⟨Heap.get?_push_size _ rfl, z, us, r, ⟨_, Heap.get?_push_size _ rfl, rfl, _, rfl⟩⟩, rfl, q _ _ hf rfl⟩
theorem de_tpx {x1} (h : DA C W X es fr) : DE C W X (.Tuple es x1 pos) (tpxE fr) := by
  refine PE.imp (pe_tupX h) ?_
  rintro σ H Q ⟨ρ, g, m, re, rm, h⟩
  refine ⟨ρ, g, m, re, rm, h.bind.imp fun ds m1 ρ1 H1 x1 rm1 h1 vs r => ?_⟩
  by_cases hz : ds.length ≤ lim
  · rw [if_pos hz] at h1
    refine ⟨by rw [← lim_eq, ← r.length]; exact hz, fun p o hp hd => ?_⟩
    refine h1 ρ1 _ (.of_same (same_upd hp)) (rm1.same (same_upd hp)) _ ?_
    simp only [RepV]
    exact ⟨p, vs, o, rfl, rm1.free_of hp, upd_same, hd, r.ext (.of_same (same_upd hp))⟩
  · rw [if_neg hz] at h1; exact h1.elim

/-! ### dict(pairs) -/
/-- the pairs as they lie -/
theorem pairs_lie {pins : List (Addr × Obj)} {σ : L2.St} {s : Shared} (I : Inv X pins σ H s) : ∀ {ps : List Addr} {kvs : List (Key × V)}, Paired (fun p kv => SqT X.K H p [kV kv.1, kv.2]) ps kvs →
    ∃ (qs : List (Value × Value)) (prs : List (Key × Value)), KV kvs prs ∧ qs.length = ps.length ∧ prs.length = ps.length ∧
      (∀ (j : Nat) k v, qs[j]? = some (k, v) → ∃ b kk, ps[j]? = some b ∧ IsTup s.heap b #[k, v] ∧ prs[j]? = some (kk, v) ∧ keyIs kk k = true)
  | _, _, .nil => ⟨[], [], .nil, rfl, rfl, fun j k v e => by simp at e⟩
  | _, _, .cons (a := p) (b := kv) h t => by
    obtain ⟨qs, prs, r, l1, l2, hp⟩ := pairs_lie I t
    obtain ⟨its, rv, ht, _⟩ := I.tuple h
    cases rv with
    | cons ru rv =>
      cases rv with
      | cons ry rv =>
        cases rv
        rename_i u y
        refine ⟨(u, y) :: qs, (kv.1, y) :: prs, .cons ⟨rfl, ry⟩ r, by simp [l1], by simp [l2], fun j k v e => ?_⟩
        cases j with
        | zero =>
          simp only [List.getElem?_cons_zero, Option.some.injEq, Prod.mk.injEq] at e
          obtain ⟨rfl, rfl⟩ := e
          exact ⟨p, kv.1, rfl, ht, rfl, kV_is (P := X.prog) (w := X.w) ru⟩
        | succ j => exact hp j k v (by simpa using e)
def rDictX (K : PySem.W.Frag) : List V → Hp → VK → Prop := fun xs H Q => ∃ (a : Addr) (o : Obj) (ps : List Addr) (kvs : List (Key × V)), xs = [.ref a] ∧ H a = some (.frz o (.tup (ps.map V.ref))) ∧ o.dict = none ∧ Paired (fun p kv => SqT K H p [kV kv.1, kv.2]) ps kvs ∧
    ∀ p, H p = none → Q (.ref p) (upd H p (.dK (mergeK [] kvs)))
theorem cr_dictX (hcalm : X.calm = true) : CallR X (.type "dict") (rDictX X.K) := by
  intro pins s σ H xs us Q I r q
  obtain ⟨a, o, ps, kvs, rfl, hq, hd, hp, q⟩ := q
  rw [Vals.ref1 r]
  obtain ⟨ho, hz, its, rv, o2, ho2, hc, n, hdat⟩ := I.hok a _ hq
  rw [ho] at ho2
  cases ho2
  have ei := refs_at rv
  subst ei
  rw [List.length_map] at hz
  obtain ⟨qs, prs, rel, l1, l2, hpr⟩ := pairs_lie I hp
  have PI : PairItems s.heap (ps.map Value.ref).toArray (fun j => ps.getD j 0) qs := by
    refine ⟨by simp [l1], fun j k v e => ?_⟩
    obtain ⟨b, kk, e1, e2, _⟩ := hpr j k v e
    have eb : ps.getD j 0 = b := by rw [List.getD_eq_getElem?_getD, e1]; rfl
    refine ⟨by simp [e1], ?_⟩
    show PairAt s.heap (ps.getD j 0) k v
    rw [eb]
    exact .inl e2
  refine PySem.call_dict_pairs (knd := mixKind X.prog X.w) (kvs := prs) (PairArg.tuple a (ps.map Value.ref).toArray (fun j => ps.getD j 0) qs) (I.ok.hd hcalm) ⟨⟨o, n, ho, hc, hd, hdat⟩, PI⟩ ⟨by rw [l2, l1], fun i k v e => ?_⟩ (by rw [l1]; exact hz) fun h' tk hd' k => ?_
  · obtain ⟨b, kk, _, _, e3, e4⟩ := hpr i k v e
    exact ⟨kk, e3, e4⟩
  · have hm : (s.heap.objs.size == sysModules) = false := beq_eq_false_iff_ne.mpr (Nat.ne_of_gt I.big)
    have hlen : (mergeK [] kvs).length ≤ sizeLine := by
      refine Nat.le_trans (length_mergeK kvs []) ?_
      rw [List.length_nil, Nat.zero_add, rel.length, l2]
      exact hz
    exact ⟨.ref s.heap.objs.size, upd H s.heap.objs.size (.dK (mergeK [] kvs)), I.laid (t' := tk) (fun b o e => k b o (by simp) e) (Nat.le_refl _) (show ObjOk X.prog X.w _ _ _ (.dK (mergeK [] kvs)) from ⟨hlen, hm, merged [] prs, KV.merge rel .nil, hd'⟩), rfl, q _ (I.hok.fresh (Nat.le_refl _))⟩
/-! ### None asked of a dict of texts -/
theorem get_none {pins : List (Addr × Obj)} {σ : L2.St} {s : Shared} {A : Around} {E : Value → Shared → Prop} {l : Addr} {kvs : List (Key × V)} {u : Value} {Q : Value → Shared → Prop} (I : Inv X pins σ H s) (e : Rd H l (.dK kvs)) (h : ∀ s', Inv X pins σ H s' → Q u s') :
    wpAny (model X.prog X.w) A (call (.builtin "dict.get") [.ref l, .none, u]) Q E s := by
  obtain ⟨z, hd, vs, rel, dd⟩ := dk_rd I.hok e
  obtain ⟨f, hm, hf⟩ := none_map dd
  refine call_meetsIn PySem.F.slot_dict_get dd.typeIs PySem.F.entry_dict_get (PySem.F.args_dict_get_3 _ _ _) (meets_dict_get_default (knd := noneKind X.prog X.w) (k := none) (key := .none) (d := l) rfl hd u) ⟨f, hm, ?_⟩
  rw [hf]
  exact h _ (I.tok _)
def tDGet2N (td ty tx : TE) : TE := fun σ H Q => td σ H fun x H1 => ∃ a, x = .ref a ∧ IsD H1 a ∧ ty σ H1 fun y H2 => tx σ H2 fun z H3 => (∃ o, DGet H3 a y o ∧ Q (o.getD z) H3) ∨ (y = .non ∧ ∃ kvs, Rd H3 a (.dK kvs) ∧ Q z H3)
theorem pe_dget2N {f : Expr} {apos cpos : Pos} {td ty tx : TE} (hu : X.A.units + 1 < cLine) (ho : PE X o td) (he : PE X e ty) (hf : PE X f tx) (mm : M2 X o "get" apos e f cpos) : PE X (.Call (.Attribute o "get" apos) [e, f] [] cpos) (tDGet2N td ty tx) := by
  refine ⟨fun pins s σ H Q I h => ?_⟩
  refine wpAny_Call_method mm.base mm.few mm.line PySem.F.plainAttrs_dict PySem.F.slot_dict_get PySem.F.type_dict_get (thn (ho.run pins s σ H _ I h) fun u s1 ⟨x, H1, I1, rx, l, ex, d, q1⟩ => ?_)
  subst ex
  obtain rfl : u = Value.ref l := rx
  obtain ⟨t1, t2, _⟩ := isD_at I1 d
  refine ⟨t1, t2, ?_⟩
  rw [mm.trees]
  refine Calls.callWith_builtin rfl (Calls.evalArgs_plain (Calls.spliced_cons (thn (he.run pins s1 σ H1 _ I1 q1) fun iv s2 ⟨y, H2, I2, ry, q2⟩ =>
    Calls.spliced_cons (thn (hf.run pins s2 σ H2 _ I2 q2) fun fv s3 ⟨z, H3, I3, rz, q3⟩ => Calls.spliced_nil ?_))))
  rcases q3 with ⟨ov, gg, q3⟩ | ⟨ey, kvs, rd, q3⟩
  · exact d_get2 hu I3 gg ry rz fun w' s4 I4 rw' => ⟨_, H3, I4, rw', q3⟩
  · subst ey
    obtain rfl : iv = Value.none := ry
    exact get_none I3 rd fun s4 I4 => ⟨z, H3, I4, rz, q3⟩
theorem de_dget2 {k1 v1 k2 v2 k x : Expr} {g1 h1 g2 h2 gk gx : Ex} {apos cpos p : Pos} (hu : X.A.units + 1 < cLine) (a1 : DE C W X k1 g1) (b1 : DE C W X v1 h1) (a2 : DE C W X k2 g2) (b2 : DE C W X v2 h2) (hk : DE C W X k gk) (hx : DE C W X x gx)
    (mm : M2 X (.Dict [some k1, some k2] [v1, v2] p) "get" apos k x cpos) : DE C W X (.Call (.Attribute (.Dict [some k1, some k2] [v1, v2] p) "get" apos) [k, x] [] cpos) (dget2E g1 h1 g2 h2 gk gx) := by
  refine PE.imp (pe_dget2N hu (pe_disp (pps_cons a1 b1 (pps_cons a2 b2 pps_nil)) rfl rfl (by simp) (by simp)) hk hx mm) ?_
  rintro σ H Q ⟨ρ, g, m, re, rm, h⟩ L hL
  have x0 : Ext ρ H (ρ.hide L) (upd H L (.dK [])) := ext_hide hL
  refine ⟨ρ.hide L, g, m, re.ext x0, rm.hide hL, fin.from h x0 fun d1 m1 h ρ1 H1 x1 rm1 v1 r1 => ?_⟩
  refine ⟨ρ1, g, m1, (re.ext x0).ext x1, rm1, fin.from h (x0.trans x1) fun e1 m2 h ρ2 H2 x2 rm2 w1 s1 => ?_⟩
  refine ⟨ρ2, g, m2, ((re.ext x0).ext x1).ext x2, rm2, fin.from h ((x0.trans x1).trans x2) fun d2 m3 h ρ3 H3 x3 rm3 v2 r2 => ?_⟩
  refine ⟨ρ3, g, m3, (((re.ext x0).ext x1).ext x2).ext x3, rm3, fin.from h (((x0.trans x1).trans x2).trans x3) fun e2 m4 h ρ4 H4 x4 rm4 w2 s2 => ?_⟩
  have xx : Ext (ρ.hide L) (upd H L (.dK [])) ρ4 H4 := x1.trans (x2.trans (x3.trans x4))
  obtain ⟨z4, q4⟩ := xx.lx L _ List.mem_cons_self upd_same
  cases d1 with
  | str k1' =>
    cases d2 with
    | str k2' =>
      have ev1 := hide_str r1
      have ev2 := hide_str r2
      subst ev1 ev2
      refine ⟨q4, [(.inr ⟨k1'.toArray⟩, w1), (.inr ⟨k2'.toArray⟩, w2)], rfl, by simp, ?_⟩
      generalize hkv : mergeK [] [((.inr ⟨k1'.toArray⟩ : Key), w1), (.inr ⟨k2'.toArray⟩, w2)] = kvs
      have xd : Ext ρ H ρ4 (upd H4 L (.dK kvs)) := ext_grow (x0.trans xx) hL z4
      refine ⟨L, rfl, .inl ⟨kvs, .inl upd_same⟩, ρ4, g, m4, re.ext xd, rm4.grow z4, fin.from h xd fun d5 m5 h ρ5 H5 x5 rm5 v5 r5 => ?_⟩
      refine ⟨ρ5, g, m5, (re.ext xd).ext x5, rm5, fin.from h (xd.trans x5) fun d6 m6 h ρ6 H6 x6 rm6 v6 r6 => ?_⟩
      have xy : Ext ρ4 (upd H4 L (.dK kvs)) ρ6 H6 := x5.trans x6
      obtain ⟨z6, q6⟩ := xy.lx L _ z4 upd_same
      cases d5 with
      | str kq =>
        have ev5 := hide_str r5
        subst ev5
        have key : RepV C ρ6 H6 (if kq = k2' then e2 else if kq = k1' then e1 else d6) ((valV kvs (.inr ⟨kq.toArray⟩)).getD v6) := by
          rw [← hkv, two_look]
          by_cases c2 : kq = k2'
          · rw [if_pos c2, if_pos (key_eq.mpr c2)]
            exact ((s2.grow z4).ext xy)
          · rw [if_neg c2, if_neg (fun e => c2 (key_eq.mp e))]
            by_cases c1 : kq = k1'
            · rw [if_pos c1, if_pos (key_eq.mpr c1)]
              exact (((s1.ext (x3.trans x4)).grow z4).ext xy)
            · rw [if_neg c1, if_neg (fun e => c1 (key_eq.mp e))]
              exact r6
        exact .inl ⟨_, .inl ⟨kvs, _, .inl q6, rfl, rfl⟩, h ρ6 H6 (xd.trans xy) rm6 _ key⟩
      | non =>
        refine .inr ⟨by simpa only [RepV] using r5.ext x6, kvs, .inl q6, h ρ6 H6 (xd.trans xy) rm6 _ r6⟩
      | _ => exact h.elim
    | _ => exact h.elim
  | _ => exact h.elim
/-! ### dict(pairs), book.get(number) over data -/
theorem pairs_rep {K : PySem.W.Frag} (hK : C.K = K) : ∀ {ds : List D} {l : List (Int × D)} {vs : List V}, pairsOf ds = some l → RepL C ρ H ds vs →
    ∃ (ps : List Addr) (xs : List V), vs = ps.map V.ref ∧ RepL C ρ H (l.map (·.2)) xs ∧ Paired (fun p kv => SqT K H p [kV kv.1, kv.2]) ps ((l.map fun p => (.inl p.1 : Key)).zip xs)
  | [], l, vs, e, r => by
    cases e
    simp only [RepL] at r
    subst r
    exact ⟨[], [], rfl, by simp only [List.map_nil, RepL], .nil⟩
  | d :: ds, l, vs, e, r => by
    simp only [RepL] at r
    obtain ⟨v, r', rfl, r1, r2⟩ := r
    unfold pairsOf at e
    split at e
    · rename_i heq; cases heq
    · rename_i i w rest heq
      cases heq
      obtain ⟨l', e', rfl⟩ := Option.map_eq_some_iff.mp e
      obtain ⟨ps, xs, rfl, rl, pp⟩ := pairs_rep hK e' r2
      obtain ⟨p, ys, rfl, sq, ry⟩ := r1.tup_sq
      simp only [RepL] at ry
      obtain ⟨y1, _, rfl, q1, y2, _, rfl, q2, rfl⟩ := ry
      have e1 := q1.int_at
      subst e1
      refine ⟨p :: ps, y2 :: xs, rfl, ?_, ?_⟩
      · simp only [List.map_cons, RepL]
        exact ⟨y2, xs, rfl, q2, rl⟩
      · simp only [List.map_cons, List.zip_cons_cons]
        exact .cons (hK ▸ sq) pp
    · cases e
theorem merge_self {kvs : List (Key × V)} (nd : (kvs.map (·.1)).Nodup) : mergeK [] kvs = kvs := by
  suffices H : ∀ (more acc : List (Key × V)), ((acc ++ more).map (·.1)).Nodup → mergeK acc more = acc ++ more from H kvs [] nd
  intro more
  induction more with
  | nil => intro acc _; simp [mergeK]
  | cons p more ih =>
    intro acc h
    have hp : putK acc p.1 p.2 = acc ++ [p] := by
      unfold putK
      rw [if_neg]
      intro hh
      obtain ⟨q, hq, e⟩ := List.any_eq_true.mp hh
      have e : q.1 = p.1 := of_decide_eq_true e
      rw [List.map_append, List.map_cons] at h
      exact (List.nodup_append.mp h).2.2 q.1 (List.mem_map.mpr ⟨q, hq, rfl⟩) p.1 (by simp) e
    show mergeK (putK acc p.1 p.2) more = _
    rw [hp, ih (acc ++ [p]) (by simpa using h)]
    simp
theorem bs_dict : BfS C (rDictX C.K) dictB := by
  intro ρ H m ds vs d Q rm rl e q
  unfold dictB at e
  split at e
  · rename_i ds2
    simp only [RepL] at rl
    obtain ⟨v, _, rfl, r1, rfl⟩ := rl
    split at e
    · rename_i l hl
      split at e
      · rename_i nd
        cases e
        have r1' := r1
        simp only [RepV] at r1'
        obtain ⟨a, xs, o, rfl, nl, hq, hd, rx⟩ := r1'
        obtain ⟨ps, ys, rfl, ry, pp⟩ := pairs_rep rfl hl rx
        refine ⟨a, o, ps, _, rfl, hq, hd, pp, fun p hp => ?_⟩
        have ly : (l.map fun p => (.inl p.1 : Key)).length = ys.length := by rw [← ry.length]; simp
        have kn : (((l.map fun p => (.inl p.1 : Key)).zip ys).map (·.1)).Nodup := by
          rw [List.map_fst_zip (by omega)]
          have : (l.map fun p => (.inl p.1 : Key)) = (l.map (·.1)).map Sum.inl := by rw [List.map_map]; rfl
          rw [this, List.nodup_iff_pairwise_ne, List.pairwise_map]
          exact (List.nodup_iff_pairwise_ne.mp nd).imp fun hab e => hab (Sum.inl.inj e)
        rw [merge_self kn]
        refine q _ _ (same_upd hp) ?_
        simp only [RepV]
        refine ⟨p, ys, rfl, rm.free_of hp, ry.ext (.of_same (same_upd hp)), _, ly, ?_, .inl upd_same⟩
        rw [List.map_map]
        rfl
      · cases e
    · cases e
  · cases e
theorem find_val {ρ : Rho} {H : Hp} (i : Int) (z : V) : ∀ {kk : List Key} {vs : List D} {xs : List V}, kk.length = xs.length → RepL C ρ H vs xs → RepV C ρ H .non z → RepV C ρ H ((dfind i (kk.map keyD) vs).getD .non) ((valV (kk.zip xs) (.inl i)).getD z)
  | [], vs, xs, l, r, hz => by
    have : xs = [] := List.eq_nil_of_length_eq_zero l.symm
    subst this
    cases vs with
    | nil => simpa [dfind, valV] using hz
    | cons d ds => simp [RepL] at r
  | k :: kk, vs, xs, l, r, hz => by
    cases xs with
    | nil => simp at l
    | cons x xs =>
      cases vs with
      | nil => simp [RepL] at r
      | cons d ds =>
        simp only [RepL] at r
        obtain ⟨x', r', e, r1, r2⟩ := r
        cases e
        have ih := find_val i z (kk := kk) (vs := ds) (xs := xs) (by simpa using l) r2 hz
        cases k with
        | inl j =>
          by_cases hj : j = i
          · subst hj
            simp [dfind, keyD, valV, r1]
          · have hj' : ¬ (Sum.inl j : Key) = .inl i := fun e => hj (Sum.inl.inj e)
            simp [dfind, keyD, valV, hj] at ih ⊢
            exact ih
        | inr t =>
          simp [dfind, keyD, valV] at ih ⊢
          exact ih
theorem de_get1 {apos cpos : Pos} (hu : X.A.units + 1 < cLine) (ho : DE C W X o fa) (he : DE C W X e fb) (mm : M1 X o "get" apos e cpos) : DE C W X (.Call (.Attribute o "get" apos) [e] [] cpos) (dopE get1D fa fb) := by
  refine PE.imp (pe_dget1 hu ho he mm) ?_
  rintro σ H Q ⟨ρ, g, m, re, rm, h⟩
  refine ⟨ρ, g, m, re, rm, h.bind.imp fun d m1 ρ1 H1 x1 rm1 h1 v r => ?_⟩
  cases d with
  | dct ks vs =>
    have r' := r
    simp only [RepV] at r'
    obtain ⟨p, xs, rfl, nl, rl, kk, lk, ek, rd⟩ := r'
    refine ⟨p, rfl, .inl ⟨_, rd⟩, ρ1, g, m1, re.ext x1, rm1, h1.bind.imp fun d2 m2 ρ2 H2 x2 rm2 h2 v2 r2 => ?_⟩
    obtain ⟨d', e', q⟩ := h2.opt rm2
    cases d2 with
    | int i =>
      cases e'
      have e2 := r2.int_at
      subst e2
      have r3 := r.ext x2
      simp only [RepV] at r3
      obtain ⟨p', xs', e3, nl', rl', kk', lk', ek', rd'⟩ := r3
      cases e3
      refine ⟨_, .inl ⟨_, .inl i, rd', rfl, rfl⟩, q _ H2 (fun _ _ e => e) ?_⟩
      rw [ek']
      exact find_val i .non lk' rl' (by simp only [RepV])
    | _ => cases e'
  | _ => exact h1.elim
end
end LW
/-! LwY: enumerate over texts and lists; constants that are tuples. -/
namespace LW
open PySem PySem.Spec PyProof.Rows L2
def ItE (K : PySem.W.Frag) (src : Src) : It :=
  ⟨fun i H => ∃ xs x, src.vals K H xs ∧ xs[i]? = some x, fun i H v H' => ∃ T x, v = .ref T ∧ H T = none ∧ H' = upd H T (.tup [.int (i : Nat), x]) ∧ ∀ xs, src.vals K H xs → xs[i]? = some x, fun i H => ∃ xs, src.vals K H xs ∧ i = xs.length⟩
theorem turn_enumS {P : Program} {w : World} {K : PySem.W.Frag} {elts : List Expr} {kk : Nat} {tpos : Pos} {src : Src} {N : Nat} (h1 : ∀ b ∈ src.ad, b < N) :
    Turn P w K (.Tuple elts kk tpos) (ItE K src) [N + 1, N] (N + 1) (fun i h => (∃ old, IsEnum h (N + 1) N ((i : Nat) : Int) old) ∧ src.itr h N i) where
  mem := by simp
  obj := fun i h st c hc => by
    obtain ⟨⟨old, he⟩, a1⟩ := st
    simp only [List.mem_cons, List.not_mem_nil, or_false] at hc
    rcases hc with rfl | rfl
    · exact ⟨_, he, fun v q => nomatch q⟩
    · exact itr_obj a1
  keep := fun i h h' st k => by
    obtain ⟨⟨old, he⟩, a1⟩ := st
    exact ⟨⟨old, k _ (by simp) _ he⟩, itr_keep a1 fun o q => k _ (by simp) o q⟩
  item := by
    intro X hP hw hK hc i pins s σ H E I hf st hg
    subst hP hw hK
    obtain ⟨⟨old, he⟩, a1⟩ := st
    obtain ⟨xs, x, hqx, hx⟩ := hg
    have hA : X.A.in1.handled = none := I.ok.hd hc
    obtain ⟨P1, S1, D1, t1, v1, b1⟩ := src_draws (A := X.A.in1) hA I (src := src) (it := N) (fun z => Nat.lt_irrefl _ (h1 _ z)) hqx a1
    have hel : (N + 1 : Nat) < s.heap.objs.size := Heap.lt_size he
    have hef : (N + 1 : Addr) ∉ N :: src.ad := fun z => by
      rcases List.mem_cons.mp z with z | z
      · exact nqR (by decide) z
      · exact absurd (h1 _ z) (Nat.not_lt.mpr (Nat.le_succ N))
    refine wpAny_pyNext_enum_itemD D1 he t1 (List.getElem?_eq_some_iff.mp hx).1 (nqR (by decide)) hef fun u h' tk p1 ho c1 hT hsz hk => ?_
    refine ⟨_, rfl, wpAny_letOwnedTupleGo_enum (s := { s with heap := h', toks := tk + 1 }) ho fun h'' he' sb => ?_⟩
    obtain ⟨x', hx', r1⟩ := v1 i u p1
    rw [hx] at hx'
    cases hx'
    have hT2 : h''.get? s.heap.objs.size = some { cls := .type "tuple", data := .seq #[.int i tk, u] } := (sb.2 _ (Nat.ne_of_gt hel)).trans hT
    have new : ObjOk X.prog X.w (upd H s.heap.objs.size (.tup [.int (i : Nat), x])) h'' s.heap.objs.size (.tup [.int (i : Nat), x]) :=
      ⟨by show 2 ≤ sizeLine; decide, [.int i tk, u], .cons ⟨_, rfl⟩ (.cons r1 .nil), ⟨_, hT2, rfl, _, rfl⟩⟩
    have I1 : Inv X pins σ (upd H s.heap.objs.size (.tup [.int (i : Nat), x])) { s with heap := h'', toks := tk + 1 } :=
      I.turnedNew (t' := tk + 1) (ch := [N + 1, N]) (fun b ob hb q => (sb.2 b (fun z => hb (by simp [z]))).trans (hk b ob (fun z => hb (by simp [z])) (fun z => hb (by simp [z])) q)) hf (Nat.le_refl _) new
    refine ⟨.ref s.heap.objs.size, _, I1, rfl, ⟨_, x, rfl, I.hok.fresh (Nat.le_refl _), rfl, fun l hl => by rw [src_inj I hl hqx]; exact hx⟩, ⟨⟨u, ?_⟩, ?_⟩, fun c hcm => ?_⟩
    · have e1 : ((i + 1 : Nat) : Int) = (i : Int) + 1 := by omega
      rw [e1]; exact he'
    · exact itr_keep (b1 _ _ c1) fun o q => (sb.2 _ (nqL (by decide))).trans q
    · have hlt : c < s.heap.objs.size := by
        simp only [List.mem_cons, List.not_mem_nil, or_false] at hcm
        rcases hcm with e | e
        · rw [e]; exact hel
        · rw [e]; exact Nat.lt_of_succ_lt hel
      rw [upd_ne (Nat.ne_of_lt hlt)]
      exact (hf c hcm).1
  done := by
    intro X hP hw hK hc i pins s σ H E I hf st hg
    subst hP hw hK
    obtain ⟨⟨old, he⟩, a1⟩ := st
    obtain ⟨xs, hqx, rfl⟩ := hg
    have hA : X.A.in1.handled = none := I.ok.hd hc
    obtain ⟨P1, S1, D1, t1, v1, b1⟩ := src_draws (A := X.A.in1) hA I (src := src) (it := N) (fun z => Nat.lt_irrefl _ (h1 _ z)) hqx a1
    exact wpAny_pyNext_enum_endD D1 he t1 fun h' hk => ⟨rfl, I.turnedL (t' := s.toks) (ch := [N + 1, N]) (fun c o hb q => hk c o (fun q' => hb (by simp [q'])) q) hf⟩
  self := fun A i s Q E st h => let ⟨⟨_, he⟩, _⟩ := st; wpAny_pyIter_enum he h
def SrcW (K : PySem.W.Frag) (H : Hp) (v : V) (f : Tok → Src) : Prop := (∃ z, v = .str z ∧ f = fun t => .txt z t) ∨ ∃ a xs, v = .ref a ∧ SqL K H a xs ∧ f = fun _ => .lst a
def iEnumS (K : PySem.W.Frag) (ta : TA) : TI := fun σ H R => ta σ H fun vs H1 => ∃ v f, vs = [v] ∧ SrcW K H1 v f ∧ ∀ t, R (ItE K (f t)) H1
theorem pi_enumS {X : Cx} {e : Expr} {ta : TA} {p pos tpos : Pos} {elts : List Expr} {kk : Nat} (hg : Gl X "enumerate") (hm : X.mg "enumerate" = none) (ha : PA X [e] ta) (hs : starEach [e] X.env = [(false, eval e X.env)] := by rfl) :
    PI X (.Tuple elts kk tpos) (.Call (.Name "enumerate" p) [e] [] pos) (iEnumS X.K ta) := by
  refine ⟨fun pins s σ H R I h => ?_⟩
  refine Call_ (ld_blt I hg hm boot_enumerate (PyProof.Rows.callWith_type1 (thn (ha.run pos pins s σ H _ I h) fun us s1 ⟨vs, H1, I1, r1, q1⟩ => ?_) hs rfl))
  obtain ⟨v, f, rfl, sw, q⟩ := q1
  have fp2 : ∀ c, c ∈ [s1.heap.objs.size + 1, s1.heap.objs.size] → FpOk X pins H1 c := fun c hcm => by
    have hle : s1.heap.objs.size ≤ c := by
      simp only [List.mem_cons, List.not_mem_nil, or_false] at hcm
      rcases hcm with e | e
      · rw [e]; exact Nat.le_add_right _ _
      · rw [e]; exact Nat.le_refl _
    exact I1.fpOk hle (I1.hok.fresh hle)
  cases r1 with
  | cons r rr =>
    cases rr
    rcases sw with ⟨z, rfl, rfl⟩ | ⟨a, xs, rfl, sq, rfl⟩
    · obtain ⟨t, rfl⟩ := r
      refine call_enumerate_str fun h' he hit hsz hk => wpAny_pyIter_enum he ?_
      have I2 : Inv X pins σ H1 { s1 with heap := h' } := I1.kept (t' := s1.toks) hk
      exact ⟨s1.heap.objs.size + 1, [s1.heap.objs.size + 1, s1.heap.objs.size], _, _, H1, rfl, I2, turn_enumS (src := .txt z t) (fun b hb => by simp [Src.ad] at hb), ⟨⟨.none, he⟩, hit⟩, fp2, q t⟩
    · cases r
      obtain ⟨its, rv, p', hz⟩ := I1.list sq
      refine call_enumerate_list p'.isList fun h' he hit hsz hk => wpAny_pyIter_enum he ?_
      have I2 : Inv X pins σ H1 { s1 with heap := h' } := I1.kept (t' := s1.toks) hk
      exact ⟨s1.heap.objs.size + 1, [s1.heap.objs.size + 1, s1.heap.objs.size], _, _, H1, rfl, I2, turn_enumS (src := .lst a) (fun b hb => by simp only [Src.ad, List.mem_singleton] at hb; rw [hb]; exact p'.lt), ⟨⟨.none, he⟩, hit⟩, fp2, q 0⟩
section
variable {C : Cn} {W : XK} {X : Cx} {a : Expr} {fa : Ex}
theorem enumD_len (xs : List D) : (enumD xs).length = xs.length := by simp [enumD]
theorem enumD_get {xs : List D} {i : Nat} {d : D} (h : (enumD xs)[i]? = some d) : ∃ x, xs[i]? = some x ∧ d = .tup [.int i, x] := by
  unfold enumD at h
  rw [List.getElem?_zipWith] at h
  cases hx : xs[i]? with
  | none => rw [hx] at h; cases q : (List.range xs.length)[i]? <;> rw [q] at h <;> cases h
  | some x =>
    have hi := (List.getElem?_eq_some_iff.mp hx).1
    rw [hx, List.getElem?_range hi] at h
    cases h
    exact ⟨x, rfl, rfl⟩
theorem di_enum {elts : List Expr} {kk : Nat} {p pos tpos : Pos} (hK : C.K = X.K) (hg : Gl X "enumerate") (hm : X.mg "enumerate" = none) (ha : DE C W X a fa) (hs : starEach [a] X.env = [(false, eval a X.env)] := by rfl) (s1 : starEach (a :: []) X.env = (false, eval a X.env) :: starEach [] X.env := by rfl) :
    DI C W X (.Tuple elts kk tpos) (.Call (.Name "enumerate" p) [a] [] pos) (itE fa) := by
  refine PI.imp (pi_enumS hg hm (pa_cons ha pa_nil s1) hs) ?_
  rintro σ H R ⟨ρ, g, m, re, rm, h⟩
  refine ⟨ρ, g, m, re, rm, h.bind.imp fun d m1 ρ1 H1 x1 rm1 h1 v r => ?_⟩
  have key : ∀ ds, srcOf d = some ds → (∃ f, SrcW C.K H1 v f ∧ ∀ t ρ2 H2, Ext ρ1 H1 ρ2 H2 → ∃ xs, (f t).vals C.K H2 xs ∧ RepL C ρ2 H2 ds xs) → fin C ρ1 H1 W (.ok (enumD ds) m1) (fun ds _ ρ' H' => ∀ J, WalkD C ρ' H' ds J → R J H') → ∃ v' f, [v] = [v'] ∧ SrcW X.K H1 v' f ∧ ∀ t, R (ItE X.K (f t)) H1 := fun ds e1 hf h2 => by
    obtain ⟨f, b1, c1⟩ := hf
    refine ⟨v, f, rfl, hK ▸ b1, fun t => fin.now rm1 h2 _ ?_⟩
    intro ρ3 H3 i m3 x3 rm3
    obtain ⟨us, u1, u2⟩ := c1 t ρ3 H3 x3
    refine ⟨fun hi => ?_, fun d' hd => ?_⟩
    · rw [enumD_len] at hi
      exact ⟨us, hK ▸ u1, by rw [hi, u2.length]⟩
    · obtain ⟨x, hx, rfl⟩ := enumD_get hd
      obtain ⟨vx, ex, rx⟩ := u2.get hx
      refine ⟨⟨us, vx, hK ▸ u1, ex⟩, fun z H4 hy4 => ?_⟩
      obtain ⟨T, x', rfl, nT, rfl, k1⟩ := hy4
      have q1 := k1 us (hK ▸ u1)
      rw [ex] at q1
      cases q1
      exact ⟨same_upd nT, rep_tup rm3 nT (by simp only [RepL]; exact ⟨_, _, rfl, by simp only [RepV], _, _, rfl, rx, rfl⟩)⟩
  have w : ∀ ds, srcOf d = some ds → (∀ q : List D, d ≠ .tup q) → (∀ q : List D, d ≠ .tpx q) → ∃ f, SrcW C.K H1 v f ∧ ∀ t ρ2 H2, Ext ρ1 H1 ρ2 H2 → ∃ xs, (f t).vals C.K H2 xs ∧ RepL C ρ2 H2 ds xs := fun ds e n1 n2 => by
    cases d with
    | str s =>
      obtain ⟨rfl, hc⟩ := txt_at r
      cases e
      refine ⟨_, .inl ⟨_, rfl, rfl⟩, fun t ρ2 H2 _ => ⟨_, rfl, ?_⟩⟩
      have := signs_rep (C := C) (ρ := ρ2) (H := H2) hc
      simpa using this
    | lst xs =>
      cases e
      obtain ⟨p, vs, rfl, nl, q, rl⟩ := r.lst_at
      exact ⟨_, .inr ⟨p, vs, rfl, .inl (.inl q), rfl⟩, fun t ρ2 H2 x => ⟨vs, .inl (.inl (x.keep p (.lst vs) trivial nl q).2), rl.ext x⟩⟩
    | tup q => exact absurd rfl (n1 q)
    | tpx q => exact absurd rfl (n2 q)
    | _ => cases e
  cases d with
  | str s => exact key _ rfl (w _ rfl (fun _ e => nomatch e) (fun _ e => nomatch e)) h1
  | lst s => exact key _ rfl (w _ rfl (fun _ e => nomatch e) (fun _ e => nomatch e)) h1
  | _ => exact h1.elim
end
/-- a constant that is a tuple of flat things -/
theorem con_tup {C : Cn} {mg : Str → Option Value} {x : Str} {a : Addr} {ds : List D} {od : Option Addr} {its : Array Value} {n : Nat} {sl : Array (Option Value)} {xs : List V} (h : mg x = some (.ref a)) (l : C.K.lookup a = some ⟨.type "tuple", od, .seq its n, sl⟩) (hz : its.size ≤ sizeLine) (hv : Vals xs its.toList) (hr : ∀ ρ H, RepL C ρ H ds xs) :
    ∃ v u, mg x = some u ∧ RelV v u ∧ ∀ ρ H, RepV C ρ H (.tup ds) v :=
  ⟨.ref a, _, h, rfl, fun ρ H => by
    simp only [RepV]
    exact ⟨a, xs, rfl, .inr (.inr ⟨_, its, n, l, rfl, rfl, hz, hv⟩), hr ρ H⟩⟩
end LW
/-! LwE: what is walked by what it is; a module's constants; the end of a law. -/
namespace LW
open PySem PySem.Spec PyProof.Rows L2
section
variable {C : Cn} {W : XK} {X : Cx} {a tg : Expr} {fa : Ex} {pos : Pos}
theorem di_any (hK : C.K = X.K) (ha : DE C W X a fa) (ha2 : DI C W X tg a (itS fa)) (ha3 : DI C W X tg a (itL fa)) (ha4 : DI C W X tg a (itT fa)) : DI C W X tg a (itA fa) := by
  refine ⟨fun pins s σ H R I h => ?_⟩
  obtain ⟨ρ, g, m, re, rm, h⟩ := h
  have key : tDI C W (itS fa) σ H R ∨ tDI C W (itL fa) σ H R ∨ tDI C W (itT fa) σ H R := by
    simp only [itA] at h
    cases q : fa g m with
    | bad => rw [q] at h; exact h.elim
    | exc c m1 =>
      rw [q] at h
      refine .inl ⟨ρ, g, m, re, rm, ?_⟩
      simp only [itS, q]
      exact h
    | ok d m1 =>
      rw [q] at h
      cases d with
      | str s => exact .inl ⟨ρ, g, m, re, rm, by simp only [itS, q]; exact h⟩
      | lst s => exact .inr (.inl ⟨ρ, g, m, re, rm, by simp only [itL, q]; exact h⟩)
      | tpx s => exact .inr (.inr ⟨ρ, g, m, re, rm, by simp only [itT, q]; exact h⟩)
      | tup s => exact .inr (.inr ⟨ρ, g, m, re, rm, by simp only [itT, q]; exact h⟩)
      | _ => exact h.elim
  rcases key with k | k | k
  · exact ha2.run pins s σ H R I k
  · exact ha3.run pins s σ H R I k
  · exact ha4.run pins s σ H R I k
theorem di_all (hK : C.K = X.K) (ha : DE C W X a fa) : DI C W X tg a (itA fa) := di_any hK ha (di_str ha) (di_lst hK ha) (di_tup hK ha)
theorem de_const {x : Str} {d : D} (hg : Gl X x) (h : ∃ v u, X.mg x = some u ∧ RelV v u ∧ ∀ ρ H, RepV C ρ H d v) (hd : (x == ("__debug__" : Str)) = false := by decide) : DE C W X (.Name x pos) (cE d) := by
  obtain ⟨v, u, hm, r, hr⟩ := h
  exact de_glob hg hm r hr hd
end
theorem con_int {C : Cn} {mg : Str → Option Value} {x : Str} {i : Int} {t : Tok} (h : mg x = some (.int i t)) : ∃ v u, mg x = some u ∧ RelV v u ∧ ∀ ρ H, RepV C ρ H (.int i) v := ⟨.int i, _, h, ⟨t, rfl⟩, fun _ _ => by simp only [RepV]⟩
theorem con_str {C : Cn} {mg : Str → Option Value} {x z : Str} {s : List Nat} {t : Tok} (h : mg x = some (.str z t)) (hz : z.cps.toList = s) (hc : ((s.all fun c => decide (c < 1114112)) && decide (s.length ≤ lim)) = true) : ∃ v u, mg x = some u ∧ RelV v u ∧ ∀ ρ H, RepV C ρ H (.str s) v := by
  rw [Bool.and_eq_true, decide_eq_true_eq] at hc
  exact ⟨.str z, _, h, ⟨t, rfl⟩, fun _ _ => rep_str hz hc.2 hc.1⟩

theorem cl_nil {C : Cn} (ρ : Rho) (H : Hp) : RepL C ρ H [] [] := by simp only [RepL]
theorem cl_str {C : Cn} {z : Str} {s : List Nat} {ds : List D} {xs : List V} (hz : z.cps.toList = s) (hc : ((s.all fun c => decide (c < 1114112)) && decide (s.length ≤ lim)) = true) (h : ∀ ρ H, RepL C ρ H ds xs) (ρ : Rho) (H : Hp) : RepL C ρ H (.str s :: ds) (.str z :: xs) := by
  rw [Bool.and_eq_true, decide_eq_true_eq] at hc
  simp only [RepL]
  exact ⟨_, xs, rfl, rep_str hz hc.2 hc.1, h ρ H⟩
/-- what the head asks of the law -/
def spTop (K : PySem.W.Frag) : Sp := fun vs H Q _ => ∃ (a : Addr) (ns : List Int), vs = [.ref a] ∧ SqL K H a (ns.map V.int) ∧ Only H ∧ ns.length ≤ 63 ∧ ∀ v H', v = .bl true → Q v H'
theorem top_imp {C : Cn} {F : Fn} (hF : ∀ ns : List Int, ns.length ≤ 63 → ∃ m', F [.scr ns] [] = .ok (.bl true) m') (vs : List V) (H : Hp) (Q : VK) (E : XK) (h : spTop C.K vs H Q E) : spOf C 1 F vs H Q E := by
  obtain ⟨a, ns, rfl, sq, hO, hl, q⟩ := h
  obtain ⟨m', e⟩ := hF ns hl
  refine ⟨⟨[], []⟩, [], [.scr ns], rfl, ?_, ⟨rfl, fun n a l o h => by simp at h, fun n k a h => by simp at h, fun a h => by simp at h⟩, ?_⟩
  · simp only [RepL, RepV]
    refine ⟨.ref a, [], rfl, ⟨a, rfl, ?_⟩, rfl⟩
    rcases sq with (sq | ⟨o, sq⟩) | sq
    · rcases hO a with z | ⟨o, xs, z⟩
      · rw [z] at sq; cases sq
      · rw [z] at sq; cases sq
    · refine .inl ⟨fun z => ?_, o, sq⟩
      rcases z with z | z <;> simp at z
    · exact .inr (.inr sq)
  · rw [e]
    intro ρ' H' _ _ v rv
    exact q v H' (by simpa only [RepV] using rv)
theorem cx_no {P : Program} {w : World} (H : Hp) (s : Shared) (e : Value) (s' : Shared) (h : L2.CX P w [] H s (fun _ _ _ => False) e s') : False := by
  obtain ⟨_, _, _, _, _, _, _, _, _, _, _, _, h⟩ := h
  exact h
end LW
/-! LwN: further operations on plain data. Core Lean alone. -/
namespace LW
/-- the place of a refusal's class, for those that may be raised -/
def ixR (all R : List String) (c : String) : Option Nat := if c ∈ R then all.findIdx? (· == c) else none
/-! ### dicts whose keys are tuples -/
mutual
/-- whole numbers, texts, tuples of such -/
def D.key : Nat → D → Bool
  | _, .int _ => true
  | _, .str _ => true
  | k + 1, .tup ds => D.keyL k ds
  | _, _ => false
def D.keyL : Nat → List D → Bool
  | _, [] => true
  | k, d :: ds => D.key k d && D.keyL k ds
end
/-- a tuple as a key -/
@[simp] def D.tkey : D → Bool
  | .tup ds => D.keyL 7 ds
  | _ => false
def gfind (k : D) : List D → List D → Option D
  | q :: ks, v :: vs => if D.eqv q k then some v else gfind k ks vs
  | _, _ => none
def gputV (k v : D) (ks vs : List D) : List D := if (gfind k ks vs).isSome then List.zipWith (fun q x => if D.eqv q k then v else x) ks vs else vs ++ [v]
def gputK (k : D) (ks vs : List D) : List D := if (gfind k ks vs).isSome then ks else ks ++ [k]
/-- {} -/
@[simp] def gd0E : Ex := fun _ m => .ok (.ref m.length) (m ++ [.gd [] []])
/-- {k: v} -/
@[simp] def gd1E (k v : Ex) : Ex := fun g m => (k g m).bind fun x m1 => (v g m1).bind fun y m2 => if x.tkey then .ok (.ref m2.length) (m2 ++ [.gd [x] [y]]) else .bad
/-- d[k] = v -/
@[simp] def putG (d k v : Ex) : Sm := fun g m => (v g m).bind fun y m1 => (d g m1).bind fun q m2 => (k g m2).bind fun x m3 => match q with
  | .ref n => match m3[n]? with
    | some (.gd ks vs) => if x.tkey && Nat.blt ks.length lim then .ok (.nx g) (m3.set n (.gd (gputK x ks vs) (gputV x y ks vs))) else .bad
    | _ => .bad
  | _ => .bad
/-- the keys and values of a dict -/
@[simp] def gdOf (m : Mem) : D → Option (List D × List D)
  | .ref n => match m[n]? with | some (.gd ks vs) => some (ks, vs) | _ => none
  | .gdz ks vs => some (ks, vs)
  | _ => none
/-- d.get(k, x) -/
@[simp] def getdG (d k x : Ex) : Ex := fun g m => (d g m).bind fun q m1 => match gdOf m1 q with
  | none => .bad
  | some _ => (k g m1).bind fun y m2 => (x g m2).bind fun z m3 => match gdOf m3 q with
    | none => .bad
    | some c => if y.tkey then .ok ((gfind y c.1 c.2).getD z) m3 else .bad
/-- d.setdefault(k, x) -/
@[simp] def setdG (d k x : Ex) : Ex := fun g m => (d g m).bind fun q m1 => match q with
  | .ref n => match m1[n]? with
    | some (.gd _ _) => (k g m1).bind fun y m2 => (x g m2).bind fun z m3 => match m3[n]? with
      | some (.gd ks vs) => if y.tkey && Nat.blt ks.length lim then (match gfind y ks vs with
        | some w => .ok w m3
        | none => .ok z (m3.set n (.gd (gputK y ks vs) (gputV y z ks vs)))) else .bad
      | _ => .bad
    | _ => .bad
  | _ => .bad
/-- from here on the dict at a slot does not change -/
@[simp] def frzG (i : Nat) : Sm := fun g m => match g[i]? with
  | some (some (.ref n)) => match m[n]? with
    | some (.gd ks vs) => .ok (.nx (g.set i (some (.gdz ks vs)))) (m.set n .gone)
    | _ => .bad
  | _ => .bad
/-- for k in d; for v in d.values(); for k, v in d.items() -/
@[simp] def itK (f : Ex) : Ar := fun g m => (f g m).bind fun d m1 => match d with | .gdz ks _ => .ok ks m1 | _ => .bad
@[simp] def itV (f : Ex) : Ar := fun g m => (f g m).bind fun d m1 => match d with | .gdz _ vs => .ok vs m1 | _ => .bad
@[simp] def itI (f : Ex) : Ar := fun g m => (f g m).bind fun d m1 => match d with | .gdz ks vs => .ok (List.zipWith (fun k v => .tup [k, v]) ks vs) m1 | _ => .bad
/-! ### order -/
mutual
/-- x < y -/
def D.lt : D → D → Bool
  | .int i, .int j => decide (i < j)
  | .str s, .str t => decide (s < t)
  | .tup xs, .tup ys => D.ltL xs ys
  | _, _ => false
def D.ltL : List D → List D → Bool
  | x :: xs, y :: ys => if D.eqv x y then D.ltL xs ys else D.lt x y
  | [], [] => false
  | [], _ :: _ => true
  | _ :: _, [] => false
end
/-- texts of one sign -/
def onesOf : List D → Option (List Nat)
  | [] => some []
  | .str [c] :: ds => (onesOf ds).map fun l => c :: l
  | _ => none
/-- x is y, of truth values -/
@[simp] def isBD : Op := fun _ x y => match x, y with | .bl a, .bl b => some (.bl (decide (a = b))) | _, _ => none
/-- for i, x in enumerate(tuple) -/
@[simp] def itET (a : Ex) : Ar := fun g m => (a g m).bind fun x m1 => match x with
  | .tup ds => .ok (enumD ds) m1
  | _ => .bad
/-- for i, (x, y) in enumerate(zip(a, b)) -/
@[simp] def itEZ (a b : Ex) : Ar := fun g m => (a g m).bind fun x m1 => (b g m1).bind fun y m2 => match srcOf x with
  | some xs => match srcOf y with
    | some ys => .ok (enumD (zipD xs ys)) m2
    | none => .bad
  | none => .bad
/-- {k1: v1, k2: v2}[k], all keys texts -/
@[simp] def dsub2E (k1 v1 k2 v2 k : Ex) : Ex := fun g m => (k1 g m).bind fun a m1 => (v1 g m1).bind fun b m2 => (k2 g m2).bind fun c m3 => (v2 g m3).bind fun d m4 =>
  match a, c with
  | .str a, .str c => (k g m4).bind fun q m5 => match q with
    | .str q => if q = c then .ok d m5 else if q = a then .ok b m5 else .bad
    | _ => .bad
  | _, _ => .bad
/-- a, b, c = x, y, z: no tuple is looked at -/
@[simp] def par3S (i j l : Nat) (a b c : Ex) : Sm := fun g m => (a g m).bind fun x m1 => (b g m1).bind fun y m2 => (c g m2).bind fun z m3 => .ok (.nx (((g.set i (some x)).set j (some y)).set l (some z))) m3
/-! ### instances: fields, methods, making -/
def flook (f : String) : List (String × D) → Option D
  | [] => none
  | (g, d) :: r => if g = f then some d else flook f r
def fput (f : String) (v : D) : List (String × D) → List (String × D)
  | [] => [(f, v)]
  | (g, x) :: r => if g = f then (g, v) :: r else (g, x) :: fput f v r
/-- o.f -/
@[simp] def fldE (c f : String) (a : Ex) : Ex := fun g m => (a g m).bind fun x m1 => match x with
  | .ref n => match m1[n]? with
    | some (.ins c' fs) => if c' = c then opt (flook f fs) m1 else .bad
    | _ => .bad
  | _ => .bad
/-- o.f = v -/
@[simp] def sfS (c f : String) (o v : Ex) : Sm := fun g m => (v g m).bind fun y m1 => (o g m1).bind fun x m2 => match x with
  | .ref n => match m2[n]? with
    | some (.ins c' fs) => if c' = c ∧ fs.length < 1000 then .ok (.nx g) (m2.set n (.ins c (fput f y fs))) else .bad
    | _ => .bad
  | _ => .bad
/-- o.m(..) -/
@[simp] def methE (c mth : String) (F : Fn) (o : Ex) (r : Ar) : Ex := fun g m => (o g m).bind fun x m1 => match x with
  | .ref n => match m1[n]? with
    | some (.ins c' fs) => if c' = c ∧ (flook mth fs).isNone = true then (r g m1).bind fun xs m2 => F (.ref n :: xs) m2 else .bad
    | _ => .bad
  | _ => .bad
/-- C(..) -/
@[simp] def mkE (c : String) (F : Fn) (r : Ar) : Ex := fun g m => (r g m).bind fun xs m1 => match F (.ref m1.length :: xs) (m1 ++ [.ins c []]) with
  | .ok .non m2 => .ok (.ref m1.length) m2
  | .ok _ _ => .bad
  | .exc e m2 => .exc e m2
  | .bad => .bad
/-- what a name holds behind a target, for each of a list -/
def pickO (tg : Tg) (j : Nat) (g : Env) (m : Mem) : List D → Option (List D)
  | [] => some []
  | d :: r => match tg d g m with
    | .ok g' _ => match g'[j]? with
      | some (some y) => (pickO tg j g m r).map fun l => y :: l
      | _ => none
    | _ => none
/-- [y for x, y, z in list], the list may be one that changes -/
@[simp] def lcvE (own : List Nat) (tg : Tg) (j : Nat) (a : Ex) : Ex := fun g m => (a g m).bind fun x m1 => match lstOf m1 x with
  | some ds => match pickO tg j (wipeD g own) m1 ds with
    | some ys => if ys.length ≤ lim then .ok (.lst ys) m1 else .bad
    | none => .bad
  | none => .bad
/-! ### single built-ins -/
@[simp] def absB : Bf := fun _ xs => match xs with
  | [.int i] => some (.int (if i < 0 then -i else i))
  | _ => none
@[simp] def max2B : Bf := fun _ xs => match xs with
  | [.int i, .int j] => some (.int (if j > i then j else i))
  | _ => none
@[simp] def min2B : Bf := fun _ xs => match xs with
  | [.int i, .int j] => some (.int (if j < i then j else i))
  | _ => none
@[simp] def anyB : Bf := fun m xs => match xs with
  | [x] => match lstOf m x with
    | some ds => if ds.all (fun d => match d with | .bl _ => true | _ => false) then some (.bl (ds.any fun d => match d with | .bl b => b | _ => false)) else none
    | none => none
  | _ => none
/-- a // b -/
@[simp] def fdivD : Op := fun _ x y => match x, y with
  | .int i, .int j => if j ≠ 0 ∧ Nat.ble j.natAbs 1073741823 = true then some (.int (i.fdiv j)) else none
  | _, _ => none
/-- range(0, b, c), c > 0 -/
def stepsN (j c : Int) : Nat := if 0 < j then ((j - 1) / c + 1).toNat else 0
@[simp] def itR3 (a b c : Ex) : Ar := fun g m => (a g m).bind fun x m1 => (b g m1).bind fun y m2 => (c g m2).bind fun z m3 => match x, y, z with
  | .int i, .int j, .int c => if i = 0 ∧ 0 ≤ j ∧ Nat.ble j.natAbs 1000000 = true ∧ 0 < c ∧ Nat.ble c.natAbs 1000000 = true then .ok ((List.range (stepsN j c)).map fun (k : Nat) => .int (k * c)) m3 else .bad
  | _, _, _ => .bad
/-- len(set(list)): signs, or whole numbers -/
def lenSetX : Un := fun m x => match lstOf m x with
  | some ds => match onesOf ds with
    | some cs => if cs.length < 4000 then some (.int (dedup cs).length) else none
    | none => match intsOf ds with
      | some ns => if ns.length < 4000 then some (.int (dedup ns).length) else none
      | none => none
  | none => none
/-! ### more of dicts whose keys are tuples -/
/-- d != {} -/
@[simp] def neG0 (f : Ex) : Ex := fun g m => (f g m).bind fun d m1 => match gdOf m1 d with
  | some c => .ok (.bl (!c.1.isEmpty)) m1
  | none => .bad
def gcutK (k : D) (ks : List D) : List D := ks.filter fun q => !D.eqv q k
def gcutV (k : D) : List D → List D → List D
  | q :: ks, v :: vs => if D.eqv q k then gcutV k ks vs else v :: gcutV k ks vs
  | _, _ => []
/-- d.pop(k) -/
@[simp] def popG (d k : Ex) : Ex := fun g m => (d g m).bind fun q m1 => match q with
  | .ref n => match m1[n]? with
    | some (.gd _ _) => (k g m1).bind fun x m2 => match m2[n]? with
      | some (.gd ks vs) => if x.tkey then (match gfind x ks vs with
        | some w => .ok w (m2.set n (.gd (gcutK x ks) (gcutV x ks vs)))
        | none => .bad) else .bad
      | _ => .bad
    | _ => .bad
  | _ => .bad
/-- dict(list of pairs) -/
def pairsG : List D → List D → List D → Option (List D × List D)
  | [], ks, vs => some (ks, vs)
  | .tup [k, v] :: r, ks, vs => if k.tkey then pairsG r (gputK k ks vs) (gputV k v ks vs) else none
  | _, _, _ => none
@[simp] def dictG (f : Ex) : Ex := fun g m => (f g m).bind fun d m1 => match lstOf m1 d with
  | some ds => match pairsG ds [] [] with
    | some c => .ok (.ref m1.length) (m1 ++ [.gd c.1 c.2])
    | none => .bad
  | none => .bad
/-- min(d.values()) -/
@[simp] def minVG (f : Ex) : Ex := fun g m => (f g m).bind fun d m1 => match d with
  | .gdz _ vs => match intsOf vs with
    | some (i :: is) => .ok (.int (is.foldl min i)) m1
    | _ => .bad
  | _ => .bad
/-- [x for x in d.keys() if d[x] == n] -/
def keysEq (k : Int) : List D → List Int → List D
  | q :: ks, i :: is => if i = k then q :: keysEq k ks is else keysEq k ks is
  | _, _ => []
@[simp] def keysEqE (i j jo : Nat) : Ex := fun g m => match g[i]? with
  | some (some (.ref n)) => match m[n]? with
    | some (.gd ks vs) => match intsOf vs with
      | some is => match g[j]? with
        | some (some (.int k)) => if jo < g.length then .ok (.lst (keysEq k ks is)) m else .bad
        | _ => .bad
      | none => .bad
    | _ => .bad
  | _ => .bad
/-! ### dicts whose keys are texts -/
def tfind (s : List Nat) : List D → List D → Option D
  | .str q :: ks, v :: vs => if q = s then some v else tfind s ks vs
  | _, _ => none
def tput (s : List Nat) (y : D) : List D → List D → List D
  | .str q :: ks, v :: vs => (if q = s then y else v) :: tput s y ks vs
  | _ :: ks, v :: vs => v :: tput s y ks vs
  | _, _ => []
/-- {k1: v1, k2: v2, k3: v3} -/
@[simp] def dct3E (k1 v1 k2 v2 k3 v3 : Ex) : Ex := fun g m => (k1 g m).bind fun a1 m1 => (v1 g m1).bind fun b1 m2 => (k2 g m2).bind fun a2 m3 => (v2 g m3).bind fun b2 m4 => (k3 g m4).bind fun a3 m5 => (v3 g m5).bind fun b3 m6 => match a1, a2, a3 with
  | .str s1, .str s2, .str s3 => if s1 ≠ s2 ∧ s1 ≠ s3 ∧ s2 ≠ s3 then .ok (.ref m6.length) (m6 ++ [.dct [.str s1, .str s2, .str s3] [b1, b2, b3]]) else .bad
  | _, _, _ => .bad
/-- d[k] -/
@[simp] def dsubT : Op := fun m x y => match x, y with
  | .ref n, .str s => match m[n]? with
    | some (.dct ks vs) => tfind s ks vs
    | _ => none
  | _, _ => none
/-- d[k] = .. -/
@[simp] def putTG (d k : Ex) : Tg := fun y g m => (d g m).bind fun q m1 => (k g m1).bind fun x m2 => match q, x with
  | .ref n, .str s => match m2[n]? with
    | some (.dct ks vs) => if (tfind s ks vs).isSome ∧ vs.length < lim then .ok g (m2.set n (.dct ks (tput s y ks vs))) else .bad
    | _ => .bad
  | _, _ => .bad
/-! ### texts cut, numbers as texts -/
end LW
/-! LwF: defs that are called while an exception is handled; which refusal it is; try .. except. -/
namespace LW
open PySem PySem.Spec PyProof.Rows L2
abbrev SpQ := (Addr × Obj) → List V → Hp → VK → Prop
/-- a def's promise while the exception at p is handled; nothing is raised -/
structure FnQ (P : Program) (w : World) (K : PySem.W.Frag) (mg : Str → Option Value) (base : Heap) (k : Nat) (f : Addr) (fd : FuncData) (ps : List Str) (sp : SpQ) : Prop where
  len : ∀ p vs H Q, sp p vs H Q → vs.length = ps.length
  run : ∀ (p : Addr × Obj) (A : Around) (outer : List PySem.Env) (s : Shared) (H : Hp) (args : Args) (us : List Value) (vs : List V) (Q : VK), L2H.RoomH k A → L2H.PinOk outer H s p → Env0 P w K mg base A outer s H →
    BindsTo s fd args (ps.zip us) → Vals vs us → sp p vs H Q → codeAny (model P w) A (.call (.ref f) args) (CR (L2.CX P w) outer P w H s Q E0) s
theorem fnq_of {P : Program} {w : World} {K : PySem.W.Frag} {mg : Str → Option Value} {base : Heap} {x qual : Str} {st : Stmt} {f : Addr} {fd : FuncData} {N ps : List Str} {k : Nat} {sp : SpQ} (F : Fun K x qual st f fd) (S : FnScope N ps (defScope st))
    (len : ∀ p vs H Q, sp p vs H Q → vs.length = ps.length)
    (hbody : ∀ (cdv : Value) (p : Addr × Obj) (A : Around) (outer : List PySem.Env) (s : Shared) (H : Hp) (vs : List V) (Q : VK), L2H.RoomH k (A.deeper (envOfC qual (defScope st) s.heap.objs.size f cdv)) → sp p vs H Q →
      ∃ t, PSs (L2H.cxH (L2.CX P w) P w K mg base N qual (defScope st) f cdv A outer s H E0 p) (defBody st) t ∧ t { nx := fun _ H' => Q .non H', rt := Q } (L2.start N vs) H) :
    FnQ P w K mg base (k + 1) f fd ps sp := by
  obtain ⟨oc, od, kV, doc, pm, an, cdv, ct, osl, rfl, lk, hcd⟩ := F.ex
  refine ⟨len, ?_⟩
  intro p A outer s H args us vs Q hr hpin e0 hb r hsp
  have lv := len _ _ _ _ hsp
  have kx : K.In s.heap := e0.mod.kin.keeps (fun b o e => (e0.bs b o e).1)
  have nl : s.heap.NoLimit := e0.mod.nolimit.keeps (fun b o e => (e0.bs b o e).1)
  have kinds : ∀ y ∈ ps.zip us, (defScope st).names.lookup y.1 = some .local ∨ ((defScope st).names.lookup y.1 = some .cell ∧ ((cellsFrom (s.heap.objs.size + 1) (defScope st).names []).lookup y.1).isSome = true) := by
    rintro ⟨n, v⟩ hy
    rcases S.par n (List.of_mem_zip hy).1 with q | q
    · left; exact q
    · right; exact ⟨q, PySem.W.cellsFrom_some _ _ _ (.inl q)⟩
  refine codeAny_call_function (L2H.RoomH.depth hr) (kx _ _ lk) rfl S.co S.gen rfl (PySem.W.codeRec_of kx hcd) (hb _ _ _ _ ?_)
  refine wpAny_newFunctionEnv_cells S.kind kinds (fun env he s1 x => ?_)
  subst he
  refine ⟨nl.keeps x.toInCall.keep, codeAny_func ?_⟩
  obtain ⟨t, ht, hq⟩ := hbody cdv p A outer s H vs Q (hr.deeper _) hsp
  have I := L2H.inv_startH (CX := L2.CX P w) (E := E0) S hpin e0 lv r x
  refine wpAny_mono (ht.run [] s1 (L2.start N vs) H _ I hq) ?_ (fun e s' hs => hs)
  intro fl s' hs
  cases fl with
  | ret u =>
    obtain ⟨v, σ', H', J, rv, q⟩ := hs
    exact ⟨v, H', J.os, J.bare, J.base, J.hok, rv, q⟩
  | next =>
    obtain ⟨σ', H', J, q⟩ := hs
    exact ⟨V.non, H', J.os, J.bare, J.base, J.hok, rfl, q⟩
  | brk =>
    obtain ⟨_, _, _, q⟩ := hs
    cases q
  | cont =>
    obtain ⟨_, _, _, q⟩ := hs
    cases q
/-- the call -/
def tCallQ (p : Addr × Obj) (sp : SpQ) (t : TA) : TE := fun σ H Q => t σ H fun vs H1 => sp p vs H1 Q
theorem pe_callQ {X : Cx} {k : Nat} {f : Addr} {fd : FuncData} {ps : List Str} {sp : SpQ} {x : Str} {q pos : Pos} {e : Expr} {es : List Expr} {t : TA} {p : Addr × Obj} (F : FnQ X.prog X.w X.K X.mg X.base k f fd ps sp) (hr : L2H.RoomH k X.A) (hp : p ∈ X.pn)
    (hg : Gl X x) (hm : X.mg x = some (.ref f)) (hk : PySem.W.keepIn X.K (.ref f) = true) (hb : Binds X.K fd ps []) (ha : PA X (e :: es) t) (hdb : (x == ("__debug__" : Str)) = false := by decide)
    (he : starEach (e :: es) X.env = (false, eval e X.env) :: starEach es X.env := by rfl) (hpl : (backTo pos (starEach es X.env)).any (·.1) = false := by rfl) : PE X (.Call (.Name x q) (e :: es) [] pos) (tCallQ p sp t) := by
  refine ⟨fun pins s σ H Q I h => ?_⟩
  refine wpAny_Call_Name_kw (ld_glob I hg hm ?_ hdb)
  refine PySem.W.callWith_K (h₀ := X.base) I.ok.mod.kin hk (thn (ha.run pos pins s σ H _ I h) ?_) he hpl
  rintro us s1 ⟨vs, H1, I1, r, q⟩
  refine ⟨I1.kIn, ?_⟩
  have hl : us.length = ps.length := by rw [← r.length]; exact F.len _ _ _ _ q
  have b := hb s1 us I1.kIn (by rw [List.append_nil]; exact hl)
  rw [List.append_nil] at b
  have P1 := I1.pin p (List.mem_append_left _ hp)
  have pin : L2H.PinOk X.stack H1 s1 p := ⟨P1.1, P1.2.1, fun hm => (List.mem_cons.mp (I1.stkSub p.1 hm)).elim P1.2.2.1 P1.2.2.2.1, P1.2.2.2.2⟩
  refine wpAny_call (codeAny_mono (F.run p X.A X.stack s1 H1 ⟨us, []⟩ us vs Q hr pin I1.env0 b r q) ?_)
  intro r s' hq
  cases r with
  | error e => exact passL (X := X) pins σ H1 s1 e s' I1 hq
  | ok fl =>
    cases fl with
    | ret u => exact I1.after hq
    | next => cases hq
    | brk => cases hq
    | cont => cases hq
/-! ### which refusal -/
theorem kit_own {K : PySem.W.Frag} {D C : Addr} {b : Bool} (h : PySem.W.subIn K (.ref D) (.ref C) = some b) (hd : PySem.W.hasDictIn K C = true) (ht : PySem.W.typeIn K (.ref C) = some (.type "type")) (hs : D = C → b = true) : PySem.W.kitOne K (.ref D) (.ref C) = some b := by
  obtain ⟨cd, hc, _⟩ := PySem.W.any_some hd
  have e2 : ((PySem.W.clsIn K C).isSome && PySem.W.typeIn K (.ref C) == some (.type "type")) = true := by rw [hc, ht] <;> rfl
  unfold PySem.W.kitOne
  split
  · rename_i q
    rw [hs (Value.ref.inj (beq_iff_eq.mp q))]
  · unfold PySem.W.kitCls
    dsimp only
    rw [if_pos e2]
    exact h
theorem kit_val {K : PySem.W.Frag} {D : Addr} {T : String} {b : Bool} (h : PySem.W.subIn K (.ref D) (.type T) = some b) (hm : PySem.W.kitMeta T = true) : PySem.W.kitOne K (.ref D) (.type T) = some b := by
  unfold PySem.W.kitOne
  split
  · rename_i q
    cases beq_iff_eq.mp q
  · unfold PySem.W.kitCls
    dsimp only
    rw [if_pos hm]
    exact h
/-- isinstance(e, c), e the handled exception -/
theorem call_isQ {X : Cx} {a D : Addr} {oe : Obj} (C : ExcC X.K D) (hz : Zc (.ref D) none oe) (hf : ∃ vs, oe.data = .fields vs) (hp : (a, oe) ∈ X.pn) : CallR X (.builtin "isinstance") (rIsE X.K D a) := by
  intro pins s σ H xs us Q I r h
  obtain ⟨c, cv, b, rfl, hcv, e, q⟩ := h
  obtain ⟨u1, u2, rfl, r1, r2⟩ := vals2 r
  cases r1
  cases hcv _ r2
  obtain ⟨hget, _⟩ := I.pin (a, oe) (List.mem_append_left _ hp)
  obtain ⟨vs, hv⟩ := hf
  have J : PySem.W.InstAt s.heap a oe D none := by
    obtain ⟨oc, od, oda, osl⟩ := oe
    obtain ⟨h1, h2⟩ := hz
    dsimp only at h1 h2 hv
    subst h1 h2 hv
    exact ⟨hget, rfl, rfl, trivial⟩
  refine PySem.W.kia_one (PySem.W.handS_kitx_exc C.hg C.hk C.hs C.hd C.ha C.hn C.ht C.hm) I.kIn J e (fun z => nomatch z) ?_
  exact fun tk => ⟨.bl b, H, I.kept (t' := tk) fun _ _ z => z, rfl, q⟩
/-- xs.count(x), flat things -/
def rCnt (K : PySem.W.Frag) : V → List V → Hp → VK → Prop := fun x xs H Q => ∃ (a : Addr) (ys : List V) (y : V), x = V.ref a ∧ xs = [y] ∧ SqL K H a ys ∧ flatV y = true ∧ ys.all flatV = true ∧ Q (.int (ys.countP fun z => eqV z y : Nat)) H
theorem count_eqU {y : V} : ∀ {ys : List V} {us : List Value}, Vals ys us → ys.all flatV = true → us.countP (eqU y) = ys.countP fun z => eqV z y
  | _, _, .nil, _ => rfl
  | _, _, .cons r t, f => by
    rw [List.all_cons, Bool.and_eq_true] at f
    rw [List.countP_cons, List.countP_cons, count_eqU t f.2, eqU_of r f.1]
theorem mt_cnt {X : Cx} : MtR X "list.count" (rCnt X.K) := by
  intro pins s σ H x xs v us Q I rx rxs h
  obtain ⟨a, ys, y, rfl, rfl, hs, fy, fys, q⟩ := h
  cases rx
  obtain ⟨u, rfl, ru⟩ := rxs.one
  obtain ⟨its, rv, ⟨⟨cls, dd, data, sl⟩, n, ho, hc, hdn, hd⟩, hlen⟩ := I.list hs
  simp only at hc hd
  subst hc hd
  refine call_meets PySem.F.slot_list_count ⟨_, ho, rfl⟩ PySem.F.entry_list_count (PySem.F.args_list_count_2 _ _) (SeqAt.list_countAt a its.toArray n dd sl u (eqU y)) ⟨ho, fun z hz => mem_eqAt ru fy rv fys z (by simpa using hz), ?_⟩
  have ec : its.toArray.toList.countP (eqU y) = ys.countP fun z => eqV z y := count_eqU rv fys
  refine ⟨.int (ys.countP fun z => eqV z y : Nat), H, I.tok _, ⟨s.toks, ?_⟩, q⟩
  rw [ec]
/-- what isinstance answers for the classes cs -/
def kits (K : PySem.W.Frag) (D : Addr) : List Addr → List Bool → Prop
  | c :: cs, b :: bs => PySem.W.kitOne K (.ref D) (.ref c) = some b ∧ kits K D cs bs
  | [], [] => True
  | _, _ => False
structure WhX (K : PySem.W.Frag) (D : Addr) (cs : List Addr) (bs : List Bool) : Prop where
  x : ExcC K D
  k : kits K D cs bs
  v : PySem.W.kitOne K (.ref D) (.type "ValueError") = some true
/-- the class at D is the j-th of cs, and no other -/
def spWh (K : PySem.W.Frag) (cs : List Addr) : SpQ := fun p vs H Q => ∃ (D : Addr) (bs : List Bool) (j : Nat), vs = [.ref p.1] ∧ Zc (.ref D) none p.2 ∧ (∃ us, p.2.data = .fields us) ∧ WhX K D cs bs ∧
  bs.countP (fun b => b) = 1 ∧ bs[j]? = some true ∧ (∀ m, m < j → bs[m]? = some false) ∧ ∀ t H', Same H H' → H t = none → H' t = some (.tup [.str "refused", .int (j : Nat)]) → Q (.ref t) H'
/-- isinstance(e, x) -/
def tIs (a : Addr) (b : Bool) : TE := fun σ H Q => σ[0]? = some (some (.ref a)) ∧ Q (.bl b) H
theorem pe_is {X : Cx} {a D C : Addr} {b : Bool} {oe : Obj} {x y : Str} {p1 p2 p3 pos : Pos} (c : ExcC X.K D) (hz : Zc (.ref D) none oe) (hf : ∃ vs, oe.data = .fields vs) (hp : (a, oe) ∈ X.pn) (zi : X.mg "isinstance" = none) (hg : Gl X "isinstance") (hgx : Gl X x) (hm : X.mg x = some (.ref C))
    (hN : X.N[0]? = some y) (hv : Vis X.env.scope y) (hk : PySem.W.kitOne X.K (.ref D) (.ref C) = some b) (hd : (x == ("__debug__" : Str)) = false := by decide) (hdy : (y == ("__debug__" : Str)) = false := by decide) (hcy : (y == ("__classdict__" : Str)) = false := by decide)
    (he : starEach [Expr.Name y p2, .Name x p3] X.env = (false, eval (.Name y p2) X.env) :: starEach [.Name x p3] X.env := by rfl) (he2 : starEach [Expr.Name x p3] X.env = (false, eval (.Name x p3) X.env) :: starEach [] X.env := by rfl) (hpl : (backTo pos (starEach [Expr.Name x p3] X.env)).any (·.1) = false := by rfl) :
    PE X (.Call (.Name "isinstance" p1) [.Name y p2, .Name x p3] [] pos) (tIs a b) := by
  refine PE.imp (pe_callB (call_isQ c hz hf hp) hg zi (by decide +kernel) (pa_cons (pe_var hN hv hdy hcy) (pa_cons (pe_glob (v := .ref C) hgx hm rfl hd) pa_nil he2) he) (by decide) (by decide) he hpl) ?_
  rintro σ H Q ⟨h1, h2⟩
  exact ⟨_, h1, .ref C, .ref C, b, rfl, fun u r => r, hk, h2⟩
theorem pe_isV {X : Cx} {a D : Addr} {oe : Obj} {y : Str} {p1 p2 p3 pos : Pos} (c : ExcC X.K D) (hz : Zc (.ref D) none oe) (hf : ∃ vs, oe.data = .fields vs) (hp : (a, oe) ∈ X.pn) (zi : X.mg "isinstance" = none) (zv : X.mg "ValueError" = none) (hg : Gl X "isinstance") (hgx : Gl X "ValueError")
    (hN : X.N[0]? = some y) (hv : Vis X.env.scope y) (hk : PySem.W.kitOne X.K (.ref D) (.type "ValueError") = some true) (hdy : (y == ("__debug__" : Str)) = false := by decide) (hcy : (y == ("__classdict__" : Str)) = false := by decide)
    (he : starEach [Expr.Name y p2, .Name "ValueError" p3] X.env = (false, eval (.Name y p2) X.env) :: starEach [.Name "ValueError" p3] X.env := by rfl) (he2 : starEach [Expr.Name "ValueError" p3] X.env = (false, eval (.Name "ValueError" p3) X.env) :: starEach [] X.env := by rfl) (hpl : (backTo pos (starEach [Expr.Name "ValueError" p3] X.env)).any (·.1) = false := by rfl) :
    PE X (.Call (.Name "isinstance" p1) [.Name y p2, .Name "ValueError" p3] [] pos) (tIs a true) := by
  refine PE.imp (pe_callB (call_isQ c hz hf hp) hg zi (by decide +kernel) (pa_cons (pe_var hN hv hdy hcy) (pa_cons (pe_bltn (v := .ty "ValueError") hgx zv (by decide +kernel) rfl) pa_nil he2) he) (by decide) (by decide) he hpl) ?_
  rintro σ H Q ⟨h1, h2⟩
  exact ⟨_, h1, .ty "ValueError", .type "ValueError", true, rfl, fun u r => r, hk, h2⟩
theorem wh_count : ∀ bs : List Bool, bs.countP (fun b => b) = 1 → (bs.map V.bl).countP (fun z => eqV z (V.bl true)) = 1 := fun bs h => by
  rw [List.countP_map, ← h]
  congr 1
  funext b
  cases b <;> rfl
theorem wh_at {j : Nat} (bs : List Bool) (h : bs[j]? = some true) : (bs.map V.bl)[j]? = some (V.bl true) := by
  rw [List.getElem?_map, h]
  rfl
theorem wh_no {j : Nat} (bs : List Bool) (h : ∀ m, m < j → bs[m]? = some false) (m : Nat) (z : V) (hm : m < j) (e : (bs.map V.bl)[m]? = some z) : eqV z (V.bl true) = false := by
  rw [List.getElem?_map, h m hm] at e
  cases e
  rfl
theorem none_of {H H' : Hp} (s : Same H H') {t : Addr} (h : H' t = none) : H t = none := by
  cases q : H t with
  | none => rfl
  | some o => rw [s t o q] at h; cases h
end LW
/-! LwG: try .. except that tells which refusal; calls of defs picked out of a list; list(range(n)). -/
namespace LW
open PySem PySem.Spec PyProof.Rows L2
section
variable {C : Cn} {W : XK} {X : Cx} {a b c : Expr} {fa fb fc : Ex} {pos : Pos}
def tWh (K : PySem.W.Frag) (cs : List Addr) (i : Nat) (a : Addr) (cls : Value) (d : Option Addr) : TS := fun N σ H => σ[i]? = some (some (.ref a)) ∧ ∃ (D : Addr) (bs : List Bool) (j : Nat), cls = .ref D ∧ d = none ∧ WhX K D cs bs ∧
  bs.countP (fun b => b) = 1 ∧ bs[j]? = some true ∧ (∀ m, m < j → bs[m]? = some false) ∧ ∀ t H', Same H H' → H t = none → H' t = some (.tup [.str "refused", .int (j : Nat)]) → N.rt (.ref t) H'
/-- what is known of the classes that may be raised: c is the j-th -/
def WhIx (C : Cn) (cW : Value) (cs : List Addr) (ix : String → Option Nat) : Prop := ∀ c j, ix c = some j → ∃ (D : Addr) (bs : List Bool), C.cls c = .ref D ∧ PySem.W.exmOne C.K (.ref D) cW = some true ∧ WhX C.K D cs bs ∧
  bs.countP (fun b => b) = 1 ∧ bs[j]? = some true ∧ ∀ m, m < j → bs[m]? = some false
theorem rep_refused {ρ : Rho} {H : Hp} {t : Addr} {j : Nat} (hl : ¬ lives ρ t) (h : H t = some (.tup [.str "refused", .int (j : Nat)])) : RepV C ρ H (.tup [.str [114, 101, 102, 117, 115, 101, 100], .int j]) (.ref t) := by
  simp only [RepV]
  refine ⟨t, _, rfl, .inl ⟨hl, .inl h⟩, ?_⟩
  simp only [RepL]
  exact ⟨_, _, rfl, rep_str (by decide +kernel) (by decide) (by decide +kernel), _, _, rfl, by simp only [RepV], rfl⟩
theorem ds_try {k i : Nat} {f : Addr} {fd : FuncData} {ps : List Str} {cs : List Addr} {cW : Value} {ix : String → Option Nat} {body : List Stmt} {fb : Sm} {x y n : Str} {np p1 p2 p3 p4 pos' : Pos}
    (hK : C.K = X.K) (hs : X.stack = X.env :: X.outer) (hf : X.env.frame = some X.env.locals) (hN : X.N.Nodup) (hi : X.N[i]? = some n) (hln : X.env.kindOf n = some .local) (hc : Names X x cW)
    (F : FnQ X.prog X.w X.K X.mg X.base k f fd ps (spWh X.K cs)) (hr : Room k X.A) (hg : Gl X y) (hm : X.mg y = some (.ref f)) (hk : PySem.W.keepIn X.K (.ref f) = true) (hb : Binds X.K fd ps []) (hix : WhIx C cW cs ix)
    (hbd : ∀ (W' : XK) (pn : List (Addr × Obj)) (xe : Value → Shared → Prop), TakesK (X.tr pn xe) W' → PassesOwn (model X.prog X.w) X.A X.env xe → DSs C W' (X.tr pn xe) body fb)
    (hdb : (y == ("__debug__" : Str)) = false := by decide) (hdn : (n == ("__debug__" : Str)) = false := by decide) (hcn : (n == ("__classdict__" : Str)) = false := by decide)
    (he : starEach [Expr.Name n p2] X.env = (false, eval (.Name n p2) X.env) :: starEach [] X.env := by rfl) :
    DS C W X (.Try body [.ExceptHandler (some (.Name x np)) (some n) [.Return (some (.Call (.Name y p1) [.Name n p2] [] p3)) p4] pos'] [] [] pos) (tryS ix fb) := by
  refine PS.imp (ps_try_as (i := i) (tb := fun W0 => tDS C (fun c d H => ∀ σ, σ.length = X.N.length → W0 c d σ H) fb) (ts := tWh X.K cs i) hs hf hN hi hln hc takes0 (fun W0 pn xe tk pw => hbd _ pn xe ?_ pw) ?_) ?_
  · rintro u s' ⟨a, B, sI, pins, σ, H, cls, d, e, I, nb, up, sky, na, os, ag, w⟩
    exact tk u s' ⟨a, B, sI, pins, σ, H, cls, d, e, I, nb, up, sky, na, os, ag, w σ I.len⟩
  · intro a oe cls d pn hz hfl
    refine PSs.imp (pss_one (ps_ret (pe_callQ (X := X.suite a ((a, oe) :: pn)) (p := (a, oe)) F ⟨hr.dp, hr.un⟩ List.mem_cons_self hg hm hk hb (pa_cons (pe_var (i := i) hi (.inl hln) hdn hcn) pa_nil he) hdb he rfl))) ?_
    rintro N σ H ⟨h0, D, bs, j, rfl, rfl, h1, h2, h3, h4, h5⟩
    exact ⟨_, h0, D, bs, j, rfl, hz, hfl, h1, h2, h3, h4, h5⟩
  · rintro N σ H ⟨ρ, g, m, re, rm, h⟩
    refine ⟨ρ, g, m, re, rm, ?_⟩
    simp only [tryS] at h
    cases q : fb g m with
    | ok o m1 => rw [q] at h; exact h
    | bad => rw [q] at h; exact h
    | exc c m1 =>
      rw [q] at h
      dsimp only at h
      cases hx : ix c with
      | none => rw [hx] at h; exact h.elim
      | some j =>
        rw [hx] at h
        obtain ⟨D, bs, e1, e2, e3, e4, e5, e6⟩ := hix c j hx
        intro ρ' H' x rm' σ' hl
        rw [hK] at e2 e3
        refine ⟨true, by rw [e1]; exact e2, fun _ a ha => ⟨?_, D, bs, j, e1, rfl, e3, e4, e5, e6, fun t H2 s2 hn2 ht => ?_⟩, fun z => nomatch z⟩
        · rw [List.getElem?_set_self (by rw [hl]; exact (List.getElem?_eq_some_iff.mp hi).1)]
        · exact h ρ' H2 (x.trans (.of_same s2)) (rm'.same s2) _ (rep_refused (rm'.free_of hn2) ht)
theorem kit_own2 {K : PySem.W.Frag} {D E : Addr} {b : Bool} (h : PySem.W.subIn K (.ref D) (.ref E) = some b) (self : PySem.W.subIn K (.ref D) (.ref D) = some true) (hd : PySem.W.hasDictIn K E = true) (ht : PySem.W.typeIn K (.ref E) = some (.type "type")) : PySem.W.kitOne K (.ref D) (.ref E) = some b :=
  kit_own h hd ht fun e => by
    subst e
    exact Option.some.inj (h.symm.trans self)
theorem whix_nil {cW : Value} {cs : List Addr} {all : List String} : WhIx C cW cs (ixR all []) := fun c j h => by simp [ixR] at h
theorem whix_cons {cW : Value} {cs : List Addr} {all R : List String} {c : String} {D : Addr} {bs : List Bool} {j : Nat} (hc : C.cls c = .ref D) (he : PySem.W.exmOne C.K (.ref D) cW = some true) (hw : WhX C.K D cs bs) (h1 : bs.countP (fun b => b) = 1) (hj : all.findIdx? (· == c) = some j) (hb : bs[j]? = some true)
    (hm : ∀ m, m < j → bs[m]? = some false) (r : WhIx C cW cs (ixR all R)) : WhIx C cW cs (ixR all (c :: R)) := fun c' j' h => by
  by_cases e : c' = c
  · subst e
    unfold ixR at h
    rw [if_pos (by simp), hj] at h
    cases h
    exact ⟨D, bs, hc, he, hw, h1, hb, hm⟩
  · refine r c' j' ?_
    unfold ixR at h ⊢
    by_cases q : c' ∈ R
    · rw [if_pos q]
      rw [if_pos (List.mem_cons_of_mem _ q)] at h
      exact h
    · rw [if_neg (by simp [e, q])] at h
      cases h
end
end LW
/-! LwH: dicts whose keys are tuples, of any depth: in, read, stored. -/
namespace LW
open PySem PySem.Spec PyProof.Rows L2
/-! ### keys as data -/
section
variable {C : Cn} {W : XK} {X : Cx} {a b c : Expr} {fa fb fc : Ex} {pos : Pos} {ρ : Rho} {H : Hp} {m : Mem}
/-! ### keys in the heap -/
/-! ### k in d -/
/-! ### d[k] -/
/-! ### new dicts -/
/-! ### d[k] = v -/
/-! ### {k: v} -/
theorem RepO.weak {ρ' : Rho} {a : Addr} {l : Bool} (mono : ∀ b, lives ρ' b → lives ρ b) (pre : ∀ n b, adr ρ n b → adr ρ' n b) : ∀ {o : MO}, RepO C ρ H a l o → RepO C ρ' H a l o
  | .lst ds, h => by
    obtain ⟨e, xs, q, r⟩ := h
    exact ⟨e, xs, q, show_ext.weakL mono pre r⟩
  | .dct ks vs, h => by
    obtain ⟨e, xs, r, h⟩ := h
    exact ⟨e, xs, show_ext.weakL mono pre r, h⟩
  | .ins c fs, h => by
    obtain ⟨e, Cc, dx, vs, h1, h2, h3, h4⟩ := h
    exact ⟨e, Cc, dx, vs, h1, h2, h3, show_ext.weakL mono pre h4⟩
  | .gd ks vs, h => by
    obtain ⟨e, xs, vv, h1, h2, h3, h4, h5⟩ := h
    exact ⟨e, xs, vv, h1, h2, h3, show_ext.weakL mono pre h4, show_ext.weakL mono pre h5⟩
  | .gone, h => h
/-- a hidden thing becomes one that is to change -/
def Rho.out (ρ : Rho) (p : Addr) : Rho := ⟨ρ.l ++ [(p, true)], ρ.z.filter fun b => decide (b ≠ p)⟩
theorem lives_out {p b : Addr} (hz : p ∈ ρ.z) : lives (ρ.out p) b ↔ lives ρ b := by
  unfold lives Rho.out
  simp only [List.mem_append, List.mem_singleton, Prod.mk.injEq, and_true, List.mem_filter, decide_eq_true_eq]
  constructor
  · rintro ((h | h) | h)
    · exact .inl h
    · subst h; exact .inr hz
    · exact .inr h.1
  · rintro (h | h)
    · exact .inl (.inl h)
    · by_cases e : b = p
      · exact .inl (.inr e)
      · exact .inr ⟨h, e⟩
theorem out_pre {p : Addr} (n : Nat) (b : Addr) (h : adr ρ n b) : adr (ρ.out p) n b := by
  obtain ⟨l, h⟩ := h
  refine ⟨l, ?_⟩
  show (ρ.l ++ [(p, true)])[n]? = _
  rw [List.getElem?_append_left (List.getElem?_eq_some_iff.mp h).1]
  exact h
theorem RepM.out {p : Addr} {u : MO} (rm : RepM C ρ H m) (hz : p ∈ ρ.z) (ru : RepO C (ρ.out p) H p true u) : RepM C (ρ.out p) H (m ++ [u]) := by
  have hnl : (p, true) ∉ ρ.l := (rm.hid p hz).2
  refine ⟨by show (ρ.l ++ [(p, true)]).length = _; rw [List.length_append, List.length_append, rm.len]; rfl, fun n a l w h1 h2 => ?_, fun n k a h1 h2 => ?_, fun a z => ?_⟩
  · change (ρ.l ++ [(p, true)])[n]? = some (a, l) at h1
    by_cases hlt : n < ρ.l.length
    · rw [List.getElem?_append_left hlt] at h1
      rw [List.getElem?_append_left (by rw [← rm.len]; exact hlt)] at h2
      exact (rm.obj n a l w h1 h2).weak (fun b hb => (lives_out hz).mp hb) out_pre
    · have e : n = ρ.l.length := by
        have := (List.getElem?_eq_some_iff.mp h1).1
        rw [List.length_append, List.length_singleton] at this
        omega
      subst e
      rw [List.getElem?_append_right (Nat.le_refl _), Nat.sub_self] at h1
      rw [List.getElem?_append_right (by rw [rm.len]; exact Nat.le_refl _), rm.len, Nat.sub_self] at h2
      cases h1
      cases h2
      exact ru
  · have key : ∀ {n : Nat}, (ρ.l ++ [(p, true)])[n]? = some (a, true) → (ρ.l[n]? = some (a, true) ∧ a ≠ p) ∨ (n = ρ.l.length ∧ a = p) := fun {n} h => by
      by_cases hlt : n < ρ.l.length
      · rw [List.getElem?_append_left hlt] at h
        refine .inl ⟨h, fun e => ?_⟩
        subst e
        exact hnl (List.mem_of_getElem? h)
      · have e : n = ρ.l.length := by
          have := (List.getElem?_eq_some_iff.mp h).1
          rw [List.length_append, List.length_singleton] at this
          omega
        subst e
        rw [List.getElem?_append_right (Nat.le_refl _), Nat.sub_self] at h
        cases h
        exact .inr ⟨rfl, rfl⟩
    rcases key h1 with ⟨q1, n1⟩ | ⟨q1, n1⟩ <;> rcases key h2 with ⟨q2, n2⟩ | ⟨q2, n2⟩
    · exact rm.dis n k a q1 q2
    · exact absurd n2 n1
    · exact absurd n1 n2
    · rw [q1, q2]
  · obtain ⟨z1, z2⟩ := List.mem_filter.mp z
    refine ⟨(rm.hid a z1).1, fun hm => ?_⟩
    have hm : (a, true) ∈ ρ.l ++ [(p, true)] := hm
    rcases List.mem_append.mp hm with h | h
    · exact (rm.hid a z1).2 h
    · have e : a = p := by simpa using h
      exact (of_decide_eq_true z2) e
theorem ext_out {ρ2 : Rho} {H2 : Hp} {p : Addr} (x : Ext ρ H ρ2 H2) (hp : H p = none) (hz : p ∈ ρ2.z) : Ext ρ H (ρ2.out p) H2 := by
  refine ⟨fun n a h => out_pre n a (x.pre n a h), fun b u pl n r => ?_, fun b u pl n r => ?_, fun b o z q => ?_, x.there⟩
  · obtain ⟨n', r'⟩ := x.keep b u pl n r
    exact ⟨fun h => n' ((lives_out hz).mp h), r'⟩
  · obtain ⟨n', r'⟩ := x.keepD b u pl n r
    exact ⟨fun h => n' ((lives_out hz).mp h), r'⟩
  · obtain ⟨z', q'⟩ := x.lx b o z q
    exact ⟨List.mem_filter.mpr ⟨z', decide_eq_true (ne_of_none q hp)⟩, q'⟩
/-- a hidden object is written anew -/
theorem ext_grown {ρ2 : Rho} {H2 : Hp} {p : Addr} {o : HO} (xx : Ext ρ H ρ2 H2) (hp : H p = none) : Ext ρ H ρ2 (upd H2 p o) := by
  refine ⟨xx.pre, fun b u' pl n r => ?_, fun b u' pl n r => ?_, fun b o' z q => ?_, fun b hb => ?_⟩
  · obtain ⟨n', r'⟩ := xx.keep b u' pl n r
    exact ⟨n', by rw [upd_ne (ne_of_none r hp)]; exact r'⟩
  · obtain ⟨n', r'⟩ := xx.keepD b u' pl n r
    have ne : b ≠ p := fun e => by rcases r with r | ⟨_, r⟩ <;> (rw [e, hp] at r; cases r)
    refine ⟨n', ?_⟩
    rcases r' with r' | ⟨ob, r'⟩
    · exact .inl (by rw [upd_ne ne]; exact r')
    · exact .inr ⟨ob, by rw [upd_ne ne]; exact r'⟩
  · obtain ⟨z', q'⟩ := xx.lx b o' z q
    exact ⟨z', by rw [upd_ne (ne_of_none q hp)]; exact q'⟩
  · by_cases e : b = p
    · rw [e, upd_same]; exact fun z => nomatch z
    · rw [upd_ne e]; exact xx.there b hb
end
end LW
/-! LwI: dicts that nobody changes any more: walked by keys, values, items; d.get(k, x), d.setdefault(k, x). -/
namespace LW
open PySem PySem.Spec PyProof.Rows L2
section
variable {C : Cn} {W : XK} {X : Cx} {a b c : Expr} {fa fb fc : Ex} {pos : Pos} {ρ : Rho} {H : Hp} {m : Mem}
/-! ### from here on it does not change -/
/-! ### d.get(k, x) -/
/-! ### d.setdefault(k, x) -/
/-! ### walks -/
theorem vals_get {vv : List V} {us : List Value} (h : Vals vv us) : ∀ {i : Nat} {u : Value}, us[i]? = some u → ∃ v, vv[i]? = some v ∧ RelV v u := by
  induction h with
  | nil => intro i u e; simp at e
  | cons r rr ih =>
    intro i u e
    cases i with
    | zero => cases e; exact ⟨_, rfl, r⟩
    | succ i => exact ih e
section
variable {P : Program} {w : World} {K : PySem.W.Frag} {tg : Expr} {d : Addr} {o : Obj} {es : Array DictEntry} {ep : Nat} {zs : List (NestedKey × Addr × Value)} {vv : List V}
end
section
variable {tg e : Expr} {td : TE} {apos cpos : Pos}
end
section
variable {tg : Expr} {apos cpos : Pos}
end
end
end LW
/-! LwJ: min of a list; text.index(sign). -/
namespace LW
open PySem PySem.Spec PyProof.Rows L2
section
variable {C : Cn} {W : XK} {X : Cx} {a b c o e : Expr} {fa fb fc : Ex} {pos : Pos} {ρ : Rho} {H : Hp} {m : Mem}
/-! ### of one kind -/
/-! ### min -/
/-! ### text.index(sign) -/
end
end LW
/-! LwV: len(set(list)), the list's things being texts of one sign. -/
namespace LW
open PySem PySem.Spec PyProof.Rows L2 PySem.Froz
section
variable {P : Program} {w : World} {A : Around} {R : Result → Shared → Prop} {I : Addr} {fp wr : List Addr} {n : Nat} {cs : List Nat} {St : Nat → Heap → Prop} {a : Addr}
theorem upd_loopL (W : Walks P w A.in1 I fp wr n (fun i v => ∃ c t, cs[i]? = some c ∧ v = .str (sing c) t) St) (hn : n = cs.length) (haf : a ∉ fp) : ∀ (m i : Nat) (s : Shared) (G : SD) (l : List Str), n - i = m → i ≤ n → St i s.heap →
    s.heap.get? a = some (sObj "set" G) → TxOk P w G l → RL w G → l.length + (n - i) + 1 < scanBound →
    (∀ h' tk G', (∀ b o, b ≠ a → b ∉ wr → s.heap.get? b = some o → h'.get? b = some o) → h'.get? a = some (sObj "set" G') → TxOk P w G' ((cs.drop i).foldl addNew l) → RL w G' → R (.ok (.ret .none)) { s with heap := h', toks := tk }) →
    codeAny (model P w) A (.builtin "set.update.loop" ⟨[.ref a, .ref I], []⟩) R s := by
  have haw : a ∉ wr := fun z => haf (W.sub _ z)
  intro m
  induction m with
  | zero =>
    intro i s G l hm hi hst ha F r hb hR
    have hin : i = n := by omega
    refine codeAny_builtin PyProof.Rows.F.entry_set_update_loop ?_
    rw [Around.under_plainId PyProof.Rows.F.plain_set_update_loop _]
    show wpAny _ A.in1 (pyNext (.ref I) >>= _) _ _ s
    refine wpAny_bind (W.done s _ _ (hin ▸ hst) fun h' tk hk' => ?_)
    have q := hR h' tk G (fun b o _ hb e => hk' b o hb e) (hk' a _ haw ha)
    rw [List.drop_of_length_le (by rw [hin, hn]; exact Nat.le_refl _)] at q
    show wpAny _ A.in1 (ret Value.none) _ _ _
    exact wpAny_pure (q F r)
  | succ m ih =>
    intro i s G l hm hi hst ha F r hb hR
    have hlt : i < n := by omega
    refine codeAny_builtin PyProof.Rows.F.entry_set_update_loop ?_
    rw [Around.under_plainId PyProof.Rows.F.plain_set_update_loop _]
    show wpAny _ A.in1 (pyNext (.ref I) >>= _) _ _ s
    refine wpAny_bind (W.item i s _ _ hlt hst fun v h' tk hP hst' hk' => ?_)
    obtain ⟨c, t, hc, rfl⟩ := hP
    have hd : cs.drop i = c :: cs.drop (i + 1) := by
      obtain ⟨h1, h2⟩ := List.getElem?_eq_some_iff.mp hc
      rw [List.drop_eq_getElem_cons h1, h2]
    have ha' : h'.get? a = some (sObj "set" G) := hk' a _ haw ha
    rw [hd] at hR
    show wpAny _ A.in1 (holding [Value.str (sing c) t] (setAdd a (.str (sing c) t)) >>= _) _ _ _
    refine wpAny_bind (wpAny_holding ?_)
    unfold setAdd
    refine wpAny_holding (wpAny_bind ((strKind P w).pyHash (k := sing c) (is_str _ _) ?_))
    by_cases hin : sing c ∈ l
    · refine old_x (s := { s with heap := h', toks := tk + 1 }) ha' F hin (by omega) ?_
      refine wpAny_pure ⟨plainId_quiet PyProof.Rows.F.plain_set_update_loop _, ih (i + 1) { s with heap := h', toks := tk + 1 } G l (by omega) hlt hst' ha' F r (by omega) fun h'' tk'' G'' k'' a'' F'' r'' => ?_⟩
      refine hR h'' tk'' G'' (fun b o h1 h2 e => k'' b o h1 h2 (hk' b o h2 e)) a'' ?_ r''
      rw [List.foldl_cons, show addNew l c = l from if_pos hin]
      exact F''
    · refine add_x (s := { s with heap := h', toks := tk + 1 }) (l := l) ha' F hin (by omega) ?_
      have hst2 : St (i + 1) (h'.update a fun _ => sObj "set" (addTx (hashStr w (sing c)) (.str (sing c) t) G)) := W.frame (i + 1) h' _ hst' fun b hb o e => Heap.get?_update_of_ne _ (fun z => haf (z ▸ hb)) e
      have ha2 := get_upd (sObj "set" (addTx (hashStr w (sing c)) (.str (sing c) t) G)) ha' rfl
      refine wpAny_pure ⟨plainId_quiet PyProof.Rows.F.plain_set_update_loop _, ih (i + 1) { s with heap := h'.update a fun _ => sObj "set" (addTx (hashStr w (sing c)) (.str (sing c) t) G), toks := tk + 1 } _ (sing c :: l) (by omega) hlt hst2 ha2 (add_ok t F) (add_rl r) (by rw [List.length_cons]; omega) fun h'' tk'' G'' k'' a'' F'' r'' => ?_⟩
      refine hR h'' tk'' G'' (fun b o h1 h2 e => k'' b o h1 h2 (Heap.get?_update_of_ne _ (Ne.symm h1) (hk' b o h2 e))) a'' ?_ r''
      rw [List.foldl_cons, show addNew l c = sing c :: l from if_neg hin]
      exact F''
end
section
variable {P : Program} {w : World} {A : Around} {E : Value → Shared → Prop} {s : Shared}
/-- set(list) -/
theorem call_set_signs {l : Addr} {items : Array Value} {cs : List Nat} {Q : Value → Shared → Prop} (hh : A.handled = none) (hl : s.heap.IsList l items) (hisz : items.size = cs.length) (hval : ∀ (i : Nat) (v : Value), items[i]? = some v → ∃ c t, cs[i]? = some c ∧ v = .str (sing c) t) (hb : cs.length + 1 < scanBound)
    (h : ∀ (h' : Heap) (tk : Nat) (G : SD), h'.get? s.heap.objs.size = some (sObj "set" G) → TxOk P w G (cs.foldl addNew []) → RL w G →
      (∀ b o, s.heap.get? b = some o → h'.get? b = some o) → Q (.ref s.heap.objs.size) { s with heap := h', toks := tk }) :
    wpAny (model P w) A (call (.type "set") [.ref l]) Q E s := by
  obtain ⟨c, tl, hmro⟩ := PySem.F.called_set.mro
  have hmade := PySem.F.called_set.made
  have hsub := PySem.F.called_set.sub
  refine wpAny_call (codeAny_of_tree ?_)
  show wpAny _ _ (callAny (.type "set") _) _ _ _
  refine wpAny_pure ⟨Code.quiet_builtin _ (by decide +kernel), codeAny_builtin PySem.F.entry_type_call ?_⟩
  rw [Around.under_plain (weight_type_call_type "set" [.ref l] []) rfl]
  have h1 := PySem.F.called_set.notType
  have h2 := PySem.F.called_set.canCreate
  have hct := PySem.F.typeCall_set_1 (.ref l)
  repeat (any_goals (first | assumption | wp_step))
  generalize hO : ({ cls := .type "set", dict := none, data := .set #[] 0 (.fresh 0 0 (!w.params.followText "set-order")) } : Obj) = O
  refine codeAny_mono (set_made (.ref l) (E := E) (Q := fun obj s1 => obj = .ref s.heap.objs.size ∧ s1 = { s with heap := s.heap.push O }) ⟨rfl, by rw [← hO]⟩) fun r s1 hr => ?_
  cases r with
  | error e => exact hr
  | ok fl =>
    cases fl with
    | ret obj =>
      obtain ⟨rfl, rfl⟩ := hr
      have hOc : O.cls = .type "set" := by rw [← hO]
      have hS : (s.heap.push O).get? s.heap.objs.size = some O := Heap.get?_push_size _ (by rw [← hO]; rfl)
      have hT : Shared.TypeIs { s with heap := s.heap.push O } (.ref s.heap.objs.size) "set" := ⟨_, hS, hOc⟩
      have hli := PySem.F.called_set.init.lookup
      have hbi := PySem.F.called_set.init.bind (.ref s.heap.objs.size)
      repeat (any_goals (first | assumption | wp_step))
      refine codeAny_mono (codeAny_call_builtin (R := wants (fun r s2 => r = .none ∧ ∃ h' tk G, s2 = { s with heap := h', toks := tk } ∧ h'.get? s.heap.objs.size = some (sObj "set" G) ∧ TxOk P w G (cs.foldl addNew []) ∧ RL w G ∧
          (∀ b o, s.heap.get? b = some o → h'.get? b = some o)) E) PySem.F.called_set.init.plain PySem.F.entry_set_init (check_set_init_1 hT ?_)) fun r2 s2 hr2 => ?_
      · obtain ⟨ol, hol, hcl, nl, hdl⟩ := hl
        obtain ⟨ocls, odict, odata, oslots⟩ := ol
        simp only at hcl hdl
        subst hcl; subst hdl
        have hol' : (s.heap.push O).get? l = some { cls := .type "list", dict := odict, data := .seq items nl, slots := oslots } := Heap.get?_push_of_some _ hol
        have hsls := PySem.F.sub_list_set
        have hslf := PySem.F.sub_list_frozenset
        have hne : (Value.type "list" == Value.type "dict") = false := by decide
        have hl1 : (s.heap.push O).IsList l items := ⟨_, hol', rfl, nl, rfl⟩
        subst hO
        unfold Builtin.«set.__init__» noKeywords Builtin.Frozenset.updateFrom
        generalize hPI : pyIter = PI
        wp_walk
        subst hPI
        refine wpAny_pyIter_list hl1 ?_
        refine wpAny_bind (wpAny_runValue ?_)
        have hlS : l < s.heap.objs.size := Heap.lt_size hol
        have hh3 : A.in1.in1.in1.handled = none := by simp [hh]
        have hneI : l ≠ (s.heap.push { cls := .type "set", dict := none, data := .set #[] 0 (.fresh 0 0 (!w.params.followText "set-order")) }).objs.size := by
          rw [Heap.size_push]; exact Nat.ne_of_lt (Nat.lt_succ_of_lt hlS)
        have hSf : s.heap.objs.size ∉ [(s.heap.push { cls := .type "set", dict := none, data := .set #[] 0 (.fresh 0 0 (!w.params.followText "set-order")) }).objs.size, l] := by
          rw [Heap.size_push]; simp only [List.mem_cons, List.mem_singleton, List.not_mem_nil, or_false, not_or]
          exact ⟨Nat.ne_of_lt (Nat.lt_succ_self _), Nat.ne_of_gt hlS⟩
        have W := (Walks.list (prog := P) (w := w) hh3 _ l hneI items).mono_item (P' := fun i v => ∃ c t, cs[i]? = some c ∧ v = .str (sing c) t) fun i v _ hv => hval i v hv
        have hG : ∀ o', ((s.heap.push { cls := .type "set", dict := none, data := .set #[] 0 (.fresh 0 0 (!w.params.followText "set-order")) }).push o').get? s.heap.objs.size = some (sObj "set" (#[], 0, .fresh 0 0 (!w.params.followText "set-order"))) := fun o' => Heap.get?_push_of_some _ hS
        refine upd_loopL W hisz hSf (items.size - 0) 0 _ (#[], 0, .fresh 0 0 (!w.params.followText "set-order")) [] rfl (Nat.zero_le _) ⟨⟨_, Heap.get?_push_size _ rfl, rfl, rfl⟩, hl1.push _⟩ (hG _) (TxOk.nil (by rfl)) ⟨List.Pairwise.nil, ?_⟩ (by rw [hisz]; simpa using hb) fun h' tk G' k' a' F' r' => ?_
        · show _ ∨ (!w.params.followText "set-order") = true
          cases w.params.followText "set-order"
          · exact .inr rfl
          · exact .inl rfl
        · show wpAny _ _ _ _ _ _
          refine wpAny_pure ?_
          show wpAny _ _ (ret Value.none) _ _ _
          refine wpAny_pure ⟨rfl, h', tk, G', rfl, a', F', r', fun b o' e => ?_⟩
          have hlt := Heap.lt_size e
          refine k' b o' (Nat.ne_of_lt hlt) ?_ (Heap.get?_push_of_some _ (Heap.get?_push_of_some _ e))
          rw [Heap.size_push, List.mem_singleton]
          exact Nat.ne_of_lt (Nat.lt_succ_of_lt hlt)
      · cases r2 with
        | error e => exact hr2
        | ok fl2 =>
          cases fl2 with
          | ret r =>
            obtain ⟨rfl, h', tk, G, rfl, g1, g2, g3, g4⟩ := hr2
            repeat (any_goals (first | assumption | wp_step))
            exact h _ _ G g1 g2 g3 g4
          | _ => exact hr2.elim
    | _ => exact hr.elim
end
end LW
/-! LwK: len(set(list)) over data. -/
namespace LW
open PySem PySem.Spec PyProof.Rows L2 PySem.Froz
section
variable {C : Cn} {W : XK} {X : Cx} {a : Expr} {fa : Ex} {p p2 pos pos2 : Pos}
theorem signs_of {ρ : Rho} {H : Hp} : ∀ {ds : List D} {cs : List Nat} {vs : List V}, onesOf ds = some cs → RepL C ρ H ds vs → vs = cs.map fun c => V.str (sing c)
  | [], cs, vs, e, r => by cases e; simp only [RepL] at r; exact r
  | d :: ds, cs, vs, e, r => by
    simp only [RepL] at r
    obtain ⟨v, vs', rfl, r1, r2⟩ := r
    cases d with
    | str s =>
      cases s with
      | nil => simp [onesOf] at e
      | cons c s' =>
        cases s' with
        | nil =>
          simp only [onesOf] at e
          obtain ⟨cs', h1, rfl⟩ := Option.map_eq_some_iff.mp e
          rw [signs_of h1 r2, r1.str_at.1]
          rfl
        | cons _ _ => simp [onesOf] at e
    | _ => simp [onesOf] at e
end
end LW
/-! LwL: x in list, x a tuple. -/
namespace LW
open PySem PySem.Spec PyProof.Rows L2
section
variable {C : Cn} {X : Cx} {ρ : Rho} {H : Hp} {m : Mem}
end
end LW
/-! LwW: enumerate of a tuple. -/
namespace LW
open PySem PySem.Spec PyProof.Rows L2
section
variable {C : Cn} {W : XK} {X : Cx} {a : Expr} {fa : Ex}
end
end LW
/-! LwXb: {k1: v1, k2: v2}[k], the keys texts. -/
namespace LW
open PySem PySem.Spec PyProof.Rows L2
section
variable {C : Cn} {W : XK} {X : Cx} {ρ : Rho} {H : Hp} {m : Mem}
end
end LW
/-! LwCl: instances: fields read and stored, methods called, instances made; parts of a list's tuples. -/
namespace LW
open PySem PySem.Spec PyProof.Rows L2
theorem ofStr_inj {a b : String} (h : Str.ofString a = Str.ofString b) : a = b := by
  rw [Str.ofString_eq_toList, Str.ofString_eq_toList] at h
  have h1 : (a.toList.map Char.toNat) = (b.toList.map Char.toNat) := by
    have := congrArg (fun s : Str => s.cps.toList) h
    simpa using this
  have h2 : a.toList = b.toList := by
    refine List.map_inj_right (f := Char.toNat) (fun x y e => ?_) |>.mp h1
    exact Char.ext (UInt32.toNat_inj.mp e)
  exact String.toList_inj.mp h2
section
variable {C : Cn} {W : XK} {X : Cx} {e o value : Expr} {fe fo fv : Ex} {pos : Pos} {ρ : Rho} {H : Hp} {m : Mem}
abbrev fnm (fs : List (String × D)) : List Str := fs.map fun p => (p.1 : Str)
theorem RepM.ins_at (rm : RepM C ρ H m) {n : Nat} {c : String} {fs : List (String × D)} {v : V} (r : RepV C ρ H (.ref n) v) (e : m[n]? = some (.ins c fs)) :
    ∃ a Cc dx vs, v = .ref a ∧ ρ.l[n]? = some (a, true) ∧ C.cls c = .ref Cc ∧ vs.length = fs.length ∧ H a = some (.ins Cc dx ((fnm fs).zip vs)) ∧ RepL C ρ H (fs.map (·.2)) vs := by
  simp only [RepV] at r
  obtain ⟨a, rfl, l, q⟩ := r
  obtain ⟨hl, Cc, dx, vs, h1, h2, h3, h4⟩ := rm.obj n a l _ q e
  subst hl
  exact ⟨a, Cc, dx, vs, rfl, q, h1, h2, h3, h4⟩
theorem look_some {f : String} : ∀ {fs : List (String × D)} {vs : List V} {d : D}, RepL C ρ H (fs.map (·.2)) vs → flook f fs = some d → ∃ v, ((fnm fs).zip vs).lookup (f : Str) = some v ∧ RepV C ρ H d v
  | [], vs, d, _, e => by simp [flook] at e
  | (g, x) :: fs, vs, d, r, e => by
    simp only [List.map_cons, RepL] at r
    obtain ⟨v, vs', rfl, r1, r2⟩ := r
    simp only [flook] at e
    by_cases h : g = f
    · subst h
      rw [if_pos rfl] at e
      cases e
      exact ⟨v, by simp [List.zip_cons_cons, List.lookup], r1⟩
    · rw [if_neg h] at e
      obtain ⟨w, h1, h2⟩ := look_some r2 e
      refine ⟨w, ?_, h2⟩
      have hb : (Str.ofString f == Str.ofString g) = false := by
        rw [beq_eq_false_iff_ne]
        exact fun z => h (ofStr_inj z).symm
      simp only [List.map_cons, List.zip_cons_cons, List.lookup, hb]
      exact h1
theorem look_none {f : String} : ∀ {fs : List (String × D)} {vs : List V}, vs.length = fs.length → flook f fs = none → ((fnm fs).zip vs).lookup (f : Str) = none
  | [], vs, _, _ => by simp
  | (g, x) :: fs, [], hl, e => by simp at hl
  | (g, x) :: fs, v :: vs, hl, e => by
    simp only [flook] at e
    by_cases h : g = f
    · rw [if_pos h] at e; cases e
    · rw [if_neg h] at e
      have hb : (Str.ofString f == Str.ofString g) = false := by
        rw [beq_eq_false_iff_ne]
        exact fun z => h (ofStr_inj z).symm
      simp only [List.map_cons, List.zip_cons_cons, List.lookup, hb]
      exact look_none (by simpa using hl) e
theorem put_fs {f : String} {y : D} {w : V} : ∀ {fs : List (String × D)} {vs : List V}, RepL C ρ H (fs.map (·.2)) vs → RepV C ρ H y w → ∃ vs', vs'.length = (fput f y fs).length ∧ putF (f : Str) w ((fnm fs).zip vs) = (fnm (fput f y fs)).zip vs' ∧ RepL C ρ H ((fput f y fs).map (·.2)) vs'
  | [], vs, r, rw_ => ⟨[w], rfl, by simp only [List.map_nil, List.zip_nil_left]; rfl, by simp only [fput, List.map_cons, List.map_nil, RepL]; exact ⟨w, [], rfl, rw_, rfl⟩⟩
  | (g, x) :: fs, vs, r, rw_ => by
    simp only [List.map_cons, RepL] at r
    obtain ⟨v, vs', rfl, r1, r2⟩ := r
    by_cases h : g = f
    · subst h
      refine ⟨w :: vs', ?_, ?_, ?_⟩
      · have := r2.length
        simp only [List.length_map] at this
        simp [fput, this]
      · simp only [fput, if_true, List.map_cons, List.zip_cons_cons, putF]
      · simp only [fput, if_true, List.map_cons, RepL]
        exact ⟨w, vs', rfl, rw_, r2⟩
    · obtain ⟨vs2, h1, h2, h3⟩ := put_fs (f := f) (y := y) (w := w) r2 rw_
      refine ⟨v :: vs2, by simp [fput, h, h1], ?_, ?_⟩
      · have hn : ¬ (Str.ofString g = Str.ofString f) := fun z => h (ofStr_inj z)
        simp only [fput, if_neg h, List.map_cons, List.zip_cons_cons, putF, if_neg hn]
        rw [h2]
      · simp only [fput, if_neg h, List.map_cons, RepL]
        exact ⟨v, vs2, rfl, r1, h3⟩
/-- o.f -/
theorem de_fld {c f : String} {Cc : Addr} (hc : C.cls c = .ref Cc) (cl : Cls X.K Cc) (na : NoAttr X.K Cc (f : Str)) (he : DE C W X e fe) (hb : attributeBase e (f : Str) X.env (eval e X.env) = eval e X.env := by rfl) : DE C W X (.Attribute e (f : Str) pos) (fldE c f fe) := by
  refine PE.imp (pe_fld he hb) ?_
  rintro σ H Q ⟨ρ, g, m, re, rm, h⟩
  refine ⟨ρ, g, m, re, rm, h.bind.imp fun d m1 ρ1 H1 x1 rm1 h1 v rv => ?_⟩
  cases d with
  | ref n =>
    simp only at h1
    split at h1
    · rename_i c' fs q
      split at h1
      · rename_i hcc
        subst hcc
        obtain ⟨a, C2, dx, vs, rfl, hn, hcl, hl, ha, rl⟩ := rm1.ins_at rv q
        rw [hc] at hcl
        cases hcl
        cases e : flook f fs with
        | none => rw [e] at h1; exact h1.elim
        | some d =>
          rw [e] at h1
          obtain ⟨w, lw, rw_⟩ := look_some rl e
          exact ⟨a, Cc, dx, _, w, rfl, ha, cl, na, lw, h1 ρ1 H1 (.refl _ _) rm1 w rw_⟩
      · exact h1.elim
    · exact h1.elim
  | _ => exact h1.elim
/-- o.f = v -/
theorem ds_fld {c f : String} {Cc : Addr} {pos' : Pos} (hc : C.cls c = .ref Cc) (cl : Cls X.K Cc) (na : NoAttr X.K Cc (f : Str)) (ho : DE C W X o fo) (hv : DE C W X value fv) (hs : swapsWith value (some (.Attribute o (f : Str) pos')) pos.line X.env = pure false := by rfl) :
    DS C W X (.Assign [.Attribute o (f : Str) pos'] value pos) (sfS c f fo fv) := by
  refine PS.imp (ps_fld ho hv hs) ?_
  rintro N σ H ⟨ρ, g, m, re, rm, h⟩
  refine ⟨ρ, g, m, re, rm, (fin.bind h).imp fun y m1 ρ1 H1 x1 rm1 h1 w rw_ => ?_⟩
  refine ⟨ρ1, g, m1, re.ext x1, rm1, (fin.bind h1).imp fun d m2 ρ2 H2 x2 rm2 h2 v rv => ?_⟩
  cases d with
  | ref n =>
    simp only at h2
    split at h2
    · rename_i c' fs q
      split at h2
      · rename_i hcc
        obtain ⟨hcc, h1000⟩ := hcc
        subst hcc
        obtain ⟨a, C2, dx, vs, rfl, hn, hcl, hl, ha, rl⟩ := rm2.ins_at rv q
        rw [hc] at hcl
        cases hcl
        obtain ⟨vs', e1, e2, e3⟩ := put_fs (f := f) rl (rw_.ext x2)
        refine ⟨a, Cc, dx, _, rfl, ha, cl, na, by simp [hl]; exact h1000, ?_⟩
        rw [e2]
        have x3 := ext_put (o := .ins Cc dx ((fnm (fput f y fs)).zip vs')) rm2 hn
        have rm3 := rm2.put (u := .ins c' (fput f y fs)) hn ⟨rfl, Cc, dx, vs', hc, e1, upd_same, e3.ext x3⟩
        exact h2 ρ2 _ x3 rm3 σ (((re.ext x1).ext x2).ext x3)
      · exact h2.elim
    · exact h2.elim
  | _ => exact h2.elim
variable {es : List Expr} {fr : Ar} {k n : Nat} {f : Addr} {fd : FuncData} {ps : List Str} {F : Fn} {x : Str} {p apos : Pos} {a : Expr}
theorem meth_of {c mth : String} {Cc : Addr} (hc : C.cls c = .ref Cc) (σ : St) (H : Hp) (Q : VK) (hn : ∀ g m ds m1, fr g m = .ok ds m1 → ds.length = n) (h : tD C W (methE c mth F fo fr) σ H Q) : tMeth Cc (mth : Str) (spOf C (n + 1) F) [] W (tD C W fo) (tDA C W fr) σ H Q := by
  obtain ⟨ρ, g, m, re, rm, h⟩ := h
  refine ⟨ρ, g, m, re, rm, h.bind.imp fun d m1 ρ1 H1 x1 rm1 h1 v rv => ?_⟩
  cases d with
  | ref k =>
    simp only at h1
    split at h1
    · rename_i c' fs q
      split at h1
      · rename_i hcc
        obtain ⟨hcc, hno⟩ := hcc
        subst hcc
        obtain ⟨a, C2, dx, vs, rfl, hn', hcl, hl, ha, rl⟩ := rm1.ins_at rv q
        rw [hc] at hcl
        cases hcl
        refine ⟨a, dx, _, rfl, ha, look_none hl (Option.isNone_iff_eq_none.mp hno), ρ1, g, m1, re.ext x1, rm1, ?_⟩
        have h' := h1.bind
        cases e : fr g m1 with
        | bad => rw [e] at h'; exact h'
        | exc c m => rw [e] at h'; exact h'
        | ok ds m2 =>
          rw [e] at h'
          refine fun ρ2 H2 x2 rm2 ws rws => ?_
          show spOf C (n + 1) F (.ref a :: (ws ++ [])) H2 Q W
          rw [List.append_nil]
          refine ⟨ρ2, m2, .ref k :: ds, by rw [List.length_cons, hn _ _ _ _ e], ?_, rm2, h' ρ2 H2 x2 rm2⟩
          simp only [RepL]
          exact ⟨_, ws, rfl, rv.ext x2, rws⟩
      · exact h1.elim
    · exact h1.elim
  | _ => exact h1.elim
/-- o.m(e, ..) -/
theorem de_meth {c mth : String} {Cc : Addr} {pl : Sem Bool} (hc : C.cls c = .ref Cc) (cl : Cls X.K Cc) (ho : DE C W X o fo) (hm : Meth X.K Cc (mth : Str) f) (G : FnOk X.prog X.w X.K X.mg X.base (L2.CX X.prog X.w) k f fd ps (spOf C (n + 1) F)) (hr : Room k X.A) (hb : Binds X.K fd ps []) (tk : TakesK X W)
    (ha : DA C W X (a :: es) fr) (hn : ∀ g m ds m1, fr g m = .ok ds m1 → ds.length = n) (hst : starEach (a :: es) X.env = (false, eval a X.env) :: starEach es X.env := by rfl) (hpl : (backTo pos (starEach es X.env)).any (·.1) = false := by rfl)
    (ht : eval (.Call (.Attribute o (mth : Str) apos) (a :: es) [] pos) X.env = (do
      let ov ← eval o X.env
      standAt apos.atName
      let (f, first) ← holding [ov] (getMethod ov (mth : Str) pl)
      callWith pos f first (backTo pos (starEach (a :: es) X.env)) (backToKw pos (keywordEach [] X.env))) := by rfl) :
    DE C W X (.Call (.Attribute o (mth : Str) apos) (a :: es) [] pos) (methE c mth F fo fr) :=
  PE.imp (pe_meth (E := W) (dvs := []) ho cl hm G hr hb .nil (passes_call tk fun _ _ _ _ h => h) ha hst hpl ht) fun σ H Q h => meth_of hc σ H Q hn h
theorem nil_of {σ : St} {H : Hp} {Q : List V → Hp → Prop} (h : tDA C W nilA σ H Q) : tNil σ H Q := by
  obtain ⟨ρ, g, m, re, rm, h⟩ := h
  exact fin.now rm h [] (by simp only [RepL])
theorem de_meth0 {c mth : String} {Cc : Addr} {pl : Sem Bool} (hc : C.cls c = .ref Cc) (cl : Cls X.K Cc) (ho : DE C W X o fo) (hm : Meth X.K Cc (mth : Str) f) (G : FnOk X.prog X.w X.K X.mg X.base (L2.CX X.prog X.w) k f fd ps (spOf C 1 F)) (hr : Room k X.A) (hb : Binds X.K fd ps []) (tk : TakesK X W)
    (ht : eval (.Call (.Attribute o (mth : Str) apos) [] [] pos) X.env = (do
      let ov ← eval o X.env
      standAt apos.atName
      let (f, first) ← holding [ov] (getMethod ov (mth : Str) pl)
      callWith pos f first (backTo pos (starEach [] X.env)) (backToKw pos (keywordEach [] X.env))) := by rfl) :
    DE C W X (.Call (.Attribute o (mth : Str) apos) [] [] pos) (methE c mth F fo nilA) := by
  refine PE.imp (pe_meth0 (E := W) (dvs := []) ho cl hm G hr hb .nil (passes_call tk fun _ _ _ _ h => h) ht) fun σ H Q h => ?_
  obtain ⟨ρ, g, m, re, rm, h2⟩ := meth_of (n := 0) hc σ H Q len0 h
  refine ⟨ρ, g, m, re, rm, h2.imp fun d m1 ρ1 H1 x1 rm1 h3 v rv => ?_⟩
  obtain ⟨a, dx, fs, e1, e2, e3, e4⟩ := h3 v rv
  exact ⟨a, dx, fs, e1, e2, e3, nil_of e4⟩
/-- C(e, ..) -/
theorem de_make {c : String} {Cc : Addr} (hc : C.cls c = .ref Cc) (M : Mk X.K Cc f) (G : FnOk X.prog X.w X.K X.mg X.base (L2.CX X.prog X.w) k f fd ps (spOf C (n + 1) F)) (hr : Room (k + 1) X.A) (hg : Gl X x) (hm : X.mg x = some (.ref Cc)) (hb : Binds X.K fd ps []) (tk : TakesK X W)
    (ha : DA C W X (a :: es) fr) (hn : ∀ g m ds m1, fr g m = .ok ds m1 → ds.length = n) (hdb : (x == ("__debug__" : Str)) = false := by decide) (he : starEach (a :: es) X.env = (false, eval a X.env) :: starEach es X.env := by rfl) (hpl : (backTo pos (starEach es X.env)).any (·.1) = false := by rfl) :
    DE C W X (.Call (.Name x p) (a :: es) [] pos) (mkE c F fr) := by
  refine PE.imp (pe_make (E := W) (dvs := []) M G hr hg hm hb .nil (passes_call tk fun _ _ _ _ h => h) ha hdb he hpl) ?_
  rintro σ H Q ⟨ρ, g, m, re, rm, h⟩
  refine ⟨ρ, g, m, re, rm, ?_⟩
  have h' := h.bind
  cases e : fr g m with
  | bad => rw [e] at h'; exact h'
  | exc c m => rw [e] at h'; exact h'
  | ok ds m1 =>
    rw [e] at h'
    intro ρ1 H1 x1 rm1 vs rvs y dx hy hdx hne
    have h1 := h' ρ1 H1 x1 rm1
    dsimp only at h1
    show spOf C (n + 1) F (.ref y :: (vs ++ [])) (upd (upd H1 dx (.own y)) y (.ins Cc dx [])) (fun v H2 => v = .non ∧ Q (.ref y) H2) W
    rw [List.append_nil]
    have s1 : Same H1 (upd H1 dx (.own y)) := same_upd hdx
    have hy2 : upd H1 dx (.own y) y = none := by rw [upd_ne (Ne.symm hne)]; exact hy
    have rm2 := rm1.same s1
    have x2 : Ext ρ1 (upd H1 dx (.own y)) (ρ1.more y) (upd (upd H1 dx (.own y)) y (.ins Cc dx [])) := ext_more hy2
    have rm3 : RepM C (ρ1.more y) (upd (upd H1 dx (.own y)) y (.ins Cc dx [])) (m1 ++ [.ins c []]) := rm2.more hy2 ⟨rfl, Cc, dx, [], hc, rfl, upd_same, by simp only [List.map_nil, RepL]⟩
    have x3 : Ext ρ1 H1 (ρ1.more y) (upd (upd H1 dx (.own y)) y (.ins Cc dx [])) := (Ext.of_same s1).trans x2
    have rf : RepV C (ρ1.more y) (upd (upd H1 dx (.own y)) y (.ins Cc dx [])) (.ref m1.length) (.ref y) := more_ref rm2
    refine ⟨ρ1.more y, m1 ++ [.ins c []], .ref m1.length :: ds, by rw [List.length_cons, hn _ _ _ _ e], ?_, rm3, ?_⟩
    · simp only [RepL]
      exact ⟨_, vs, rfl, rf, rvs.ext x3⟩
    · cases q : F (.ref m1.length :: ds) (m1 ++ [.ins c []]) with
      | bad => rw [q] at h1; exact h1
      | exc c2 m2 => rw [q] at h1; exact fun ρ4 H4 x4 rm4 => h1 ρ4 H4 (x3.trans x4) rm4
      | ok d m2 =>
        rw [q] at h1
        cases d with
        | non => exact fun ρ4 H4 x4 rm4 v rv => ⟨by simpa only [RepV] using rv, h1 ρ4 H4 (x3.trans x4) rm4 _ (rf.ext x4)⟩
        | _ => exact h1.elim
end
end LW
/-! LwXc: single built-ins: text.count, abs, max, min, any, //, sorted(set(list)), range(0, b, c). -/
namespace LW
open PySem PySem.Spec PyProof.Rows L2 PySem.Froz
/-! ### text.count(sign) -/
section
variable {C : Cn} {W : XK} {X : Cx} {o e a b c tg : Expr} {fa fb fc : Ex} {pos p p2 pos2 : Pos}
/-! ### abs, max, min, any -/
theorem bs_max2 : BfS C (fun xs H Q => ∃ i j, xs = [.int i, .int j] ∧ Q (.int (if j > i then j else i)) H) max2B := by
  intro ρ H m ds vs d Q rm rl e q
  cases ds with
  | nil => cases e
  | cons x r =>
    cases r with
    | nil => cases x <;> cases e
    | cons y r =>
      cases r with
      | cons _ _ => cases x <;> first | cases e | (cases y <;> cases e)
      | nil =>
        simp only [RepL] at rl
        obtain ⟨v, _, rfl, r1, w, _, rfl, r2, rfl⟩ := rl
        cases x with
        | int i =>
          cases y with
          | int j => cases e; exact ⟨i, j, by rw [r1.int_at, r2.int_at], q _ H (Same.refl H) rv_int⟩
          | _ => cases e
        | _ => cases e
/-! ### sorted(set(list of signs)) -/
/-! ### range(0, b, c) -/
end
end LW
/-! LwXd: len(set(list)) of signs or of whole numbers. -/
namespace LW
open PySem PySem.Spec PyProof.Rows L2 PySem.Froz
theorem dedupI_mem {c : Int} : ∀ {l : List Int}, c ∈ dedup l ↔ c ∈ l
  | [] => by simp [dedup]
  | x :: r => by
    rw [dedup, List.mem_cons, List.mem_filter, dedupI_mem (l := r), List.mem_cons]
    by_cases h : c = x
    · simp [h]
    · simp [h]
theorem dedupI_nd : ∀ l : List Int, (dedup l).Nodup
  | [] => List.nodup_nil
  | x :: r => by
    rw [dedup, List.nodup_cons]
    refine ⟨fun h => ?_, (dedupI_nd r).filter _⟩
    have := (List.mem_filter.mp h).2
    simp at this
theorem met_nd (ns : List Int) : (ns.foldl step_dedup []).Nodup := by
  suffices H : ∀ (ns acc : List Int), acc.Nodup → (ns.foldl step_dedup acc).Nodup from H ns [] List.nodup_nil
  intro ns
  induction ns with
  | nil => intro acc h; exact h
  | cons x r ih =>
    intro acc h
    rw [List.foldl_cons]
    refine ih _ ?_
    unfold step_dedup
    split
    · exact h
    · rename_i hn
      rw [List.nodup_append]
      refine ⟨h, by simp, fun a ha b hb e => hn ?_⟩
      rw [List.any_eq_true]
      exact ⟨a, ha, by rw [e, List.mem_singleton.mp hb]; simp⟩
theorem met_mem (ns : List Int) (k : Int) : k ∈ ns.foldl step_dedup [] ↔ k ∈ ns := by
  suffices H : ∀ (ns acc : List Int), k ∈ ns.foldl step_dedup acc ↔ k ∈ acc ∨ k ∈ ns by simpa using H ns []
  intro ns
  induction ns with
  | nil => intro acc; simp
  | cons x r ih =>
    intro acc
    rw [List.foldl_cons, ih, List.mem_cons]
    unfold step_dedup
    split
    · rename_i hn
      obtain ⟨y, hy, e⟩ := List.any_eq_true.mp hn
      have e : y = x := eq_of_beq e
      subst e
      constructor
      · rintro (h | h)
        · exact .inl h
        · exact .inr (.inr h)
      · rintro (h | h | h)
        · exact .inl h
        · exact .inl (h ▸ hy)
        · exact .inr h
    · rw [List.mem_append, List.mem_singleton, or_assoc]
theorem nd_len {l m : List Int} (h1 : l.Nodup) (h2 : m.Nodup) (h : ∀ k, k ∈ l ↔ k ∈ m) : l.length = m.length := by
  have a : ∀ {l m : List Int}, l.Nodup → (∀ k ∈ l, k ∈ m) → l.length ≤ m.length := fun {l} => by
    induction l with
    | nil => intros; exact Nat.zero_le _
    | cons x l ih =>
      intro m hn hm
      obtain ⟨n1, n2⟩ := List.nodup_cons.mp hn
      have hx := hm x List.mem_cons_self
      have := ih (m := m.erase x) n2 (fun k hk => (List.mem_erase_of_ne (show k ≠ x from fun e => n1 (by rw [← e]; exact hk))).mpr (hm k (List.mem_cons_of_mem _ hk)))
      rw [List.length_erase_of_mem hx] at this
      have : 0 < m.length := List.length_pos_of_mem hx
      rw [List.length_cons]
      omega
  exact Nat.le_antisymm (a h1 fun k hk => (h k).mp hk) (a h2 fun k hk => (h k).mpr hk)
theorem met_len (ns : List Int) : (firstMet (fun i => ns.getD i 0) ns.length).length = (dedup ns).length := by
  have e : (List.range ns.length).map (fun i => ns.getD i 0) = ns := by
    apply List.ext_getElem?
    intro i
    rw [List.getElem?_map]
    by_cases h : i < ns.length
    · rw [List.getElem?_range h, List.getElem?_eq_getElem h]
      simp [List.getD_eq_getElem?_getD, List.getElem?_eq_getElem h]
    · rw [List.getElem?_eq_none (by simpa using h), List.getElem?_eq_none (by simpa using h)]
      rfl
  unfold firstMet
  rw [e]
  exact nd_len (met_nd ns) (dedupI_nd ns) fun k => by rw [met_mem, dedupI_mem]
section
variable {C : Cn} {W : XK} {X : Cx} {a : Expr} {fa : Ex} {p p2 pos pos2 : Pos}
end
end LW
/-! LwRe: defs that call themselves. -/
namespace LW
open PySem PySem.Spec PyProof.Rows L2
end LW
/-! LwEz: enumerate(zip(x, y)). A zip whose owned tuple may still be held elsewhere. -/
namespace LW
open PySem PySem.Spec PyProof.Rows L2
open Builtin.SmallTypes (ownedTupleIsFree ownedTupleHandOut nextOf)
section
variable {prog : Program} {w : World} {A : Around} {E : Value → Shared → Prop} {s : Shared} {z TI TO i1 i2 : Addr} {fp1 fp2 : List Addr} {n1 n2 i : Nat} {P1 P2 : Nat → Value → Prop} {St1 St2 : Nat → Heap → Prop} {a1 a2 : Value}
end
section
variable {C : Cn} {W : XK} {X : Cx} {a b : Expr} {fa fb : Ex}
end
end LW
/-! LwSi: sorted(set(list of whole numbers)). -/
namespace LW
open PySem PySem.Spec PyProof.Rows L2 PySem.Froz
section
variable {P : Program} {w : World} {A : Around} {R : Result → Shared → Prop} {I : Addr} {fp wr : List Addr} {n : Nat} {ks : List Int} {St : Nat → Heap → Prop} {a : Addr}
end
section
variable {P : Program} {w : World} {A : Around} {E : Value → Shared → Prop} {s : Shared}
end
section
variable {C : Cn} {W : XK} {X : Cx} {a : Expr} {fa : Ex} {p p2 pos pos2 : Pos}
end
end LW
/-! LwLe: more of dicts whose keys are tuples: d != {}, d.pop(k), d.keys(), min(d.values()), dict(pairs), [x for x in d.keys() if d[x] == n]. -/
namespace LW
open PySem PySem.Spec PyProof.Rows L2
section
variable {prog : Program} {w : World} {A : Around} {E : Value → Shared → Prop} {s : Shared}
end
section
variable {C : Cn} {W : XK} {X : Cx} {a b c : Expr} {fa fb fc : Ex} {pos : Pos} {ρ : Rho} {H : Hp} {m : Mem}
/-! ### d != {} -/
end
end LW
/-! LwLf: d.pop(k), d.keys(), min(d.values()). -/
namespace LW
open PySem PySem.Spec PyProof.Rows L2
section
variable {C : Cn} {W : XK} {X : Cx} {a b c : Expr} {fa fb fc : Ex} {pos : Pos} {ρ : Rho} {H : Hp} {m : Mem}
/-! ### d.pop(k) -/
/-! ### for k in d.keys() -/
section
variable {tg e : Expr} {td : TE} {apos cpos : Pos}
end
end
end LW
/-! LwLg: min(d.values()), dict(pairs). -/
namespace LW
open PySem PySem.Spec PyProof.Rows L2
section
variable {C : Cn} {W : XK} {X : Cx} {a b c o : Expr} {fa fb fc : Ex} {p pos apos mpos : Pos} {td : TE} {ρ : Rho} {H : Hp} {m : Mem}
/-! ### min(d.values()) -/
/-! ### dict(pairs) -/
end
end LW
/-! LwLh: dict(pairs) over data; [x for x in d.keys() if d[x] == n]. -/
namespace LW
open PySem PySem.Spec PyProof.Rows L2
section
variable {C : Cn} {W : XK} {X : Cx} {a b c o : Expr} {fa fb fc : Ex} {p pos apos mpos : Pos} {td : TE} {ρ : Rho} {H : Hp} {m : Mem}
/-! ### a dict that does not change for the time of an expression -/
end
end LW
/-! LwTd: dicts whose keys are texts, that change. -/
namespace LW
open PySem PySem.Spec PyProof.Rows L2
section
variable {C : Cn} {W : XK} {X : Cx} {a b c o : Expr} {fa fb fc : Ex} {p pos apos mpos : Pos} {td : TE} {ρ : Rho} {H : Hp} {m : Mem}
theorem key_str {k : Key} {q : List Nat} (h : keyD k = .str q) : k = .inr ⟨q.toArray⟩ := by
  cases k with
  | inl i => cases h
  | inr x =>
    simp only [keyD, D.str.injEq] at h
    subst h
    cases x
    simp
theorem tfind_at {s : List Nat} : ∀ {ks vs : List D} {kk : List Key} {xs : List V} {d : D}, ks = kk.map keyD → kk.length = xs.length → RepL C ρ H vs xs → tfind s ks vs = some d → ∃ v, valV (kk.zip xs) (.inr ⟨s.toArray⟩ : Key) = some v ∧ RepV C ρ H d v
  | [], vs, kk, xs, d, e, hl, r, h => by cases vs <;> simp [tfind] at h
  | k0 :: ks, vs, [], xs, d, e, hl, r, h => by cases e
  | k0 :: ks, vs, k :: kk, [], d, e, hl, r, h => by simp at hl
  | k0 :: ks, [], k :: kk, x :: xs, d, e, hl, r, h => by cases k0 <;> simp [tfind] at h
  | k0 :: ks, v0 :: vs, k :: kk, x :: xs, d, e, hl, r, h => by
    simp only [List.map_cons, List.cons.injEq] at e
    obtain ⟨e1, e2⟩ := e
    simp only [RepL] at r
    obtain ⟨x', xs', ex, r1, r2⟩ := r
    obtain ⟨rfl, rfl⟩ := List.cons.inj ex
    cases k0 with
    | str q =>
      have ek := key_str e1.symm
      simp only [tfind] at h
      rw [List.zip_cons_cons]
      split at h
      · rename_i hq
        cases h
        exact ⟨x, valV_pos (by rw [ek, hq]), r1⟩
      · rename_i hq
        obtain ⟨v, h1, h2⟩ := tfind_at e2 (by simpa using hl) r2 h
        exact ⟨v, by rw [valV_neg (fun z => hq (by rw [ek] at z; exact key_eq.mp z))]; exact h1, h2⟩
    | _ => simp [tfind] at h
theorem tfind_strs {s : List Nat} : ∀ {ks vs : List D} {kk : List (List Key)}, ks = kk.map tkeyD → tfind s ks vs = none
  | [], vs, kk, e => by cases vs <;> rfl
  | k0 :: ks, vs, [], e => by cases e
  | k0 :: ks, vs, k :: kk, e => by
    simp only [List.map_cons, List.cons.injEq] at e
    rw [e.1]
    cases vs <;> rfl
theorem rm_td {n : Nat} {v : V} {ks vs : List D} {s : List Nat} {d : D} (rm : RepM C ρ H m) (r : RepV C ρ H (.ref n) v) (e : m[n]? = some (.dct ks vs)) (hf : tfind s ks vs = some d) : ∃ p xs, v = .ref p ∧ ρ.l[n]? = some (p, true) ∧ RepL C ρ H vs xs ∧ ∃ kk : List Key, kk.length = xs.length ∧ ks = kk.map keyD ∧ H p = some (.dK (kk.zip xs)) := by
  simp only [RepV] at r
  obtain ⟨p, rfl, l, hl⟩ := r
  obtain ⟨rfl, xs, rv, h⟩ := rm.obj n p l _ hl e
  rcases h with h | ⟨kk, _, h2, _⟩
  · exact ⟨p, xs, rfl, hl, rv, h⟩
  · rw [tfind_strs h2] at hf
    cases hf
theorem de_dsubT (hu : X.A.units + 1 < cLine) (ha : DE C W X a fa) (hb : DE C W X b fb) (hs : NoSl b) : DE C W X (.Subscript a b pos) (opE dsubT fa fb) := by
  refine PE.imp (pe_dget hu ha hb hs) ?_
  rintro σ H Q ⟨ρ, g, m, re, rm, h⟩
  refine ⟨ρ, g, m, re, rm, h.bind.imp fun d1 m1 ρ1 H1 x1 rm1 h1 v1 r1 => ?_⟩
  refine ⟨ρ1, g, m1, re.ext x1, rm1, h1.bind.imp fun d2 m2 ρ2 H2 x2 rm2 h2 v2 r2 => ?_⟩
  cases e : dsubT m2 d1 d2 with
  | none => rw [e] at h2; exact h2.elim
  | some d =>
    rw [e] at h2
    unfold dsubT at e
    split at e
    · rename_i n s
      split at e
      · rename_i ks vs hm
        obtain ⟨q, xs, rfl, hl, rv, kk, l1, l2, l3⟩ := rm_td rm2 (r1.ext x2) hm e
        obtain ⟨v, hv, rd⟩ := tfind_at l2 l1 rv e
        have ev := hide_str r2
        subst ev
        exact ⟨q, v, rfl, .inl ⟨_, _, .inl l3, rfl, hv.symm⟩, fin.now rm2 h2 _ rd⟩
      · cases e
    · cases e
/-! ### d[k] = v -/
theorem noX_no {f : Ex} {g : Env} {m : Mem} {c : String} {m' : Mem} : noX f g m ≠ .exc c m' := by
  unfold noX
  cases f g m <;> simp
/-! ### {k1: v1, k2: v2, k3: v3} -/
theorem de_dct3 {k1 v1 k2 v2 k3 v3 : Expr} {g1 h1 g2 h2 g3 h3 : Ex} {p : Pos} (a1 : DE C W X k1 g1) (b1 : DE C W X v1 h1) (a2 : DE C W X k2 g2) (b2 : DE C W X v2 h2) (a3 : DE C W X k3 g3) (b3 : DE C W X v3 h3) :
    DE C W X (.Dict [some k1, some k2, some k3] [v1, v2, v3] p) (dct3E g1 h1 g2 h2 g3 h3) := by
  refine PE.imp (pe_disp (pps_cons a1 b1 (pps_cons a2 b2 (pps_cons a3 b3 pps_nil))) rfl rfl (by simp) (by simp)) ?_
  rintro σ H Q ⟨ρ, g, m, re, rm, h⟩ L hL
  have x0 : Ext ρ H (ρ.hide L) (upd H L (.dK [])) := ext_hide hL
  refine ⟨ρ.hide L, g, m, re.ext x0, rm.hide hL, fin.from h x0 fun d1 m1 h ρ1 H1 x1 rm1 v1 r1 => ?_⟩
  refine ⟨ρ1, g, m1, (re.ext x0).ext x1, rm1, fin.from h (x0.trans x1) fun e1 m2 h ρ2 H2 x2 rm2 w1 s1 => ?_⟩
  refine ⟨ρ2, g, m2, ((re.ext x0).ext x1).ext x2, rm2, fin.from h ((x0.trans x1).trans x2) fun d2 m3 h ρ3 H3 x3 rm3 v2 r2 => ?_⟩
  refine ⟨ρ3, g, m3, (((re.ext x0).ext x1).ext x2).ext x3, rm3, fin.from h (((x0.trans x1).trans x2).trans x3) fun e2 m4 h ρ4 H4 x4 rm4 w2 s2 => ?_⟩
  have y4 : Ext ρ H ρ4 H4 := ((((x0.trans x1).trans x2).trans x3).trans x4)
  refine ⟨ρ4, g, m4, re.ext y4, rm4, fin.from h y4 fun d3 m5 h ρ5 H5 x5 rm5 v3 r3 => ?_⟩
  refine ⟨ρ5, g, m5, re.ext (y4.trans x5), rm5, fin.from h (y4.trans x5) fun e3 m6 h ρ6 H6 x6 rm6 w3 s3 => ?_⟩
  have xx : Ext (ρ.hide L) (upd H L (.dK [])) ρ6 H6 := x1.trans (x2.trans (x3.trans (x4.trans (x5.trans x6))))
  obtain ⟨z6, q6⟩ := xx.lx L _ List.mem_cons_self upd_same
  cases d1 with
  | str t1 =>
   cases d2 with
   | str t2 =>
    cases d3 with
    | str t3 =>
     dsimp only at h
     split at h
     · rename_i hne
       obtain ⟨n12, n13, n23⟩ := hne
       have ev1 := hide_str r1
       have ev2 := hide_str r2
       have ev3 := hide_str r3
       subst ev1 ev2 ev3
       refine ⟨q6, [(.inr ⟨t1.toArray⟩, w1), (.inr ⟨t2.toArray⟩, w2), (.inr ⟨t3.toArray⟩, w3)], rfl, by simp, ?_⟩
       have ms : mergeK [] [((.inr ⟨t1.toArray⟩ : Key), w1), (.inr ⟨t2.toArray⟩, w2), (.inr ⟨t3.toArray⟩, w3)] = [((.inr ⟨t1.toArray⟩ : Key), w1), (.inr ⟨t2.toArray⟩, w2), (.inr ⟨t3.toArray⟩, w3)] := merge_self (by
         simp only [List.map_cons, List.map_nil, List.nodup_cons, List.mem_cons, List.not_mem_nil, or_false, not_or, not_false_eq_true, List.nodup_nil, and_true]
         exact ⟨⟨fun e => n12 (key_eq.mp e), fun e => n13 (key_eq.mp e)⟩, fun e => n23 (key_eq.mp e)⟩)
       rw [ms]
       have g6 := rm6.grow (o := .dK [((.inr ⟨t1.toArray⟩ : Key), w1), (.inr ⟨t2.toArray⟩, w2), (.inr ⟨t3.toArray⟩, w3)]) z6
       have xg : Ext ρ H (ρ6.out L) (upd H6 L (.dK [((.inr ⟨t1.toArray⟩ : Key), w1), (.inr ⟨t2.toArray⟩, w2), (.inr ⟨t3.toArray⟩, w3)])) := ext_out (ext_grown (x0.trans xx) hL) hL z6
       have wk : ∀ {d v}, RepV C ρ6 H6 d v → RepV C (ρ6.out L) (upd H6 L (.dK [((.inr ⟨t1.toArray⟩ : Key), w1), (.inr ⟨t2.toArray⟩, w2), (.inr ⟨t3.toArray⟩, w3)])) d v := fun r => show_ext.weak (fun b hb => (lives_out z6).mp hb) out_pre (r.grow z6)
       refine h (ρ6.out L) _ xg (g6.out z6 ⟨rfl, [w1, w2, w3], ?_, .inl ⟨[.inr ⟨t1.toArray⟩, .inr ⟨t2.toArray⟩, .inr ⟨t3.toArray⟩], rfl, by simp [keyD], upd_same⟩⟩) _ ?_
       · simp only [RepL]
         exact ⟨_, _, rfl, wk (s1.ext (x3.trans (x4.trans (x5.trans x6)))), _, _, rfl, wk (s2.ext (x5.trans x6)), _, _, rfl, wk s3, rfl⟩
       · simp only [RepV]
         refine ⟨L, rfl, true, ?_⟩
         show (ρ6.l ++ [(L, true)])[m6.length]? = _
         rw [← rm6.len, List.getElem?_append_right (Nat.le_refl _), Nat.sub_self]
         rfl
     · exact h.elim
    | _ => exact h.elim
   | _ => exact h.elim
  | _ => exact h.elim
end
end LW
/-! LwLv: a comprehension whose list is to change. -/
namespace LW
open PySem PySem.Spec PyProof.Rows L2
section
variable {C : Cn} {W : XK} {X : Cx} {t : Ts} {pos : Pos} {tg : Tg}
end
end LW
/-! LwTx: text.split(sign), text.partition(sign), str(number), int(text). -/
namespace LW
open PySem PySem.Spec PyProof.Rows L2
section
variable {C : Cn} {W : XK} {X : Cx} {o e : Expr} {fa fb : Ex} {pos : Pos}
end
end LW
/-! LwNb: more operations on data. -/
namespace LW
/-- xs[i] = .. of a list that changes -/
@[simp] def putLG (d k : Ex) : Tg := fun y g m => (d g m).bind fun q m1 => (k g m1).bind fun x m2 => match q, x with
  | .ref n, .int i => match m2[n]? with
    | some (.lst ds) => match ixD ds.length i with
      | some j => .ok g (m2.set n (.lst (ds.set j y)))
      | none => .bad
    | _ => .bad
  | _, _ => .bad
/-- the parts of a tuple of whole numbers and texts -/
def tkL : List D → Option (List (Int ⊕ List Nat))
  | [] => some []
  | .int i :: r => (tkL r).map (.inl i :: ·)
  | .str s :: r => (tkL r).map (.inr s :: ·)
  | _ => none
def tksOf : List D → Option (List (List (Int ⊕ List Nat)))
  | [] => some []
  | .tup ds :: r => (tkL ds).bind fun k => (tksOf r).map (k :: ·)
  | _ => none
/-- len(set(list)): signs, whole numbers, tuples of whole numbers and texts -/
def lenSetY : Un := fun m x => match lenSetX m x with
  | some d => some d
  | none => match lstOf m x with
    | some ds => match tksOf ds with
      | some ks => if ks.length < 63 then some (.int (dedup ks).length) else none
      | none => none
    | none => none
/-- tuple * number, not less than 1 -/
def mulTD : Op := fun _ x y => match x, y with
  | .tup ds, .int k => if ds ≠ [] ∧ 1 ≤ k ∧ k ≤ 1000 ∧ ds.length ≤ 1000 then some (.tup (if k = 1 then ds else (List.replicate k.toNat ds).flatten)) else none
  | _, _ => none
/-- o.f = .. -/
@[simp] def sfG (c f : String) (o : Ex) : Tg := fun y g m => (o g m).bind fun x m2 => match x with
  | .ref n => match m2[n]? with
    | some (.ins c' fs) => if c' = c ∧ fs.length < 1000 then .ok g (m2.set n (.ins c (fput f y fs))) else .bad
    | _ => .bad
  | _ => .bad
end LW
/-! LwPl: xs[i] = v of a list that changes. -/
namespace LW
open PySem PySem.Spec PyProof.Rows L2
section
variable {C : Cn} {W : XK} {X : Cx} {a b c o : Expr} {fa fb fc : Ex} {p pos apos mpos : Pos} {td : TE} {ρ : Rho} {H : Hp} {m : Mem}
theorem RepL.set {ρ : Rho} {H : Hp} {y : D} {v : V} (ry : RepV C ρ H y v) : ∀ {ds : List D} {vs : List V}, RepL C ρ H ds vs → ∀ j : Nat, RepL C ρ H (ds.set j y) (vs.set j v)
  | [], vs, h, j => by simp only [RepL] at h; subst h; simp [RepL]
  | d :: ds, vs, h, j => by
    simp only [RepL] at h
    obtain ⟨v0, vs', rfl, h1, h2⟩ := h
    cases j with
    | zero => simp only [List.set_cons_zero, RepL]; exact ⟨v, vs', rfl, ry, h2⟩
    | succ j => simp only [List.set_cons_succ, RepL]; exact ⟨v0, _, rfl, h1, RepL.set ry h2 j⟩
theorem dg_putL (ha : DE C W X a fa) (hb : DE C W X b fb)
    (hq : ∀ v, assign (.Subscript a b pos) X.env v = (do
      let ov ← holding [v] (eval a X.env)
      let iv ← holding [v, ov] (eval b X.env)
      standAt pos
      holding [v, ov, iv] (setItem ov iv v)
      release [v, ov, iv] []) := by intro _; rfl) : DG C W X (.Subscript a b pos) (putLG fa fb) := by
  refine PG.imp (pg_sub ha hb set_list hq) ?_
  rintro v σ H Q ⟨ρ, g, m, d, re, rm, rd, h⟩
  refine ⟨ρ, g, m, re, rm, h.bind.imp fun d1 m1 ρ1 H1 x1 rm1 h1 v1 r1 => ?_⟩
  refine ⟨ρ1, g, m1, re.ext x1, rm1, h1.bind.imp fun d2 m2 ρ2 H2 x2 rm2 h2 v2 r2 => ?_⟩
  split at h2
  · rename_i n i
    split at h2
    · rename_i ds hm
      split at h2
      · rename_i j hj
        obtain ⟨q, xs, rfl, hl, sq, rl⟩ := rm2.lst_at (r1.ext x2) hm
        have rs := RepL.set (rd.ext (x1.trans x2)) rl j
        refine ⟨q, xs, i, j, rfl, by rw [r2.int_at], sq, by rw [← rl.length]; exact hj, ?_⟩
        have xp : Ext ρ2 H2 ρ2 (upd H2 q (.lst (xs.set j v))) := ext_put rm2 hl
        exact h2 ρ2 _ xp (rm2.put hl ⟨rfl, _, upd_same, rs.ext xp⟩) σ (((re.ext x1).ext x2).ext xp)
      · exact h2.elim
    · exact h2.elim
  · exact h2.elim
theorem no_putL {f k : Ex} : TgNo (putLG (noX f) (noX k)) := by
  intro d g m c m' e
  simp only [putLG] at e
  cases h1 : noX f g m with
  | exc c1 m1 => exact noX_no h1
  | bad => rw [h1] at e; cases e
  | ok q m1 =>
    rw [h1, R.bind_ok] at e
    cases h2 : noX k g m1 with
    | exc c1 m2 => exact noX_no h2
    | bad => rw [h2] at e; cases e
    | ok x m2 =>
      rw [h2, R.bind_ok] at e
      split at e
      · split at e
        · split at e <;> cases e
        · cases e
      · cases e
end
end LW
/-! LwAt: o.f as a target among others. -/
namespace LW
open PySem PySem.Spec PyProof.Rows L2
section
variable {C : Cn} {W : XK} {X : Cx} {e o value : Expr} {fe fo fv : Ex} {pos : Pos} {ρ : Rho} {H : Hp} {m : Mem}
def gFld (K : PySem.W.Frag) (ta : TE) (f : Str) : TG := fun v σ H Q => ta σ H fun x H2 => ∃ a C dx fs, x = .ref a ∧ H2 a = some (.ins C dx fs) ∧ Cls K C ∧ NoAttr K C f ∧ fs.length < 1000 ∧
  Q σ (upd H2 a (.ins C dx (putF f v fs)))
theorem pg_fld {ta : TE} {f : Str} (ha : PE X o ta) : PG X (.Attribute o f pos) (gFld X.K ta f) := by
  refine ⟨fun pins s σ H v u Q I r h => ?_⟩
  rw [assign_Attribute]
  refine wpAny_bind (wpAny_holding (thn (ha.run pins s σ H _ I h) fun ov s1 ⟨x, H1, I1, r1, a, C, dx, fs, ex, ea, c, n, l, q⟩ => ?_))
  subst ex
  obtain rfl : ov = Value.ref a := r1
  refine wpAny_bind (wpAny_standAt (wpAny_bind (wpAny_holding (setattr_ok I1 ea c n l r fun s3 I3 => ?_))))
  exact wpAny_release ⟨σ, _, I3, q⟩
theorem dg_fld {c f : String} {Cc : Addr} (hc : C.cls c = .ref Cc) (cl : Cls X.K Cc) (na : NoAttr X.K Cc (f : Str)) (ho : DE C W X o fo) : DG C W X (.Attribute o (f : Str) pos) (sfG c f fo) := by
  refine PG.imp (pg_fld ho) ?_
  rintro v σ H Q ⟨ρ, g, m, d, re, rm, rd, h⟩
  refine ⟨ρ, g, m, re, rm, h.bind.imp fun d1 m1 ρ1 H1 x1 rm1 h2 v1 rv => ?_⟩
  split at h2
  · rename_i n
    split at h2
    · rename_i c' fs q
      split at h2
      · rename_i hcc
        obtain ⟨hcc, h1000⟩ := hcc
        subst hcc
        obtain ⟨a, C2, dx, vs, rfl, hn, hcl, hl, ha, rl⟩ := rm1.ins_at rv q
        rw [hc] at hcl
        cases hcl
        obtain ⟨vs', e1, e2, e3⟩ := put_fs (f := f) rl (rd.ext x1)
        refine ⟨a, Cc, dx, _, rfl, ha, cl, na, by simp [hl]; exact h1000, ?_⟩
        rw [e2]
        have x3 := ext_put (o := .ins Cc dx ((fnm (fput f d fs)).zip vs')) rm1 hn
        have rm3 := rm1.put (u := .ins c' (fput f d fs)) hn ⟨rfl, Cc, dx, vs', hc, e1, upd_same, e3.ext x3⟩
        exact h2 ρ1 _ x3 rm3 σ ((re.ext x1).ext x3)
      · exact h2.elim
    · exact h2.elim
  · exact h2.elim
theorem no_fld {c f : String} {fo : Ex} : TgNo (sfG c f (noX fo)) := by
  intro d g m c1 m' e
  simp only [sfG] at e
  cases h1 : noX fo g m with
  | exc c1 m1 => exact noX_no h1
  | bad => rw [h1] at e; cases e
  | ok q m1 =>
    rw [h1, R.bind_ok] at e
    split at e
    · split at e
      · split at e <;> cases e
      · cases e
    · cases e
end
end LW
/-! LwTm: tuple * number. -/
namespace LW
open PySem PySem.Spec PyProof.Rows L2
theorem tuple_mul1 (l : Addr) (items : Array Value) (n : Nat) (dd : Option Addr) (sl : Array (Option Value)) (u : Tok) :
    Meets (Builtin.«tuple.__mul__» ⟨[.ref l, .int 1 u], []⟩) (fun _ R s => s.heap.get? l = some { cls := .type "tuple", dict := dd, data := .seq items n, slots := sl } ∧ R (.ok (.ret (Value.ref l))) s) :=
  .of_wp fun prog w A R s h => by
    obtain ⟨hp, g, d, tk, os⟩ := s
    obtain ⟨hl, h⟩ := h
    have f1 := AutoSeq1.idx_int
    have c1 : (items.isEmpty || (1 : Int) == 1) = true := by simp
    wp_walk using wpAny_loadPart' hl
    repeat (first
      | (refine wpAny_ite_false (by decide) ?_; wp_walk using wpAny_loadPart' hl)
      | (refine wpAny_ite_true (by simp) ?_; wp_walk using wpAny_loadPart' hl))
    exact ⟨_, rfl, h⟩
def rRep1 (K : PySem.W.Frag) : R2 := fun x y H Q => ∃ l xs, x = .ref l ∧ y = .int 1 ∧ SqT K H l xs ∧ Q (.ref l) H
section
variable {X : Cx} {C : Cn}
theorem op_rep1 : OpR X (binaryOp .Mult) (rRep1 X.K) := by
  intro pins s σ H x y v u Q I rx ry h
  obtain ⟨l, xs, rfl, rfl, hT, q⟩ := h
  cases rx
  obtain ⟨t, rfl⟩ := ry
  obtain ⟨its, r, ⟨⟨cls, dd, data, sl⟩, ho, hc, n, hd⟩, hs⟩ := I.tuple hT
  simp only at hc hd
  subst hc hd
  refine wpAny_binaryOp_repeat_ref (T := "tuple") (U := "int") (by decide) ⟨_, ho, rfl⟩ (fun s' => typeIs_int s' 1 t) noFill_tuple_mul F.fills_int_mul F.slot_int_rmul repeat_tuple F.slot_int_index.lookup
    (call_meets F.slot_int_rmul (typeIs_int s 1 t) F.entry_int_rmul (F.args_int_rmul_2 _ _) (int_rmul_tuple 1 t l its.toArray n dd sl)
      ⟨ho, rfl, ⟨_, ho, rfl⟩, call_meets F.slot_tuple_mul ⟨_, ho, rfl⟩ F.entry_tuple_mul (F.args_tuple_mul_2 _ _) (tuple_mul1 l its.toArray n dd sl t) ⟨ho, ?_⟩⟩)
  exact ⟨.ref l, H, I, rfl, q⟩
abbrev rMulT (K : PySem.W.Frag) : R2 := fun x y H Q => rRep1 K x y H Q ∨ rRepT K x y H Q
theorem or_mulT : OpR X (binaryOp .Mult) (rMulT X.K) := op_rep1.or op_repT
theorem os_mulT (hK : C.K = X.K) : OpS C (rMulT X.K) mulTD := by
  intro ρ H m d1 d2 v1 v2 d Q rm r1 r2 e q
  cases d1 with
  | tup ds =>
    cases d2 with
    | int k =>
      simp only [mulTD] at e
      split at e
      · rename_i hb
        obtain ⟨h1, h2, h3, h4⟩ := hb
        cases e
        obtain ⟨p1, xs, e1, s1, l1⟩ := id r1.tup_sq
        by_cases hk : k = 1
        · subst hk
          rw [if_pos rfl] at q
          refine .inl ⟨p1, xs, e1, r2.int_at, hK ▸ s1, ?_⟩
          exact q _ H (Same.refl H) (e1 ▸ r1)
        · rw [if_neg hk] at q
          refine .inr ⟨p1, k, xs, e1, r2.int_at, hK ▸ s1, fun z => ?_, by omega, h3, by rw [← l1.length]; exact h4, fun p hp => q _ _ (same_upd hp) (rep_tup rm hp (l1.repl k.toNat))⟩
          rw [z] at l1
          have := l1.length
          exact h1 (List.eq_nil_of_length_eq_zero this)
      · cases e
    | _ => cases e
  | _ => cases e
end
end LW
/-! LwTs: sets of tuples of whole numbers and texts. -/
namespace LW
open PySem PySem.Spec PyProof.Rows L2
/-- the tuple at b has the parts k -/
abbrev MT (P : Program) (w : World) (h : Heap) (k : List Key) (b : Addr) : Prop := IsTupleKey (mixKind P w) h k b
abbrev mh (P : Program) (w : World) (k : List Key) : Int := tupleKeyHash (mixKind P w) k
section
variable {P : Program} {w : World} {A : Around} {E : Value → Shared → Prop} {s : Shared}
/-- a whole number or a text -/
def Flt (v : Value) : Prop := (∃ i t, v = .int i t) ∨ ∃ x t, v = .str x t
theorem flt_items {k : List Key} {vs : List Value} (h : ItemsAre (mixKind P w) k vs) : ∀ v ∈ vs, Flt v := by
  induction h with
  | nil => exact fun _ z => nomatch z
  | @cons k0 u ks us h1 _ ih =>
    intro v z
    rcases List.mem_cons.mp z with rfl | z
    · rcases keyIs_shape (show keyIs k0 v = true from h1) with ⟨i, t, _, rfl⟩ | ⟨x, t, _, rfl⟩
      · exact .inl ⟨i, t, rfl⟩
      · exact .inr ⟨x, t, rfl⟩
    · exact ih v z
theorem flt_class {v : Value} (h : Flt v) (n : Nat) : ofAClassStatement n v = pure false := by
  rcases h with ⟨i, t, rfl⟩ | ⟨x, t, rfl⟩ <;> cases n <;> rfl
theorem flt_hash {v : Value} (h : Flt v) (n : Nat) : ∃ c, hashByValue n v = pure c := by
  rcases h with ⟨i, t, rfl⟩ | ⟨x, t, rfl⟩
  · exact ⟨true, by cases n <;> rfl⟩
  · exact ⟨false, by cases n <;> rfl⟩
theorem mt_class {k : List Key} {b : Addr} {Q : Bool → Shared → Prop} (x : MT P w s.heap k b) (q : Q false s) : wpAny (model P w) A (ofAClassStatement 8 (.ref b)) Q E s := by
  have ty := x.typeIs
  obtain ⟨ob, vs, cap, g1, _, g2, g3⟩ := x
  have fl := flt_items g3
  unfold ofAClassStatement
  refine wpAny_bind (wpAny_typeOf ty ?_)
  dsimp only
  simp only [show (("tuple" : String) == "tuple") = true by decide, if_true, Bool.not_true, Bool.false_eq_true, if_false]
  try refine wpAny_bind (wpAny_pure ?_)
  try simp only [Bool.not_true, Bool.false_eq_true, if_false]
  show wpAny _ _ (seqItems? (.ref b) >>= _) _ _ s
  refine wpAny_bind (wpAny_seqItems g1 g2 ?_)
  dsimp only
  refine wpAny_bind ?_
  show wpAny _ _ (forIn vs _ _) _ _ s
  rw [← Array.forIn_toList]
  refine wpAny_forIn_list _ (fun us r s' => (r.1 = none ∧ s' = s) ∧ ∀ v ∈ us, Flt v) _ (fun v us r s' h => ?_) (fun r s' h => ?_) _ _ ⟨⟨rfl, rfl⟩, fl⟩
  · obtain ⟨⟨_, e⟩, al⟩ := h
    rw [flt_class (al v List.mem_cons_self)]
    refine wpAny_bind (wpAny_pure ?_)
    simp only [Bool.false_eq_true, if_false]
    exact wpAny_pure ⟨⟨rfl, e⟩, fun u z => al u (List.mem_cons_of_mem _ z)⟩
  · obtain ⟨r1, r2⟩ := r
    obtain ⟨⟨e1, rfl⟩, _⟩ := h
    dsimp only at e1
    subst e1
    exact wpAny_pure q
/-- whether its hash is by value: whatever is told -/
theorem mt_hashBy {k : List Key} {b : Addr} {Q : Bool → Shared → Prop} (x : MT P w s.heap k b) (q : ∀ c, Q c s) : wpAny (model P w) A (hashByValue 8 (.ref b)) Q E s := by
  have ty := x.typeIs
  obtain ⟨ob, vs, cap, g1, _, g2, g3⟩ := x
  have fl := flt_items g3
  unfold hashByValue
  refine wpAny_bind (wpAny_specialOf ty F.slot_tuple_hash.lookup ?_)
  show wpAny _ _ (seqItems? (.ref b) >>= _) _ _ s
  refine wpAny_bind (wpAny_seqItems g1 g2 ?_)
  refine wpAny_bind ?_
  show wpAny _ _ (forIn vs _ _) _ _ s
  rw [← Array.forIn_toList]
  refine wpAny_forIn_list _ (fun us r s' => (r.1 = none ∧ s' = s) ∧ ∀ v ∈ us, Flt v) _ (fun v us r s' h => ?_) (fun r s' h => ?_) _ _ ⟨⟨rfl, rfl⟩, fl⟩
  · obtain ⟨⟨_, rfl⟩, al⟩ := h
    obtain ⟨c, ec⟩ := flt_hash (al v List.mem_cons_self) 7
    rw [ec]
    refine wpAny_bind (wpAny_pure ?_)
    cases c with
    | true =>
      simp only [Bool.not_true, Bool.false_eq_true, if_false]
      exact wpAny_pure ⟨⟨rfl, rfl⟩, fun u z => al u (List.mem_cons_of_mem _ z)⟩
    | false =>
      simp only [Bool.not_false, if_true]
      exact wpAny_pure (wpAny_pure (q false))
  · obtain ⟨r1, r2⟩ := r
    obtain ⟨⟨e1, rfl⟩, _⟩ := h
    dsimp only at e1
    subst e1
    exact wpAny_pure (q true)
/-- a search among such tuples shows nothing -/
theorem mt_seen {k : List Key} {b : Addr} {Q : Bool → Shared → Prop} (x : MT P w s.heap k b) {ys : List Value} (al : ∀ y ∈ ys, ∃ k' c, y = Value.ref c ∧ MT P w s.heap k' c) (q : Q false s) : wpAny (model P w) A (searchCouldBeSeen (.ref b) ys) Q E s := by
  unfold searchCouldBeSeen
  refine wpAny_bind ?_
  refine wpAny_forIn_list _ (fun us r s' => (r.1 = none ∧ s' = s) ∧ ∀ y ∈ us, ∃ k' c, y = Value.ref c ∧ MT P w s.heap k' c) _ (fun v us r s' h => ?_) (fun r s' h => ?_) _ _ ⟨⟨rfl, rfl⟩, al⟩
  · obtain ⟨⟨_, rfl⟩, al'⟩ := h
    obtain ⟨k', c, rfl, y⟩ := al' v List.mem_cons_self
    have nx : ∀ z ∈ us, ∃ k' c, z = Value.ref c ∧ MT P w s'.heap k' c := fun u z => al' u (List.mem_cons_of_mem _ z)
    dsimp only
    cases hv : (b == c || (carriedByValue (.ref b) && carriedByValue (.ref c))) with
    | true => exact wp_if_pos rfl (wpAny_pure ⟨⟨rfl, rfl⟩, nx⟩)
    | false =>
      refine wp_if_neg Bool.false_ne_true ?_
      refine wpAny_bind (wpAny_eqIsQuiet_tuple x ?_)
      simp only [Bool.not_true, Bool.false_eq_true, if_false]
      refine wpAny_bind (wpAny_eqIsQuiet_tuple y ?_)
      simp only [Bool.not_true, Bool.false_eq_true, if_false]
      refine wpAny_bind (mt_class x ?_)
      simp only [Bool.false_eq_true, if_false]
      refine wpAny_bind (mt_class y ?_)
      simp only [Bool.false_eq_true, if_false]
      exact wpAny_pure ⟨⟨rfl, rfl⟩, nx⟩
  · obtain ⟨r1, r2⟩ := r
    obtain ⟨⟨e1, rfl⟩, _⟩ := h
    dsimp only at e1
    subst e1
    exact wpAny_pure q
/-! ### the set -/
def rowsM (P : Program) (w : World) (L : List (Addr × List Key)) : List (Int × Value) := L.map fun p => (mh P w p.2, Value.ref p.1)
abbrev hsM (P : Program) (w : World) (L : List (Addr × List Key)) : List Int := L.map fun p => mh P w p.2
structure MSet (P : Program) (w : World) (h : Heap) (a : Addr) (L : List (Addr × List Key)) (es : Array (Int × Value)) (ep : Nat) (t : SetTable) : Prop where
  ob : ∃ o, h.get? a = some o ∧ o.ExactSet ∧ o.data = .set es ep t
  rows : es.toList = rowsM P w L
  tab : TabOk t (hsM P w L)
  nd : (L.map (·.2)).Nodup
  tup : ∀ p ∈ L, MT P w h p.2 p.1
  led : w.params.followText "set-order" = true ∨ t.led = true
  room : L.length * 5 < t.mask * 3
  few : L.length < 64
variable {a : Addr} {L : List (Addr × List Key)} {es : Array (Int × Value)} {ep : Nat} {t : SetTable}
theorem rowsM_len (h : es.toList = rowsM P w L) : es.size = L.length := by
  have := congrArg List.length h
  simpa [rowsM] using this
theorem MSet.fits (R : MSet P w s.heap a L es ep t) : t.fits es.size = true := by
  have e1 : t.place.size = L.length := by simpa using R.tab.sz
  have e2 := rowsM_len R.rows
  have e3 := R.room
  unfold SetTable.fits SetTable.fill
  rw [R.tab.dm]
  simp only [Bool.and_eq_true, beq_iff_eq, decide_eq_true_eq, List.size_toArray, List.length_nil]
  omega
theorem MSet.entry (R : MSet P w s.heap a L es ep t) {i : Nat} {p : Addr × List Key} (h : L[i]? = some p) : es[i]? = some (mh P w p.2, Value.ref p.1) := by
  rw [← Array.getElem?_toList, R.rows, rowsM, List.getElem?_map, h]
  rfl
theorem MSet.stays (R : MSet P w s.heap a L es ep t) : ¬ t.gaveWay = true := by
  unfold SetTable.gaveWay
  rw [mask_odd R.tab.mok]
  decide
theorem nth_nodm (m : Nat) : ∀ (n : Nat) (p : SetTable.Probe), p.dummy = none → (nth m p n).dummy = none
  | 0, _, h => h
  | n + 1, p, h => nth_nodm m n (adv m p) (by unfold adv; split <;> exact h)
abbrev prM (m : Nat) (h : Int) (c : Nat) : SetTable.Probe := nth m (runAt m (SetTable.bits h % (m + 1)) (SetTable.bits h)) c
theorem prM_add (m : Nat) (h : Int) (c q : Nat) : nth m (prM m h c) q = prM m h (c + q) := (nth_add m c _ q).symm
/-- the search, from a place of the way on -/
theorem msearch (R : MSet P w s.heap a L es ep t) {b : Addr} {k : List Key} (x : MT P w s.heap k b) (hu : A.units < cLine) {K : Nat} (kf : K < 10 * SetTable.turns t.mask)
    (kn : way t.mask (mh P w k) K ∉ t.place.toList) (kb : ∀ c, c < K → way t.mask (mh P w k) c ∈ t.place.toList) {Q : SetFound → Shared → Prop}
    (yes : k ∈ L.map (·.2) → Q (.there none) s) (no : k ∉ L.map (·.2) → Q (.free (way t.mask (mh P w k) K) false) s) :
    ∀ (f c : Nat) (st : Option SetTable.Probe), st.getD (t.probeStart (mh P w k)) = prM t.mask (mh P w k) c → c ≤ K → K - c < f →
      (∀ (i : Nat) p, L[i]? = some p → p.2 = k → ∃ c', c ≤ c' ∧ c' < K ∧ t.place.toList[i]? = some (way t.mask (mh P w k) c')) →
      wpAny (model P w) A (setSearchFrom a (.ref b) (mh P w k) true f st) Q E s := by
  obtain ⟨o, ho, hex, hd⟩ := R.ob
  intro f
  induction f with
  | zero => intro c st _ _ z; omega
  | succ f ih =>
    intro c st e1 c1 c2 re
    have at_ : ∀ (i : Nat) p, L[i]? = some p → (es[i]?.map (·.1)).getD 0 = mh P w p.2 := fun i p z => by rw [R.entry z]; rfl
    have go := go_spec t R.tab.ris R.tab.dm (fun i => (es[i]?.map (·.1)).getD 0) (mh P w k) (10 * SetTable.turns t.mask) (K - c) (prM t.mask (mh P w k) c) (nth_nodm _ c _ rfl) (by omega)
      (fun q z => by rw [prM_add]; exact kb (c + q) (by omega)) (by rw [prM_add, show c + (K - c) = K by omega]; exact kn)
    rw [setSearchFrom_succ]
    refine wpAny_bind (wpAny_setState_of ho hd R.fits ?_)
    dsimp only
    refine wp_if_neg R.stays ?_
    try refine wpAny_bind (wpAny_pure ?_)
    rw [e1]
    rcases go with ⟨q, i, hq, hi, hh, hno, hp⟩ | ⟨hno, hp⟩
    · rw [show t.probe (fun i => (es[i]?.map (·.1)).getD 0) (mh P w k) (prM t.mask (mh P w k) c) = _ from hp]
      dsimp only
      rw [prM_add] at hi
      have il : i < L.length := by
        have z1 := (List.getElem?_eq_some_iff.mp hi).1
        have z2 : t.place.size = L.length := by simpa using R.tab.sz
        rw [Array.length_toList] at z1
        omega
      obtain ⟨p, hL⟩ : ∃ p, L[i]? = some p := ⟨L[i], List.getElem?_eq_getElem il⟩
      have pm := List.mem_of_getElem? hL
      have rest : wpAny (model P w) A (searchRest a (.ref b) (mh P w k) true f es t (nth t.mask (prM t.mask (mh P w k) c) q).j i (nth t.mask (prM t.mask (mh P w k) c) (q + 1))) Q E s := by
        rw [prM_add, prM_add]
        unfold searchRest
        rw [R.entry hL]
        dsimp only
        refine wpAny_bind (wpAny_holding (wpAny_eqBool_tuple hu (R.tup p pm) x ?_))
        refine wpAny_bind (wpAny_setState_of ho hd R.fits ?_)
        dsimp only
        have live : t.slot (prM t.mask (mh P w k) (c + q)).j = .live i := slot_live R.tab.ris hi
        by_cases same : p.2 = k
        · refine wp_if_pos (by simp [same]) (wpAny_pure (yes (List.mem_map.mpr ⟨p, pm, same⟩)))
        · refine wp_if_neg (by simp [same]) ?_
          try refine wpAny_bind (wpAny_pure ?_)
          rw [sameMem]
          dsimp only
          simp only [if_true, live, R.entry hL]
          refine wpAny_bind (wpAny_isSame_ref_self (wpAny_bind (wpAny_pure ?_)))
          simp only [if_true]
          refine wp_if_neg (by simp [same]) (ih (c + (q + 1)) _ rfl (by omega) (by omega) fun i2 p2 z2 k2 => ?_)
          obtain ⟨c', a1, a2, a3⟩ := re i2 p2 z2 k2
          refine ⟨c', ?_, a2, a3⟩
          apply Classical.byContradiction
          intro far
          by_cases hc : c' = c + q
          · rw [hc] at a3
            have l2 := slot_live R.tab.ris a3
            rw [live] at l2
            injection l2 with l2
            rw [← l2, hL] at z2
            cases z2
            exact same k2
          · refine hno (c' - c) i2 (by omega) (by rw [prM_add, show c + (c' - c) = c' by omega]; exact a3) ?_
            show (es[i2]?.map (·.1)).getD 0 = _
            rw [at_ i2 p2 z2, k2]
      cases hl : t.led with
      | true =>
        refine wp_if_neg (by simp) ?_
        try refine wpAny_bind (wpAny_pure ?_)
        exact rest
      | false =>
        refine wp_if_pos (by simp) ?_
        refine wpAny_bind (mt_seen x (fun y z => ?_) ?_)
        · obtain ⟨e, he, rfl⟩ := List.mem_map.mp z
          have e2 : e ∈ es.toList := by
            have : e ∈ es ∧ e.1 = mh P w k := by simpa using he
            simpa using this.1
          rw [R.rows, rowsM] at e2
          obtain ⟨p2, m2, rfl⟩ := List.mem_map.mp e2
          exact ⟨p2.2, p2.1, rfl, R.tup p2 m2⟩
        · refine wp_if_neg (by decide) ?_
          try refine wpAny_bind (wpAny_pure ?_)
          exact rest
    · rw [show t.probe (fun i => (es[i]?.map (·.1)).getD 0) (mh P w k) (prM t.mask (mh P w k) c) = _ from hp]
      dsimp only
      rw [prM_add, show c + (K - c) = K by omega]
      refine wpAny_pure (no fun z => ?_)
      obtain ⟨p2, m2, k2⟩ := List.mem_map.mp z
      obtain ⟨i2, l2, e2⟩ := List.getElem_of_mem m2
      have z2 : L[i2]? = some p2 := by rw [List.getElem?_eq_getElem l2, e2]
      obtain ⟨c', a1, a2, a3⟩ := re i2 p2 z2 k2
      refine hno (c' - c) i2 (by omega) (by rw [prM_add, show c + (c' - c) = c' by omega]; exact a3) ?_
      show (es[i2]?.map (·.1)).getD 0 = _
      rw [at_ i2 p2 z2, k2]
theorem msearch0 (R : MSet P w s.heap a L es ep t) {b : Addr} {k : List Key} (x : MT P w s.heap k b) (hu : A.units < cLine) {Q : SetFound → Shared → Prop}
    (yes : k ∈ L.map (·.2) → Q (.there none) s)
    (no : ∀ K, k ∉ L.map (·.2) → way t.mask (mh P w k) K ∉ t.place.toList → (∀ c, c < K → way t.mask (mh P w k) c ∈ t.place.toList) → Q (.free (way t.mask (mh P w k) K) false) s) :
    wpAny (model P w) A (setSearch a (.ref b) (mh P w k) true) Q E s := by
  have rm := R.room
  have sz : t.place.size = L.length := by simpa using R.tab.sz
  obtain ⟨K, kf, kn, kb⟩ := R.tab.first (by rw [List.length_map]; omega) (mh P w k)
  have small : K < 100000 := by
    have : SetTable.turns t.mask ≤ 142 := by
      unfold SetTable.turns
      rcases R.tab.mok with z | z | z <;> omega
    omega
  unfold setSearch
  refine msearch R x hu kf kn kb yes (fun z => no K z kn kb) 100000 0 none rfl (Nat.zero_le _) (by omega) fun i p hp hk => ?_
  have h1 : (hsM P w L)[i]? = some (mh P w k) := by rw [List.getElem?_map, hp, ← hk]; rfl
  have il : i < t.place.toList.length := by
    have := (List.getElem?_eq_some_iff.mp hp).1
    rw [Array.length_toList]
    omega
  obtain ⟨c, c1, c2⟩ := R.tab.before kn h1 (List.getElem?_eq_getElem il)
  exact ⟨c, Nat.zero_le _, c1, by rw [List.getElem?_eq_getElem il, c2]⟩
theorem mt_kept {h h' : Heap} {k : List Key} {b : Addr} {o : Obj} (x : MT P w h k b) (ho : h.get? a = some o) (hd : o.data = .set es ep t) (sb : Heap.SameBut a h h') : MT P w h' k b := by
  obtain ⟨o', vs, n, g1, g2, g3, g4⟩ := x
  refine ⟨o', vs, n, (sb.2 b fun z => ?_).trans g1, g2, g3, g4⟩
  rw [z, ho] at g1
  cases g1
  rw [hd] at g3
  cases g3
theorem order_M (order : Array Nat) (hr : es.toList = rowsM P w L) (hp : order.toList.Perm (List.range L.length)) :
    ∃ L2, (order.filterMap (es[·]?)).toList = rowsM P w L2 ∧ L2.Perm L ∧ hsM P w L2 = order.toList.map fun i => (es.map (·.1)).getD i 0 := by
  have ent : ∀ i, es[i]? = (L[i]?).map (fun p : Addr × List Key => (mh P w p.2, Value.ref p.1)) := fun i => by
    rw [← Array.getElem?_toList, hr, rowsM, List.getElem?_map]
  have inn : ∀ i ∈ order.toList, i < L.length := fun i z => List.mem_range.mp (hp.mem_iff.mp z)
  refine ⟨order.toList.filterMap fun i => L[i]?, ?_, ?_, ?_⟩
  · rw [Array.toList_filterMap, rowsM, List.map_filterMap]
    exact congrArg (fun f => List.filterMap f order.toList) (funext ent)
  · have h1 := hp.filterMap fun i => L[i]?
    have h2 : (List.range L.length).filterMap (fun i => L[i]?) = L := by
      have key : ∀ n, n ≤ L.length → (List.range n).filterMap (fun i => L[i]?) = L.take n := fun n => by
        induction n with
        | zero => intro _; rfl
        | succ n ih =>
          intro z
          rw [List.range_succ, List.filterMap_append, ih (by omega), List.take_succ]
          rw [List.getElem?_eq_getElem (show n < L.length by omega)]
          simp [List.getElem?_eq_getElem (show n < L.length by omega)]
      rw [key L.length (Nat.le_refl _), List.take_length]
    rw [h2] at h1
    exact h1
  · generalize order.toList = l at inn
    induction l with
    | nil => rfl
    | cons i l ih =>
      have il := inn i List.mem_cons_self
      rw [List.filterMap_cons_some (List.getElem?_eq_getElem il), hsM, List.map_cons, List.map_cons, ← ih fun j z => inn j (List.mem_cons_of_mem _ z)]
      have e : (es.map (·.1)).getD i 0 = mh P w L[i].2 := by
        rw [Array.getD_eq_getD_getElem?, Array.getElem?_map, ent, List.getElem?_eq_getElem il]
        rfl
      rw [e]
/-- a greater table -/
theorem mrelay {o : Obj} (ho : s.heap.get? a = some o) (hex : o.ExactSet) (hd : o.data = .set es ep t) (hr : es.toList = rowsM P w L) (sz : t.place.size = es.size) (dm : t.dummies = #[]) (sm : es.size ≤ t.mask)
    (nd : (L.map (·.2)).Nodup) (tup : ∀ p ∈ L, MT P w s.heap p.2 p.1) (led : w.params.followText "set-order" = true ∨ t.led = true) (few : L.length < 64) {wanted M : Nat}
    (hw : SetTable.sizeAbove wanted - 1 = M) (hM : MaskOk M) (hw2 : SetTable.sizeAbove wanted ≤ 128) (hn : L.length * 5 < M * 3) {Q : Unit → Shared → Prop}
    (q : ∀ h' L' es' ep' t', Heap.SameBut a s.heap h' → MSet P w h' a L' es' ep' t' → L'.Perm L → Q () { s with heap := h' }) : wpAny (model P w) A (setRelay a wanted) Q E s := by
  have sl := rowsM_len hr
  have fit : t.fits es.size = true := by
    unfold SetTable.fits SetTable.fill
    rw [dm]
    simp only [Bool.and_eq_true, beq_iff_eq, decide_eq_true_eq, List.size_toArray, List.length_nil]
    omega
  obtain ⟨t2, order, e, pm, T, em, el, _, ed⟩ := relaid_ok t (hs := es.map (·.1)) (wanted := wanted) hw hM (by rw [Array.size_map, sl]; omega)
  rw [Array.size_map, sl] at pm
  obtain ⟨L2, r1, r2, r3⟩ := order_M order hr pm
  rw [← r3] at T
  have s2 : (order.filterMap (es[·]?)).size = es.size := by rw [rowsM_len r1, r2.length_eq, sl]
  rw [setRelay_eq]
  refine wpAny_bind (wpAny_setState_of ho hd fit ?_)
  dsimp only
  refine wp_if_neg (by rw [sizeLine_eq]; omega) ?_
  try refine wpAny_bind (wpAny_pure ?_)
  rw [e]
  dsimp only
  refine wpAny_bind (wp_if_neg (by rw [s2]; simp) ?_)
  try refine wpAny_bind (wpAny_pure ?_)
  refine wpAny_pure ?_
  dsimp only
  refine wpAny_storeSet_of ho hd ?_ (by rw [s2, sl, sizeLine_eq]; omega)
  have sb : Heap.SameBut a s.heap (s.heap.update a (Obj.putSet (order.filterMap (es[·]?)) t2)) := Heap.SameBut.update ..
  refine q _ L2 _ (ep + 1) t2 sb ⟨⟨_, store_at ho hd, ⟨hex.1, hex.2.1, hex.2.2⟩, rfl⟩, r1, T, (r2.map (·.2)).nodup_iff.mpr nd, fun p z => mt_kept (tup p (r2.mem_iff.mp z)) ho hd sb, by rw [el]; exact led, by rw [r2.length_eq, em]; exact hn, by rw [r2.length_eq]; exact few⟩ r2
/-- one more -/
theorem madd (R : MSet P w s.heap a L es ep t) {b : Addr} {k : List Key} (x : MT P w s.heap k b) (hu : A.units < cLine) (few : L.length + 1 < 64) {Q : Bool → Shared → Prop}
    (q : ∀ c h' L' es' ep' t', Heap.SameBut a s.heap h' → MSet P w h' a L' es' ep' t' → (k ∈ L.map (·.2) → L' = L) → (k ∉ L.map (·.2) → L'.Perm ((b, k) :: L)) → Q c { s with heap := h' }) :
    wpAny (model P w) A (setAddHashed a (.ref b) (mh P w k)) Q E s := by
  obtain ⟨o, ho, hex, hd⟩ := R.ob
  have sl := rowsM_len R.rows
  have rm := R.room
  unfold setAddHashed
  refine wpAny_holding ?_
  rw [show (100000 : Nat) = 99999 + 1 from rfl, setAddHashedIn_succ]
  refine wpAny_bind (wpAny_setState_of ho hd R.fits ?_)
  dsimp only
  refine wp_if_neg (by simp [byScan, Value.scannable]) ?_
  try refine wpAny_bind (wpAny_pure ?_)
  refine wpAny_bind (msearch0 R x hu (fun z => ?_) fun K z kn kb => ?_)
  · exact wpAny_pure (q false s.heap L es ep t (Heap.SameBut.refl a s.heap) R (fun _ => rfl) fun y => absurd z y)
  · dsimp only
    refine wpAny_bind (wpAny_setState_of ho hd R.fits ?_)
    dsimp only
    obtain ⟨q1, q2, q3, q4, q5, q6, q7, q8, q9⟩ := R.tab.put kn kb
    obtain ⟨t1, ht1⟩ : ∃ t1, t1 = (t.put (way t.mask (mh P w k) K)).1 := ⟨_, rfl⟩
    obtain ⟨j, hj⟩ : ∃ j, j = SetTable.below t.place (way t.mask (mh P w k) K) := ⟨_, rfl⟩
    rw [q1]
    rw [← ht1] at q3 q4 q5 q9 ⊢
    rw [← hj] at q2 q3 ⊢
    rw [List.length_map] at q2 q9
    have rest : ∀ c : Bool, wpAny (model P w) A (do
        storeSet a (SetTable.insertAt es j (mh P w k, Value.ref b)) (if c then t1 else { t1 with plain := false })
        if !false && (if c then t1 else { t1 with plain := false }).tooFull then setRelay a (SetTable.grown (es.size + 1))
        return true) Q E s := fun c => by
      obtain ⟨t2, ht2⟩ : ∃ t2, t2 = (if c = true then t1 else { t1 with plain := false }) := ⟨_, rfl⟩
      rw [← ht2]
      have T2 : TabOk t2 ((hsM P w L).take j ++ mh P w k :: (hsM P w L).drop j) := by
        rw [ht2]
        cases c
        · exact ⟨q3.ris, q3.dm, q3.sz, q3.mok, q3.bd, q3.reach⟩
        · exact q3
      have m2 : t2.mask = t.mask := by rw [ht2]; cases c <;> exact q4
      have l2 : t2.led = t.led := by rw [ht2]; cases c <;> exact q5
      have f2 : t2.fill = L.length + 1 := by rw [ht2]; cases c <;> exact q9
      clear ht2
      obtain ⟨L1, hL1⟩ : ∃ L1, L1 = L.take j ++ (b, k) :: L.drop j := ⟨_, rfl⟩
      obtain ⟨es1, he1⟩ : ∃ es1, es1 = SetTable.insertAt es j (mh P w k, Value.ref b) := ⟨_, rfl⟩
      have r1 : es1.toList = rowsM P w L1 := by
        rw [he1, SetTable.toList_insertAt, R.rows, hL1]
        simp only [rowsM, List.map_append, List.map_cons, List.map_take, List.map_drop]
      have h1 : (hsM P w L).take j ++ mh P w k :: (hsM P w L).drop j = hsM P w L1 := by
        rw [hL1]
        simp only [hsM, List.map_append, List.map_cons, List.map_take, List.map_drop]
      rw [h1] at T2
      have pm : L1.Perm ((b, k) :: L) := by
        rw [hL1]
        have := List.perm_middle (a := (b, k)) (l₁ := L.take j) (l₂ := L.drop j)
        rw [List.take_append_drop] at this
        exact this
      have len := pm.length_eq
      rw [List.length_cons] at len
      have nd : (L1.map (·.2)).Nodup := (pm.map (·.2)).nodup_iff.mpr (List.nodup_cons.mpr ⟨z, R.nd⟩)
      have z1 := rowsM_len r1
      rw [← he1]
      refine wpAny_bind (wpAny_storeSet_of ho hd ?_ (by rw [z1, len, sizeLine_eq]; omega))
      have sb : Heap.SameBut a s.heap (s.heap.update a (Obj.putSet es1 t2)) := Heap.SameBut.update ..
      have o1 := store_at (es' := es1) (t' := t2) ho hd
      generalize s.heap.update a (Obj.putSet es1 t2) = hp at sb o1 ⊢
      have tp : ∀ p ∈ L1, MT P w hp p.2 p.1 := fun p y => by
        rcases List.mem_cons.mp (pm.mem_iff.mp y) with rfl | y
        · exact mt_kept x ho hd sb
        · exact mt_kept (R.tup p y) ho hd sb
      have ld : w.params.followText "set-order" = true ∨ t2.led = true := by rw [l2]; exact R.led
      by_cases full : t2.tooFull = true
      · have fl : (L.length + 1) * 5 ≥ t2.mask * 3 := by
          unfold SetTable.tooFull at full
          rw [decide_eq_true_eq, f2] at full
          exact full
        have two : (t.mask = 7 ∧ L.length = 4) ∨ (t.mask = 31 ∧ L.length = 18) := by
          rw [m2] at fl
          rcases R.tab.mok with e | e | e <;> rw [e] at fl rm
          · exact .inl ⟨e, by omega⟩
          · exact .inr ⟨e, by omega⟩
          · omega
        first
          | (refine wp_if_pos (by simp [full]) ?_; refine wpAny_bind ?_)
          | (refine wpAny_bind ?_; refine wp_if_pos (by simp [full]) ?_)
        rw [sl]
        have pz : t2.place.size = es1.size := by
          have := T2.sz
          rw [List.length_map] at this
          rw [this, z1]
        have again : ∀ M, SetTable.sizeAbove (SetTable.grown (L.length + 1)) - 1 = M → MaskOk M → SetTable.sizeAbove (SetTable.grown (L.length + 1)) ≤ 128 → (L.length + 1) * 5 < M * 3 →
            wpAny (model P w) A (setRelay a (SetTable.grown (L.length + 1))) (fun _ s' => wpAny (model P w) A (pure true) Q E s') E { s with heap := hp } := fun M y1 y2 y3 y4 =>
          mrelay (s := { s with heap := hp }) o1 ⟨hex.1, hex.2.1, hex.2.2⟩ rfl r1 pz T2.dm (by rw [z1, len, m2]; rcases two with ⟨e, e2⟩ | ⟨e, e2⟩ <;> omega) nd tp ld (by omega) y1 y2 y3 (by rw [len]; exact y4)
            fun h2 L2 es2 ep2 t3 sb2 R2 pm2 => wpAny_pure (q true h2 L2 es2 ep2 t3 (sb.trans sb2) R2 (fun y => absurd y z) fun _ => pm2.trans pm)
        rcases two with ⟨_, e2⟩ | ⟨_, e2⟩
        · exact again 31 (by rw [e2, size_20]) (.inr (.inl rfl)) (by rw [e2, size_20]; decide) (by omega)
        · exact again 127 (by rw [e2, size_76]) (.inr (.inr rfl)) (by rw [e2, size_76]; decide) (by omega)
      · first
          | (refine wp_if_neg (by simp [full]) ?_)
          | (refine wpAny_bind ?_; refine wp_if_neg (by simp [full]) ?_; refine wpAny_pure ?_)
        refine wpAny_pure (q true hp L1 es1 (ep + 1) t2 sb ⟨⟨_, o1, ⟨hex.1, hex.2.1, hex.2.2⟩, rfl⟩, r1, T2, nd, tp, ld, ?_, by omega⟩ (fun y => absurd y z) fun _ => pm)
        unfold SetTable.tooFull at full
        rw [decide_eq_true_eq, f2] at full
        rw [len]
        omega
    cases hpl : t1.plain with
    | true =>
      first
        | (refine wpAny_bind ?_; refine wp_if_pos rfl ?_; exact mt_hashBy x rest)
        | exact wp_if_pos rfl (wpAny_bind (mt_hashBy x rest))
    | false =>
      first
        | (refine wpAny_bind ?_; refine wp_if_neg Bool.false_ne_true ?_; exact wpAny_pure (rest true))
        | exact wp_if_neg Bool.false_ne_true (wpAny_bind (wpAny_pure (rest true)))
end
end LW
/-! LwTv: set(list), the list's things being tuples of whole numbers and texts. -/
namespace LW
open PySem PySem.Spec PyProof.Rows L2 PySem.Froz
section
variable {P : Program} {w : World} {A : Around} {R : Result → Shared → Prop} {I : Addr} {fp wr : List Addr} {n : Nat} {cs : List (Addr × List Key)} {St : Nat → Heap → Prop} {a : Addr}
theorem mt_move {h h' : Heap} {k : List Key} {b : Addr} (x : MT P w h k b) (e : ∀ o, h.get? b = some o → h'.get? b = some o) : MT P w h' k b := by
  obtain ⟨o', vs, n, g1, g2, g3, g4⟩ := x
  exact ⟨o', vs, n, e _ g1, g2, g3, g4⟩
/-- the set at a has the parts of l, of the tuples cs -/
def HasM (P : Program) (w : World) (h : Heap) (a : Addr) (cs : List (Addr × List Key)) (l : List (List Key)) (c : Nat) : Prop := ∃ L es ep t, MSet P w h a L es ep t ∧ (∀ k, k ∈ L.map (·.2) ↔ k ∈ l) ∧ (∀ p ∈ L, p ∈ cs) ∧ L.length ≤ c
theorem hasM_move {h h' : Heap} {l : List (List Key)} {c : Nat} (x : HasM P w h a cs l c) (e : ∀ b o, b ∉ wr → h.get? b = some o → h'.get? b = some o) (ha : a ∉ wr) (hw : ∀ p ∈ cs, p.1 ∉ wr) : HasM P w h' a cs l c := by
  obtain ⟨L, es, ep, t, M, hk, sub, lc⟩ := x
  refine ⟨L, es, ep, t, ⟨?_, M.rows, M.tab, M.nd, fun p z => mt_move (M.tup p z) fun o g => e _ _ (hw p (sub p z)) g, M.led, M.room, M.few⟩, hk, sub, lc⟩
  obtain ⟨o, g, r⟩ := M.ob
  exact ⟨o, e a o ha g, r⟩
theorem upd_loopM (W : Walks P w A.in1 I fp wr n (fun i v => ∃ p, cs[i]? = some p ∧ v = .ref p.1) St) (hn : n = cs.length) (few : n < 63) (haf : a ∉ fp) (hcf : ∀ p ∈ cs, p.1 ∉ wr) (hca : ∀ p ∈ cs, p.1 ≠ a) (hu : A.in1.units < cLine) : ∀ (m i : Nat) (s : Shared) (l : List (List Key)), n - i = m → i ≤ n → St i s.heap →
    (∀ p ∈ cs, MT P w s.heap p.2 p.1) → HasM P w s.heap a cs l i →
    (∀ h' tk, (∀ b o, b ≠ a → b ∉ wr → s.heap.get? b = some o → h'.get? b = some o) → HasM P w h' a cs (((cs.drop i).map (·.2)).reverse ++ l) n → R (.ok (.ret .none)) { s with heap := h', toks := tk }) →
    codeAny (model P w) A (.builtin "set.update.loop" ⟨[.ref a, .ref I], []⟩) R s := by
  have haw : a ∉ wr := fun z => haf (W.sub _ z)
  intro m
  induction m with
  | zero =>
    intro i s l hm hi hst mt hs hR
    have hin : i = n := by omega
    refine codeAny_builtin PyProof.Rows.F.entry_set_update_loop ?_
    rw [Around.under_plainId PyProof.Rows.F.plain_set_update_loop _]
    show wpAny _ A.in1 (pyNext (.ref I) >>= _) _ _ s
    refine wpAny_bind (W.done s _ _ (hin ▸ hst) fun h' tk hk' => ?_)
    have q := hR h' tk (fun b o _ hb e => hk' b o hb e)
    rw [List.drop_of_length_le (by rw [hin, hn]; exact Nat.le_refl _)] at q
    show wpAny _ A.in1 (ret Value.none) _ _ _
    rw [hin] at hs
    exact wpAny_pure (q (hasM_move hs hk' haw hcf))
  | succ m ih =>
    intro i s l hm hi hst mt hs hR
    have hlt : i < n := by omega
    refine codeAny_builtin PyProof.Rows.F.entry_set_update_loop ?_
    rw [Around.under_plainId PyProof.Rows.F.plain_set_update_loop _]
    show wpAny _ A.in1 (pyNext (.ref I) >>= _) _ _ s
    refine wpAny_bind (W.item i s _ _ hlt hst fun v h' tk hP hst' hk' => ?_)
    obtain ⟨p, hc, rfl⟩ := hP
    have pm := List.mem_of_getElem? hc
    have hd : cs.drop i = p :: cs.drop (i + 1) := by
      obtain ⟨h1, h2⟩ := List.getElem?_eq_some_iff.mp hc
      rw [List.drop_eq_getElem_cons h1, h2]
    rw [hd] at hR
    have mt' : ∀ p ∈ cs, MT P w h' p.2 p.1 := fun p z => mt_move (mt p z) fun o e => hk' _ o (hcf p z) e
    obtain ⟨L, es, ep, t, M, hk, sub, lf⟩ := hasM_move hs hk' haw hcf
    show wpAny _ A.in1 (holding [Value.ref p.1] (setAdd a (.ref p.1)) >>= _) _ _ _
    refine wpAny_bind (wpAny_holding ?_)
    unfold setAdd
    refine wpAny_holding (wpAny_bind (wpAny_pyHash_tuple (knd := mixKind P w) hu (mt' p pm) ?_))
    refine madd (s := { s with heap := h', toks := _ }) M (mt' p pm) hu (by omega) fun c h2 L2 es2 ep2 t2 sb M2 same more => ?_
    have hs2 : HasM P w h2 a cs (p.2 :: l) (i + 1) := by
      refine ⟨L2, es2, ep2, t2, M2, ?_, ?_, ?_⟩
      · intro k
        by_cases y : p.2 ∈ L.map (·.2)
        · rw [same y, hk, List.mem_cons]
          refine ⟨.inr, fun z => z.elim (fun e => ?_) id⟩
          rw [e]
          exact (hk _).mp y
        · rw [((more y).map (·.2)).mem_iff, List.map_cons, List.mem_cons, List.mem_cons, hk]
      · intro x z
        by_cases y : p.2 ∈ L.map (·.2)
        · rw [same y] at z
          exact sub x z
        · rcases List.mem_cons.mp ((more y).mem_iff.mp z) with rfl | z
          · exact pm
          · exact sub x z
      · by_cases y : p.2 ∈ L.map (·.2)
        · rw [same y]; omega
        · rw [(more y).length_eq, List.length_cons]; omega
    have mt2 : ∀ p ∈ cs, MT P w h2 p.2 p.1 := fun p z => mt_move (mt' p z) fun o e => (sb.2 _ (hca p z)).trans e
    have st2 : St (i + 1) h2 := W.frame (i + 1) h' h2 hst' fun b hb o e => (sb.2 b fun z => haf (z ▸ hb)).trans e
    refine wpAny_pure ⟨plainId_quiet PyProof.Rows.F.plain_set_update_loop _, ih (i + 1) { s with heap := h2, toks := _ } (p.2 :: l) (by omega) hlt st2 mt2 hs2 fun h3 tk3 k3 H3 => ?_⟩
    refine hR h3 tk3 (fun b o h1 h2' e => k3 b o h1 h2' ((sb.2 b h1).trans (hk' b o h2' e))) ?_
    rw [List.map_cons, List.reverse_cons, List.append_assoc]
    exact H3
end
theorem tab_nil (f m : Nat) (b : Bool) : TabOk (.fresh f m b) [] := ⟨by unfold Ris; exact List.Pairwise.nil, rfl, rfl, .inl rfl, fun _ z => (by cases z), fun i h j z => (by cases z)⟩
section
variable {P : Program} {w : World} {A : Around} {E : Value → Shared → Prop} {s : Shared}
/-- set(list) -/
theorem call_set_tups {l : Addr} {items : Array Value} {cs : List (Addr × List Key)} {Q : Value → Shared → Prop} (hh : A.handled = none) (hu : A.units + 8 < cLine) (hl : s.heap.IsList l items) (hisz : items.size = cs.length) (hval : ∀ (i : Nat) (v : Value), items[i]? = some v → ∃ p, cs[i]? = some p ∧ v = .ref p.1) (mt : ∀ p ∈ cs, MT P w s.heap p.2 p.1) (few : items.size < 63)
    (h : ∀ (h' : Heap) (tk : Nat), HasM P w h' s.heap.objs.size cs ((cs.map (·.2)).reverse ++ []) items.size →
      (∀ b o, s.heap.get? b = some o → h'.get? b = some o) → Q (.ref s.heap.objs.size) { s with heap := h', toks := tk }) :
    wpAny (model P w) A (call (.type "set") [.ref l]) Q E s := by
  obtain ⟨c, tl, hmro⟩ := PySem.F.called_set.mro
  have hmade := PySem.F.called_set.made
  have hsub := PySem.F.called_set.sub
  refine wpAny_call (codeAny_of_tree ?_)
  show wpAny _ _ (callAny (.type "set") _) _ _ _
  refine wpAny_pure ⟨Code.quiet_builtin _ (by decide +kernel), codeAny_builtin PySem.F.entry_type_call ?_⟩
  rw [Around.under_plain (weight_type_call_type "set" [.ref l] []) rfl]
  have h1 := PySem.F.called_set.notType
  have h2 := PySem.F.called_set.canCreate
  have hct := PySem.F.typeCall_set_1 (.ref l)
  repeat (any_goals (first | assumption | wp_step))
  generalize hO : ({ cls := .type "set", dict := none, data := .set #[] 0 (.fresh 0 0 (!w.params.followText "set-order")) } : Obj) = O
  refine codeAny_mono (set_made (.ref l) (E := E) (Q := fun obj s1 => obj = .ref s.heap.objs.size ∧ s1 = { s with heap := s.heap.push O }) ⟨rfl, by rw [← hO]⟩) fun r s1 hr => ?_
  cases r with
  | error e => exact hr
  | ok fl =>
    cases fl with
    | ret obj =>
      obtain ⟨rfl, rfl⟩ := hr
      have hOc : O.cls = .type "set" := by rw [← hO]
      have hS : (s.heap.push O).get? s.heap.objs.size = some O := Heap.get?_push_size _ (by rw [← hO]; rfl)
      have hT : Shared.TypeIs { s with heap := s.heap.push O } (.ref s.heap.objs.size) "set" := ⟨_, hS, hOc⟩
      have hli := PySem.F.called_set.init.lookup
      have hbi := PySem.F.called_set.init.bind (.ref s.heap.objs.size)
      repeat (any_goals (first | assumption | wp_step))
      refine codeAny_mono (codeAny_call_builtin (R := wants (fun r s2 => r = .none ∧ ∃ h' tk, s2 = { s with heap := h', toks := tk } ∧ HasM P w h' s.heap.objs.size cs ((cs.map (·.2)).reverse ++ []) items.size ∧
          (∀ b o, s.heap.get? b = some o → h'.get? b = some o)) E) PySem.F.called_set.init.plain PySem.F.entry_set_init (check_set_init_1 hT ?_)) fun r2 s2 hr2 => ?_
      · obtain ⟨ol, hol, hcl, nl, hdl⟩ := hl
        obtain ⟨ocls, odict, odata, oslots⟩ := ol
        simp only at hcl hdl
        subst hcl; subst hdl
        have hol' : (s.heap.push O).get? l = some { cls := .type "list", dict := odict, data := .seq items nl, slots := oslots } := Heap.get?_push_of_some _ hol
        have hsls := PySem.F.sub_list_set
        have hslf := PySem.F.sub_list_frozenset
        have hne : (Value.type "list" == Value.type "dict") = false := by decide
        have hl1 : (s.heap.push O).IsList l items := ⟨_, hol', rfl, nl, rfl⟩
        subst hO
        unfold Builtin.«set.__init__» noKeywords Builtin.Frozenset.updateFrom
        generalize hPI : pyIter = PI
        wp_walk
        subst hPI
        refine wpAny_pyIter_list hl1 ?_
        refine wpAny_bind (wpAny_runValue ?_)
        have hlS : l < s.heap.objs.size := Heap.lt_size hol
        have hh3 : A.in1.in1.in1.handled = none := by simp [hh]
        have hneI : l ≠ (s.heap.push { cls := .type "set", dict := none, data := .set #[] 0 (.fresh 0 0 (!w.params.followText "set-order")) }).objs.size := by
          rw [Heap.size_push]; exact Nat.ne_of_lt (Nat.lt_succ_of_lt hlS)
        have hSf : s.heap.objs.size ∉ [(s.heap.push { cls := .type "set", dict := none, data := .set #[] 0 (.fresh 0 0 (!w.params.followText "set-order")) }).objs.size, l] := by
          rw [Heap.size_push]; simp only [List.mem_cons, List.mem_singleton, List.not_mem_nil, or_false, not_or]
          exact ⟨Nat.ne_of_lt (Nat.lt_succ_self _), Nat.ne_of_gt hlS⟩
        have W := (Walks.list (prog := P) (w := w) hh3 _ l hneI items).mono_item (P' := fun i v => ∃ p, cs[i]? = some p ∧ v = .ref p.1) fun i v _ hv => hval i v hv
        have hG : ∀ o', ((s.heap.push { cls := .type "set", dict := none, data := .set #[] 0 (.fresh 0 0 (!w.params.followText "set-order")) }).push o').get? s.heap.objs.size = some (sObj "set" (#[], 0, .fresh 0 0 (!w.params.followText "set-order"))) := fun o' => Heap.get?_push_of_some _ hS
        have big : ∀ p ∈ cs, p.1 < s.heap.objs.size := fun p z => let ⟨_, _, _, g, _⟩ := mt p z; Heap.lt_size g
        refine upd_loopM W hisz few hSf (fun p z => ?_) (fun p z => Nat.ne_of_lt (big p z)) (by simp [Around.in1_units]; omega) (items.size - 0) 0 _ [] rfl (Nat.zero_le _) ⟨⟨_, Heap.get?_push_size _ rfl, rfl, rfl⟩, hl1.push _⟩ (fun p z => mt_move (mt p z) fun o e => Heap.get?_push_of_some _ (Heap.get?_push_of_some _ e)) ⟨[], #[], 0, .fresh 0 0 (!w.params.followText "set-order"), ⟨⟨_, hG _, ⟨rfl, rfl, rfl⟩, rfl⟩, rfl, tab_nil _ _ _, List.nodup_nil, (fun _ z => nomatch z), ?_, (show 0 * 5 < 7 * 3 by decide), (show 0 < 64 by decide)⟩, fun k => Iff.rfl, (fun _ z => nomatch z), Nat.le_refl _⟩ fun h' tk k' H' => ?_
        · rw [Heap.size_push, List.mem_singleton]
          exact Nat.ne_of_lt (Nat.lt_succ_of_lt (big p z))
        · show _ ∨ (!w.params.followText "set-order") = true
          cases w.params.followText "set-order"
          · exact .inr rfl
          · exact .inl rfl
        · show wpAny _ _ _ _ _ _
          refine wpAny_pure ?_
          show wpAny _ _ (ret Value.none) _ _ _
          refine wpAny_pure ⟨rfl, h', tk, rfl, H', fun b o' e => ?_⟩
          have hlt := Heap.lt_size e
          refine k' b o' (Nat.ne_of_lt hlt) ?_ (Heap.get?_push_of_some _ (Heap.get?_push_of_some _ e))
          rw [Heap.size_push, List.mem_singleton]
          exact Nat.ne_of_lt (Nat.lt_succ_of_lt hlt)
      · cases r2 with
        | error e => exact hr2
        | ok fl2 =>
          cases fl2 with
          | ret r =>
            obtain ⟨rfl, h', tk, rfl, g1, g2⟩ := hr2
            repeat (any_goals (first | assumption | wp_step))
            exact h _ _ g1 g2
          | _ => exact hr2.elim
    | _ => exact hr.elim
end
end LW
/-! LwTw: len(set(list)) of signs, whole numbers, tuples. -/
namespace LW
open PySem PySem.Spec PyProof.Rows L2 PySem.Froz
def toKey : Int ⊕ List Nat → Key
  | .inl i => .inl i
  | .inr s => .inr ⟨s.toArray⟩
theorem toKey_inj {x y : Int ⊕ List Nat} (h : toKey x = toKey y) : x = y := by
  cases x with
  | inl i =>
    cases y with
    | inl j => simp only [toKey, Sum.inl.injEq] at h; rw [h]
    | inr t => cases h
  | inr s =>
    cases y with
    | inl j => cases h
    | inr t =>
      simp only [toKey, Sum.inr.injEq, Str.mk.injEq] at h
      have := congrArg Array.toList h
      simp at this
      rw [this]
theorem toKeys_inj : ∀ {x y : List (Int ⊕ List Nat)}, x.map toKey = y.map toKey → x = y
  | [], [], _ => rfl
  | [], _ :: _, h => by cases h
  | _ :: _, [], h => by cases h
  | a :: x, b :: y, h => by
    rw [List.map_cons, List.map_cons] at h
    obtain ⟨h1, h2⟩ := List.cons.inj h
    rw [toKey_inj h1, toKeys_inj h2]
section
variable {α : Type} [DecidableEq α]
theorem ddm {c : α} : ∀ {l : List α}, c ∈ dedup l ↔ c ∈ l
  | [] => Iff.rfl
  | x :: r => by
    simp only [dedup, List.mem_cons, List.mem_filter, ddm (l := r), decide_eq_true_eq]
    by_cases e : c = x <;> simp [e]
theorem ddn : ∀ l : List α, (dedup l).Nodup
  | [] => List.nodup_nil
  | x :: r => by
    simp only [dedup]
    exact List.nodup_cons.mpr ⟨fun z => by simp at z, (ddn r).filter _⟩
theorem nd_le : ∀ {l m : List α}, l.Nodup → (∀ k ∈ l, k ∈ m) → l.length ≤ m.length
  | [], m, _, _ => Nat.zero_le _
  | x :: l, m, h, s => by
    obtain ⟨h1, h2⟩ := List.nodup_cons.mp h
    have hx := s x List.mem_cons_self
    have := nd_le (m := m.erase x) h2 fun k z => (List.mem_erase_of_ne (fun (e : k = x) => h1 (by rw [← e]; exact z))).mpr (s k (List.mem_cons_of_mem _ z))
    rw [List.length_erase_of_mem hx] at this
    have : 0 < m.length := List.length_pos_of_mem hx
    simp only [List.length_cons]
    omega
theorem nd_eq {l m : List α} (h1 : l.Nodup) (h2 : m.Nodup) (h : ∀ k, k ∈ l ↔ k ∈ m) : l.length = m.length := Nat.le_antisymm (nd_le h1 fun k z => (h k).mp z) (nd_le h2 fun k z => (h k).mpr z)
end
section
variable {C : Cn} {W : XK} {X : Cx} {a : Expr} {fa : Ex} {p p2 pos pos2 : Pos} {ρ : Rho} {H : Hp} {m : Mem}
theorem items_mk : ∀ {ds : List D} {k : List (Int ⊕ List Nat)} {xs : List V} {its : List Value}, tkL ds = some k → RepL C ρ H ds xs → Vals xs its → ItemsAre (mixKind X.prog X.w) (k.map toKey) its
  | [], k, xs, its, e, r, v => by
    simp only [tkL] at e
    cases e
    simp only [RepL] at r
    subst r
    cases v
    exact .nil
  | d :: ds, k, xs, its, e, r, v => by
    simp only [RepL] at r
    obtain ⟨x, xs', rfl, r1, r2⟩ := r
    cases v with
    | cons v1 v2 =>
      cases d with
      | int i =>
        simp only [tkL] at e
        obtain ⟨k', e', rfl⟩ := Option.map_eq_some_iff.mp e
        have := r1.int_at
        subst this
        obtain ⟨t, rfl⟩ := v1
        exact .cons (mixKind_int _ _ i t) (items_mk e' r2 v2)
      | str s =>
        simp only [tkL] at e
        obtain ⟨k', e', rfl⟩ := Option.map_eq_some_iff.mp e
        obtain ⟨e1, _⟩ := r1.str_at
        subst e1
        obtain ⟨t, rfl⟩ := v1
        exact .cons (mixKind_str _ _ _ t) (items_mk e' r2 v2)
      | _ => cases e
def MtAt (X : Cx) (H : Hp) (b : Addr) (k : List Key) : Prop := ∀ (pins : List (Addr × Obj)) (σ : St) (s : Shared), Inv X pins σ H s → MT X.prog X.w s.heap k b
theorem mtAt_of (hK : C.K = X.K) {ds : List D} {k : List (Int ⊕ List Nat)} {b : Addr} (r : RepV C ρ H (.tup ds) (.ref b)) (e : tkL ds = some k) : MtAt X H b (k.map toKey) := fun pins σ s I => by
  obtain ⟨a, xs, ea, sq, rl⟩ := r.tup_sq
  cases ea
  rw [hK] at sq
  obtain ⟨its, v, ⟨o, g1, g2, n, g3⟩, _⟩ := I.tuple sq
  exact ⟨o, its.toArray, n, g1, g2, g3, by simpa using items_mk e rl v⟩
theorem mts_of (hK : C.K = X.K) : ∀ {ds : List D} {ks : List (List (Int ⊕ List Nat))} {xs : List V}, tksOf ds = some ks → RepL C ρ H ds xs → ∃ cs : List (Addr × List Key), xs = cs.map (fun p => V.ref p.1) ∧ cs.map (·.2) = ks.map (·.map toKey) ∧ ∀ p ∈ cs, MtAt X H p.1 p.2
  | [], ks, xs, e, r => by
    simp only [tksOf] at e
    cases e
    simp only [RepL] at r
    exact ⟨[], r, rfl, fun _ z => nomatch z⟩
  | d :: ds, ks, xs, e, r => by
    simp only [RepL] at r
    obtain ⟨x, xs', rfl, r1, r2⟩ := r
    cases d with
    | tup es =>
      simp only [tksOf] at e
      obtain ⟨k, e1, e2⟩ := Option.bind_eq_some_iff.mp e
      obtain ⟨l, e3, rfl⟩ := Option.map_eq_some_iff.mp e2
      obtain ⟨b, _, rfl, _⟩ := id r1.tup_sq
      obtain ⟨cs, h1, h2, h3⟩ := mts_of hK e3 r2
      refine ⟨(b, k.map toKey) :: cs, by rw [h1]; rfl, by rw [List.map_cons, List.map_cons, h2], fun q z => ?_⟩
      rcases List.mem_cons.mp z with rfl | z
      · exact mtAt_of hK r1 e1
      · exact h3 q z
    | _ => cases e
def tLenY (X : Cx) (ta : TE) : TE := fun σ H Q => ta σ H fun x H1 => ∃ l : Addr, x = .ref l ∧ ((∃ cs : List Nat, SqL X.K H1 l (cs.map fun c => .str (sing c)) ∧ cs.length < 4000 ∧ Q (.int (dedup cs).length) H1) ∨ (∃ ns : List Int, SqL X.K H1 l (ns.map V.int) ∧ ns.length < 4000 ∧ Q (.int (dedup ns).length) H1) ∨
  (∃ cs : List (Addr × List Key), SqL X.K H1 l (cs.map fun p => .ref p.1) ∧ (∀ p ∈ cs, MtAt X H1 p.1 p.2) ∧ cs.length < 63 ∧ Q (.int (dedup (cs.map (·.2))).length) H1))
theorem pe_lenY {ta : TE} (hu : X.A.units + 64 < cLine) (hc : X.calm = true) (hg : Gl X "len") (hm : X.mg "len" = none) (hg2 : Gl X "set") (hm2 : X.mg "set" = none) (ha : PE X a ta)
    (na : starEach [a] X.env = (false, eval a X.env) :: starEach [] X.env := by rfl) : PE X (.Call (.Name "len" p) [.Call (.Name "set" p2) [a] [] pos2] [] pos) (tLenY X ta) := by
  refine ⟨fun pins s σ H Q I h => ?_⟩
  refine Call_ (ld_blt I hg hm boot_len (PyProof.Rows.callWith_builtin1 (PyProof.Rows.args_cons ?_ rfl) rfl rfl))
  refine Call_ (ld_blt I hg2 hm2 boot_set (PyProof.Rows.callWith_type1 (PyProof.Rows.args_cons (thn (ha.run pins s σ H _ I h) fun v s1 ⟨x, H1, I1, r1, q1⟩ => PyProof.Rows.args_nil ?_) na) na rfl))
  obtain ⟨l, rfl, q1⟩ := q1
  cases r1
  rcases q1 with ⟨cs, sq, hz, q1⟩ | ⟨ns, sq, hz, q1⟩ | ⟨cs, sq, mt, hz, q1⟩
  · obtain ⟨its, rv, hl, _⟩ := I1.list sq
    have hlen : its.length = cs.length := by have := rv.length; rw [List.length_map] at this; exact this.symm
    refine call_set_signs (items := its.toArray) (cs := cs) (I1.ok.hd hc) hl.isList (by simpa using hlen) (fun i v hv => ?_) (by unfold scanBound; omega) fun h' tk G g1 g2 g3 g4 => PyProof.Rows.args_nil ?_
    · have hv' : its[i]? = some v := by simpa using hv
      obtain ⟨x, hx, rx⟩ := vals_get rv hv'
      rw [List.getElem?_map] at hx
      obtain ⟨c, hc', rfl⟩ := Option.map_eq_some_iff.mp hx
      obtain ⟨t, rfl⟩ := rx
      exact ⟨c, t, hc', rfl⟩
    have I2 : Inv X pins σ H1 { s1 with heap := h', toks := tk } := I1.kept g4
    have hsz : G.1.size = (dedup cs).length := by rw [g2.sz, fold_len]
    have hle : (dedup cs).length < 4000 := by
      have h1 := dedup_le cs
      omega
    exact call_len_set g1 ⟨rfl, rfl, rfl⟩ rfl g2.fit (by rw [hsz]; omega) ⟨.int (dedup cs).length, H1, I2.tok _, ⟨_, by rw [hsz]⟩, q1⟩
  · obtain ⟨its, r, pl, _⟩ := I1.list sq
    have hlen : its.toArray.size = ns.length := by rw [List.size_toArray, ← r.length, List.length_map]
    refine call_set_list (I1.ok.hd hc) pl.isList (by simpa using RZ.intsAre_vals r) (by rw [hlen]; unfold scanBound; omega) fun h' tk hS hk => ?_
    refine PyProof.Rows.args_nil ?_
    rw [hlen] at hS
    have ml := met_len ns
    have ml2 := firstMet_length_le (fun i => ns.getD i 0) ns.length
    obtain ⟨o, es, ep, t, ho, hex, hd, _, _, _, hf, hn⟩ := hS
    have I2 : Inv X pins σ H1 { s1 with heap := h', toks := tk } := I1.kept fun b o e => hk b o (Heap.lt_size e) e
    exact call_len_set ho hex hd hf (by rw [hn]; omega) ⟨.int (dedup ns).length, H1, I2.tok _, ⟨_, by rw [hn, ml]⟩, q1⟩
  · obtain ⟨its, rv, hl, _⟩ := I1.list sq
    have hlen : its.length = cs.length := by have := rv.length; rw [List.length_map] at this; exact this.symm
    refine call_set_tups (items := its.toArray) (cs := cs) (I1.ok.hd hc) (by omega) hl.isList (by simpa using hlen) (fun i v hv => ?_) (fun q z => mt q z pins σ s1 I1) (by rw [List.size_toArray, hlen]; exact hz) fun h' tk g1 g4 => PyProof.Rows.args_nil ?_
    · have hv' : its[i]? = some v := by simpa using hv
      obtain ⟨x, hx, rx⟩ := vals_get rv hv'
      rw [List.getElem?_map] at hx
      obtain ⟨c, hc', rfl⟩ := Option.map_eq_some_iff.mp hx
      exact ⟨c, hc', rx⟩
    have I2 : Inv X pins σ H1 { s1 with heap := h', toks := tk } := I1.kept g4
    obtain ⟨L, es, ep, t, M, hk, _, hn⟩ := g1
    have hsz : es.size = (dedup (cs.map (·.2))).length := by
      rw [rowsM_len M.rows, ← List.length_map (f := fun p : Addr × List Key => p.2)]
      refine nd_eq M.nd (ddn _) fun k => ?_
      rw [hk, ddm]
      simp
    obtain ⟨o, ho, hex, hd⟩ := M.ob
    have ft := MSet.fits (s := { s1 with heap := h', toks := tk }) M
    have lt := rowsM_len M.rows
    have fw := M.few
    exact call_len_set ho hex hd ft (by omega) ⟨.int (dedup (cs.map (·.2))).length, H1, I2.tok _, ⟨_, by rw [hsz]⟩, q1⟩
theorem dedup_map {α β : Type} [DecidableEq α] [DecidableEq β] {f : α → β} (hf : ∀ x y, f x = f y → x = y) : ∀ l : List α, dedup (l.map f) = (dedup l).map f
  | [] => rfl
  | x :: r => by
    simp only [List.map_cons, dedup, dedup_map hf r, List.filter_map]
    congr 2
    refine List.filter_congr fun y _ => ?_
    simp only [Function.comp_apply, decide_eq_decide]
    exact not_congr ⟨fun e => hf _ _ e, fun e => by rw [e]⟩
theorem de_lenSetY (hK : C.K = X.K) (hu : X.A.units + 64 < cLine) (hc : X.calm = true) (hg : Gl X "len") (hm : X.mg "len" = none) (hg2 : Gl X "set") (hm2 : X.mg "set" = none) (ha : DE C W X a fa) (na : starEach [a] X.env = (false, eval a X.env) :: starEach [] X.env := by rfl) :
    DE C W X (.Call (.Name "len" p) [.Call (.Name "set" p2) [a] [] pos2] [] pos) (unE lenSetY fa) := by
  refine PE.imp (pe_lenY hu hc hg hm hg2 hm2 ha na) ?_
  rintro σ H Q ⟨ρ, g, m, re, rm, h⟩
  refine ⟨ρ, g, m, re, rm, h.bind.imp fun d m1 ρ1 H1 x1 rm1 h1 v r => ?_⟩
  obtain ⟨d', e, q⟩ := h1.opt rm1
  unfold lenSetY at e
  split at e
  · rename_i d2 e2
    cases e
    unfold lenSetX at e2
    split at e2
    case h_2 => cases e2
    rename_i ds hq
    obtain ⟨l, xs, rfl, sq, rl⟩ := lst_read rm1 r hq
    split at e2
    · rename_i cs h2
      split at e2
      · rename_i hl
        cases e2
        rw [signs_of h2 rl, hK] at sq
        exact ⟨l, rfl, .inl ⟨cs, sq, hl, q _ H1 (Same.refl H1) rv_int⟩⟩
      · cases e2
    · split at e2
      · rename_i ns h2
        split at e2
        · rename_i hl
          cases e2
          rw [ints_of h2 rl, hK] at sq
          exact ⟨l, rfl, .inr (.inl ⟨ns, sq, hl, q _ H1 (Same.refl H1) rv_int⟩)⟩
        · cases e2
      · cases e2
  · split at e
    case h_2 => cases e
    rename_i ds hq
    obtain ⟨l, xs, rfl, sq, rl⟩ := lst_read rm1 r hq
    split at e
    · rename_i ks h2
      split at e
      · rename_i hl
        cases e
        obtain ⟨cs, c1, c2, c3⟩ := mts_of hK h2 rl
        rw [c1, hK] at sq
        have len : cs.length = ks.length := by have := congrArg List.length c2; simpa using this
        have dd : (dedup (cs.map (·.2))).length = (dedup ks).length := by
          rw [c2, dedup_map (fun x y => toKeys_inj), List.length_map]
        exact ⟨l, rfl, .inr (.inr ⟨cs, sq, c3, by omega, by rw [dd]; exact q _ H1 (Same.refl H1) rv_int⟩)⟩
      · cases e
    · cases e
end
end LW
/-! LwNc: more operations on data: order. -/
namespace LW
mutual
/-- exact tuples as tuples, all through -/
def D.dn : D → D
  | .tpx ds => .tup (D.dnL ds)
  | .tup ds => .tup (D.dnL ds)
  | .lst ds => .lst (D.dnL ds)
  | d => d
def D.dnL : List D → List D
  | [] => []
  | d :: ds => D.dn d :: D.dnL ds
end
@[simp] def eqW : Op := fun m x y => eqD m x.dn y.dn
@[simp] def neW : Op := fun m x y => neD m x.dn y.dn
/-- tuple + tuple, exact ones -/
@[simp] def addX : Op := fun _ x y => match x, y with
  | .tpx a, .tpx b => if a.length + b.length ≤ lim then some (.tpx (a ++ b)) else none
  | _, _ => none
/-- x[::-1] of a text, of a tuple -/
@[simp] def revD : Un := fun _ x => match x with
  | .str s => some (.str s.reverse)
  | .tup ds => some (.tup ds.reverse)
  | _ => none
/-- {}, that nobody looks into -/
@[simp] def dct0E : Ex := fun _ m => .ok (.ref m.length) (m ++ [.dct [] []])
end LW
/-! LwSd: sorted(list of tuples). -/
namespace LW
open PySem PySem.Spec PyProof.Rows L2 PySem.Froz
section
variable {C : Cn} {W : XK} {X : Cx} {a : Expr} {fa : Ex} {p p2 pos pos2 : Pos} {ρ : Rho} {H : Hp} {m : Mem}
end
end LW
/-! LwSp: sorted(set(list of tuples of whole numbers and texts)). -/
namespace LW
open PySem PySem.Spec PyProof.Rows L2 PySem.Froz
section
variable {P : Program} {w : World} {A : Around} {E : Value → Shared → Prop} {s : Shared}
end
section
variable {C : Cn} {W : XK} {X : Cx} {a : Expr} {fa : Ex} {p p2 pos pos2 : Pos} {ρ : Rho} {H : Hp} {m : Mem}
end
end LW
/-! LwSq: {} as a value. -/
namespace LW
open PySem PySem.Spec PyProof.Rows L2
section
variable {C : Cn} {W : XK} {X : Cx} {pos : Pos}
end
end LW
/-! LwSr: exact tuples: put together, sorted, compared. -/
namespace LW
open PySem PySem.Spec PyProof.Rows L2
section
variable {C : Cn} {W : XK} {X : Cx} {a : Expr} {fa : Ex} {p p2 pos pos2 : Pos} {ρ : Rho} {H : Hp} {m : Mem}
mutual
theorem RepV.dn : ∀ {d : D} {v : V}, RepV C ρ H d v → RepV C ρ H d.dn v
  | .tpx ds, v, h => by
    have h' := h.wk
    simp only [D.dn, RepV] at h' ⊢
    obtain ⟨a, xs, e, h1, h2⟩ := h'
    exact ⟨a, xs, e, h1, RepL.dn h2⟩
  | .tup ds, v, h => by
    simp only [D.dn, RepV] at h ⊢
    obtain ⟨a, xs, e, h1, h2⟩ := h
    exact ⟨a, xs, e, h1, RepL.dn h2⟩
  | .lst ds, v, h => by
    simp only [D.dn, RepV] at h ⊢
    obtain ⟨a, xs, e, n, q, h2⟩ := h
    exact ⟨a, xs, e, n, q, RepL.dn h2⟩
  | .non, _, h => h
  | .bl _, _, h => h
  | .int _, _, h => h
  | .str _, _, h => h
  | .dct _ _, _, h => h
  | .gdz _ _, _, h => h
  | .scr _, _, h => h
  | .ref _, _, h => h
  | .ty _, _, h => h
  | .fn _, _, h => h
  | .exc _, _, h => h
theorem RepL.dn : ∀ {ds : List D} {vs : List V}, RepL C ρ H ds vs → RepL C ρ H (D.dnL ds) vs
  | [], _, h => h
  | d :: ds, vs, h => by
    simp only [D.dnL, RepL] at h ⊢
    obtain ⟨v, r, e, h1, h2⟩ := h
    exact ⟨v, r, e, RepV.dn h1, RepL.dn h2⟩
end
end
end LW
/-! LwRv: x[::-1] of texts and tuples. -/
namespace LW
open PySem PySem.Spec PyProof.Rows L2 HT
section
variable {prog : Program} {w : World} {A : Around} {E : Value → Shared → Prop} {s : Shared}
end
section
variable {C : Cn} {W : XK} {X : Cx} {e : Expr} {fa : Ex} {ρ : Rho} {H : Hp} {m : Mem}
end
end LW
/-! LwRp: text.replace(sign, "") of a sign that a for has just drawn: its token is out and is no other's. Judgements that know it. -/
namespace LW
open PySem PySem.Spec PyProof.Rows L2
section
variable {X : Cx} {J : Shared → St → Prop}
def PEk (X : Cx) (J : Shared → St → Prop) (e : Expr) (t : TE) : Prop := ∀ (pins : List (Addr × Obj)) (s : Shared) (σ : St) (H : Hp) (Q : VK), J s σ → Inv X pins σ H s → t σ H Q → wpAny (model X.prog X.w) X.A (eval e X.env) (EP X pins σ Q) X.xe s
def PIk (X : Cx) (J : Shared → St → Prop) (tg iter : Expr) (wi : TI) : Prop := ∀ (pins : List (Addr × Obj)) (s : Shared) (σ : St) (H : Hp) (R : It → Hp → Prop), J s σ → Inv X pins σ H s → wi σ H R →
  wpAny (model X.prog X.w) X.A (eval iter X.env) (fun v s1 => wpAny (model X.prog X.w) X.A (pyIter v) (PIE X pins σ tg R) X.xe s1) X.xe s
def PSk (X : Cx) (J : Shared → St → Prop) (st : Stmt) (t : TS) : Prop := ∀ (pins : List (Addr × Obj)) (s : Shared) (σ : St) (H : Hp) (D : Ends), J s σ → Inv X pins σ H s → t D σ H → wpAny (model X.prog X.w) X.A (exec st X.env) (SP X pins D) X.xe s
theorem PEk.imp {e : Expr} {t u : TE} (h : PEk X J e t) (f : ∀ σ H Q, u σ H Q → t σ H Q) : PEk X J e u := fun pins s σ H Q j I q => h pins s σ H Q j I (f σ H Q q)
theorem PIk.imp {e tg : Expr} {t u : TI} (h : PIk X J tg e t) (f : ∀ σ H Q, u σ H Q → t σ H Q) : PIk X J tg e u := fun pins s σ H Q j I q => h pins s σ H Q j I (f σ H Q q)
theorem PSk.imp {e : Stmt} {t u : TS} (h : PSk X J e t) (f : ∀ D σ H, u D σ H → t D σ H) : PSk X J e u := fun pins s σ H Q j I q => h pins s σ H Q j I (f Q σ H q)
end
end LW
/-! LwRq: a comprehension, a method's call, a statement, a for, where what is read first knows more. -/
namespace LW
open PySem PySem.Spec PyProof.Rows L2
section
variable {X : Cx} {J : Shared → St → Prop}
end
end LW
/-! LwRr: for sign in text: .. text.replace(sign, "") ..: the walk, over data. -/
namespace LW
open PySem PySem.Spec PyProof.Rows L2
section
variable {X : Cx} {pins : List (Addr × Obj)} {σ : St} {H : Hp} {s : Shared}
end
section
variable {X : Cx} {J : Shared → St → Prop}
end
end LW
/-! LwNd: more operations on data. -/
namespace LW
/-- text.replace(sign, "") of names -/
@[simp] def rplE (k i : Nat) : Ex := fun g m => match g[k]? with
  | some (some (.str a)) => match g[i]? with
    | some (some (.str [c])) => .ok (.str (a.filter fun x => decide (x ≠ c))) m
    | _ => .bad
  | _ => .bad
end LW
namespace LW
/-- t[lo:hi] of an exact tuple -/
@[simp] def slX : Sl := fun _ x lo hi => match x with
  | .tpx ds => some (.tpx (cutD ds lo hi))
  | _ => none
end LW
namespace LW
/-! ### walks of lists that change -/
/-- the turns of a for over the list n as it stands at each turn -/
def forVL (n : Nat) (t : Tg) (b : Sm) : Nat → Nat → Env → Mem → R Out
  | 0, _, _, _ => .bad
  | k + 1, i, g, m => match m[n]? with
    | some (.lst ds) => match ds[i]? with
      | some d => (t d g m).bind fun g1 m1 => (b g1 m1).bind fun o m2 => match o with
        | .nx g2 => forVL n t b k (i + 1) g2 m2
        | .ct g2 => forVL n t b k (i + 1) g2 m2
        | .bk g2 => .ok (.nx g2) m2
        | .rt d => .ok (.rt d) m2
      | none => .ok (.nx g) m
    | _ => .bad
@[simp] def forVS (N : Nat) (a : Ex) (t : Tg) (b : Sm) : Sm := fun g m => (a g m).bind fun x m1 => match x with
  | .ref n => forVL n t b N 0 g m1
  | _ => .bad
def lcVL (n : Nat) (t : Tg) (c : Ts) (e : Ex) (g : Env) : Nat → Nat → Mem → R (List D)
  | 0, _, _ => .bad
  | k + 1, i, m => match m[n]? with
    | some (.lst ds) => match ds[i]? with
      | none => .ok [] m
      | some d => if i < lim then (t d g m).bind fun g1 m1 => (c g1 m1).bind fun x m2 => if x then (e g1 m2).bind fun y m3 => (lcVL n t c e g k (i + 1) m3).bind fun ys m4 => .ok (y :: ys) m4 else lcVL n t c e g k (i + 1) m2 else .bad
    | _ => .bad
@[simp] def lcVE (N : Nat) (a : Ex) (own : List Nat) (t : Tg) (c : Ts) (e : Ex) : Ex := fun g m => (a g m).bind fun x m1 => match x with
  | .ref n => (lcVL n t c e (wipeD g own) N 0 m1).bind fun ys m2 => .ok (.lst ys) m2
  | _ => .bad
/-! ### dicts whose keys are texts -/
/-- {k1: v1, k2: v2} -/
@[simp] def dct2T (k1 v1 k2 v2 : Ex) : Ex := fun g m => (k1 g m).bind fun a1 m1 => (v1 g m1).bind fun b1 m2 => (k2 g m2).bind fun a2 m3 => (v2 g m3).bind fun b2 m4 => match a1, a2 with
  | .str s1, .str s2 => if s1 ≠ s2 then .ok (.ref m4.length) (m4 ++ [.dct [.str s1, .str s2] [b1, b2]]) else .bad
  | _, _ => .bad
@[simp] def pairsT : List D → Option (List (List Nat × D))
  | [] => some []
  | .tup [.str s, v] :: r => (pairsT r).map fun l => (s, v) :: l
  | _ => none
/-- dict(list of pairs) -/
@[simp] def dictT (f : Ex) : Ex := fun g m => (f g m).bind fun d m1 => match lstOf m1 d with
  | some ds => match pairsT ds with
    | some l => if (l.map (·.1)).Nodup then .ok (.ref m1.length) (m1 ++ [.dct (l.map fun p => .str p.1) (l.map (·.2))]) else .bad
    | none => .bad
  | none => .bad
/-- min(d.values()) -/
@[simp] def minVT (f : Ex) : Ex := fun g m => (f g m).bind fun d m1 => match d with
  | .ref n => match m1[n]? with
    | some (.dct ks vs) => match ks with
      | .str _ :: _ => match intsOf vs with
        | some (i :: is) => .ok (.int (is.foldl min i)) m1
        | _ => .bad
      | _ => .bad
    | _ => .bad
  | _ => .bad
/-- d[k] of a dict that nobody changes -/
@[simp] def dsubZ : Op := fun _ x y => match x, y with
  | .dct ks vs, .str s => tfind s ks vs
  | _, _ => none
/-- dict(zip(text, text)) -/
@[simp] def dzipZ (a b : Ex) : Ex := fun g m => (a g m).bind fun x m1 => (b g m1).bind fun y m2 => match x, y with
  | .str s, .str t => if s.Nodup ∧ s.length = t.length ∧ s.length < 64 then .ok (.dct (s.map fun c => .str [c]) (t.map fun c => .str [c])) m2 else .bad
  | _, _ => .bad
/-- a list == [], != [] -/
@[simp] def isE0 : Un := fun m x => (lstOf m x).map fun ds => .bl ds.isEmpty
@[simp] def noE0 : Un := fun m x => (lstOf m x).map fun ds => .bl (!ds.isEmpty)
end LW
namespace LW
/-- == of lists that change, exact tuples in them -/
@[simp] def D.nowX (m : Mem) : D → D
  | .ref n => match m[n]? with | some (.lst ds) => .lst (D.dnL ds) | _ => .ref n
  | d => D.now m d.dn
@[simp] def eqX : Op := fun m x y => if D.sh 9 (x.nowX m) && D.sh 9 (y.nowX m) then some (.bl (D.eqv (x.nowX m) (y.nowX m))) else none
@[simp] def neX : Op := fun m x y => if D.sh 9 (x.nowX m) && D.sh 9 (y.nowX m) then some (.bl (!D.eqv (x.nowX m) (y.nowX m))) else none
end LW
/-! LwRt: for sign in text: made.extend([.. for rest in f(text.replace(sign, ""))]) over data. -/
namespace LW
open PySem PySem.Spec PyProof.Rows L2
section
variable {C : Cn} {W : XK} {X : Cx} {J : Shared → St → Prop} {pos : Pos}
theorem PSsT.imp {sts : List Stmt} {t u : TS} (h : PSsT X sts t) (f : ∀ D σ H, u D σ H → t D σ H) : PSsT X sts u := fun pins s σ H D k I q => h pins s σ H D k I (f D σ H q)
end
end LW
/-! LwSw: sorted(text) over data. -/
namespace LW
open PySem PySem.Spec PyProof.Rows L2 PySem.Froz
section
variable {P : Program} {w : World} {A : Around} {E : Value → Shared → Prop} {s : Shared}
end
section
variable {C : Cn} {W : XK} {X : Cx} {a : Expr} {fa : Ex} {p pos : Pos}
end
end LW
/-! LwDf: dicts whose keys are texts: two keys, dict(pairs), min(d.values()), d[k]. -/
namespace LW
open PySem PySem.Spec PyProof.Rows L2
section
variable {C : Cn} {W : XK} {X : Cx} {a b c o : Expr} {fa fb fc : Ex} {p pos apos mpos : Pos} {td : TE} {ρ : Rho} {H : Hp} {m : Mem}
end
end LW
/-! LwVw: walks of lists that change; a list against []. -/
namespace LW
open PySem PySem.Spec PyProof.Rows L2
section
variable {C : Cn} {W : XK} {X : Cx} {a b c o : Expr} {fa fb fc : Ex} {pos : Pos} {tg : Tg} {t : Ts}
theorem ds_forV {te iter : Expr} {body : List Stmt} {fi : Ex} {fb : Sm} {N : Nat} (hK : C.K = X.K) (hp : PassesOwn (model X.prog X.w) X.A X.env X.xe) (hc : X.calm = true) (hi : DE C W X iter fi) (hg : DG C W X te tg) (hb : DSs C W X body fb)
    (hs : ∀ x, foldedSetIterable iter X.env x = pure x := by intro _; rfl) : DS C W X (.For te iter body [] pos) (forVS N fi tg fb) := by
  refine PS.imp (ps_for hp hc (pi_list hi) hg hb hs) ?_
  rintro M σ H ⟨ρ, g, m, re, rm, h⟩
  refine ⟨ρ, g, m, re, rm, h.bind.imp fun d m1 ρ1 H1 x1 rm1 h1 v r => ?_⟩
  cases d with
  | ref n =>
    dsimp only at h1
    have r0 := r
    simp only [RepV] at r0
    obtain ⟨p, rfl, ad⟩ := r0
    have hn : ∃ ds, m1[n]? = some (.lst ds) := by
      cases N with
      | zero => exact h1.elim
      | succ N =>
        rw [forVL] at h1
        split at h1
        · rename_i ds e; exact ⟨ds, e⟩
        · exact h1.elim
    obtain ⟨ds0, hn⟩ := hn
    obtain ⟨p2, xs0, e2, hl0, sq0, rl0⟩ := rm1.lst_at r hn
    cases e2
    refine ⟨p, rfl, ⟨xs0, .inl (.inl sq0)⟩, fun i k σ' H' => ∃ ρ' g' m', Ext ρ1 H1 ρ' H' ∧ RepE C ρ' H' g' σ' ∧ RepM C ρ' H' m' ∧ fin C ρ' H' W (forVL n tg fb k i g' m') (outK C M), ⟨N, ρ1, g, m1, .refl _ _, re.ext x1, rm1, h1⟩, ?_⟩
    rintro i k σ' H' ⟨ρ', g', m', x', re', rm', h'⟩
    cases k with
    | zero => exact h'.elim
    | succ k =>
      rw [forVL] at h'
      split at h'
      · rename_i ds e
        obtain ⟨p3, xs, e3, hl, sq, rl⟩ := rm'.lst_at (r.ext x') e
        cases e3
        have sq' : SqL X.K H' p xs := .inl (.inl sq)
        split at h'
        · rename_i d hd
          obtain ⟨x, hx, rv⟩ := rl.get hd
          refine .inr ⟨⟨xs, x, sq', hx⟩, fun σ2 H2 => ∃ ρ2 g2 m2, Ext ρ1 H1 ρ2 H2 ∧ RepE C ρ2 H2 g2 σ2 ∧ RepM C ρ2 H2 m2 ∧ fin C ρ2 H2 W (forVL n tg fb k (i + 1) g2 m2) (outK C M),
            fun σ2 H2 ⟨ρ2, g2, m2, q⟩ => ⟨k, Nat.lt_succ_self _, ρ2, g2, m2, q⟩, fun v H2 y => ?_⟩
          obtain ⟨rfl, hy⟩ := y
          have ev : v = x := by
            have := hy xs sq'
            rw [hx] at this
            exact (Option.some.inj this).symm
          subst ev
          refine ⟨ρ', g', m', d, re', rm', rv, (fin.bind h').imp fun g2 m2 ρ2 H3 x3 rm3 h3 σ3 re3 => ?_⟩
          refine ⟨ρ2, g2, m2, re3, rm3, (fin.bind h3).imp fun o m4 ρ4 H4 x4 rm4 h4 => ?_⟩
          have x5 : Ext ρ1 H1 ρ4 H4 := x'.trans (x3.trans x4)
          cases o with
          | nx g4 => exact fun σ4 re4 => ⟨ρ4, g4, m4, x5, re4, rm4, h4⟩
          | ct g4 => exact fun σ4 re4 => ⟨ρ4, g4, m4, x5, re4, rm4, h4⟩
          | bk g4 => exact fun σ4 re4 => fin.now rm4 h4 σ4 re4
          | rt d => exact fun v r => fin.now rm4 h4 v r
        · rename_i hd
          refine .inl ⟨⟨xs, sq', ?_⟩, fin.now rm' h' σ' re'⟩
          have := rl.length
          have h0 := List.getElem?_eq_none_iff.mp hd
          omega
      · exact h'.elim
  | _ => exact h1.elim
theorem lcv_of {fi : Ex} {fe : Ex} {own : List Nat} {g0 : TG} {N : Nat} (hK : C.K = X.K) (tx : TgX C own g0 tg) (σ : St) (H : Hp) (Q : VK) (h : tD C W (lcVE N fi own tg t fe) σ H Q) :
    tLc (iList X.K (tD C W fi)) g0 (tDT C W t) (tD C W fe) own σ H Q := by
  obtain ⟨ρ, g, m, re, rm, h⟩ := h
  refine ⟨ρ, g, m, re, rm, h.bind.imp fun d m1 ρ1 H1 x1 rm1 h1 v r => ?_⟩
  cases d with
  | ref n =>
    dsimp only at h1
    have r0 := r
    simp only [RepV] at r0
    obtain ⟨p, rfl, ad⟩ := r0
    have hn : ∃ ds, m1[n]? = some (.lst ds) := by
      cases N with
      | zero => exact h1.elim
      | succ N =>
        rw [lcVL] at h1
        split at h1
        · rename_i ds e; exact ⟨ds, e⟩
        · exact h1.elim
    obtain ⟨ds0, hn⟩ := hn
    obtain ⟨p2, xs0, e2, hl0, sq0, rl0⟩ := rm1.lst_at r hn
    cases e2
    refine ⟨p, rfl, ⟨xs0, .inl (.inl sq0)⟩, fun L hL => ?_⟩
    have w0 := (re.ext x1).wipe own
    have x0 : Ext ρ1 H1 (ρ1.hide L) (upd H1 L (.lst [])) := ext_hide hL
    refine ⟨fun i k H' => ∃ (ρ' : Rho) (m' : Mem) (acc : List D) (xs : List V), Ext ρ1 H1 ρ' H' ∧ L ∈ ρ'.z ∧ H' L = some (.lst xs) ∧ acc.length ≤ i ∧ RepL C ρ' H' acc xs ∧ RepM C ρ' H' m' ∧
        fin C ρ1 H1 W ((lcVL n tg t fe (wipeD g own) k i m').bind fun ys m2 => .ok (D.lst (acc ++ ys)) m2) (fun d m2 ρ2 H2 => ∀ v, RepV C ρ2 H2 d v → Q v H2),
      ⟨N, ρ1.hide L, m1, [], [], x0, List.mem_cons_self, upd_same, Nat.zero_le _, by simp only [RepL], rm1.hide hL, h1⟩, ?_⟩
    rintro i k H' ⟨ρ', m', acc, xs, x', hLz, hLx, hac, rl, rm', h'⟩
    cases k with
    | zero => exact h'.elim
    | succ k =>
      rw [lcVL] at h'
      split at h'
      · rename_i ds e
        obtain ⟨p3, zs, e3, hl, sq, rlz⟩ := rm'.lst_at (r.ext x') e
        cases e3
        have sq' : SqL X.K H' p zs := .inl (.inl sq)
        split at h'
        · rename_i hd
          refine .inl ⟨⟨zs, sq', ?_⟩, ?_⟩
          · have := rlz.length
            have h0 := List.getElem?_eq_none_iff.mp hd
            omega
          · simp only [R.bind_ok, List.append_nil] at h'
            refine h' (ρ'.show L) H' (ext_show x' hL) rm'.show _ ?_
            simp only [RepV]
            refine ⟨L, xs, rfl, fun hl => ?_, hLx, show_extL rl⟩
            rcases lives_show.mp hl with z | z
            · exact (rm'.hid L hLz).2 z
            · exact z.2 rfl
        · rename_i d hd
          split at h'
          case isFalse => exact h'.elim
          rename_i hil
          have hil' : i < sizeLine := by rw [← lim_eq]; exact hil
          obtain ⟨x, hx, rv⟩ := rlz.get hd
          refine .inr ⟨⟨zs, x, sq', hx⟩, fun H2 => ∃ (ρ2 : Rho) (m2 : Mem) (acc2 : List D) (xs2 : List V), Ext ρ1 H1 ρ2 H2 ∧ L ∈ ρ2.z ∧ H2 L = some (.lst xs2) ∧ acc2.length ≤ i + 1 ∧ RepL C ρ2 H2 acc2 xs2 ∧ RepM C ρ2 H2 m2 ∧
            fin C ρ1 H1 W ((lcVL n tg t fe (wipeD g own) k (i + 1) m2).bind fun ys m2 => .ok (D.lst (acc2 ++ ys)) m2) (fun d m2 ρ2 H2 => ∀ v, RepV C ρ2 H2 d v → Q v H2),
            fun H2 q => ⟨k, Nat.lt_succ_self _, q⟩, fun v H2 y => ?_⟩
          obtain ⟨rfl, hy⟩ := y
          have ev : v = x := by
            have := hy zs sq'
            rw [hx] at this
            exact (Option.some.inj this).symm
          subst ev
          have re' := w0.ext x'
          have aa := tx ρ' H2 m' d v (wipeD g own) (L2.wipe σ own) rv re'
          cases q : tg d (wipeD g own) m' with
          | bad => rw [q] at h'; exact h'.elim
          | exc c m2 => rw [q] at aa; exact aa.elim
          | ok g2 m2 =>
            rw [q] at aa h'
            obtain ⟨e2, σ2, re2, l2, k2, c2⟩ := aa
            subst e2
            simp only [R.bind_ok] at h'
            have asc : ∀ {α β γ : Type} (r : R α) (f : α → Mem → R β) (f' : β → Mem → R γ), (r.bind f).bind f' = r.bind fun a m => (f a m).bind f' := fun r f f' => by cases r <;> rfl
            rw [asc] at h'
            refine c2 _ ⟨?_, ρ', g2, m2, re2, rm', fin.from h' x' fun b m4 h4 ρ4 H4 x4 rm4 => ?_⟩
            · rw [wipe_same l2 k2]
              exact (wipe_same (by rw [wipe_length]) fun j hj => by rw [wipe_get, if_neg (fun z => hj z.1)])
            have xa : Ext ρ' H2 ρ4 H4 := x4
            cases b with
            | false =>
              obtain ⟨z4, e4⟩ := xa.lx L _ hLz hLx
              exact iteF ⟨ρ4, m4, acc, xs, x'.trans xa, z4, e4, Nat.le_succ_of_le hac, rl.ext xa, rm4, h4⟩
            | true =>
              simp only [if_true] at h4
              rw [asc] at h4
              refine iteT ⟨ρ4, g2, m4, re2.ext x4, rm4, fin.from h4 (x'.trans xa) fun y5 m5 h5 ρ5 H5 x5 rm5 v5 rv5 => ?_⟩
              have xb : Ext ρ' H2 ρ5 H5 := xa.trans x5
              obtain ⟨z5, e5⟩ := xb.lx L _ hLz hLx
              have lx : xs.length = acc.length := rl.length.symm
              refine ⟨xs, e5, by omega, ρ5, m5, acc ++ [y5], xs ++ [v5], ext_grow (x'.trans xb) hL z5, z5, upd_same, by simp; omega, ?_, rm5.grow z5, ?_⟩
              · refine RepL.append ((rl.ext xb).grow z5) ?_
                simp only [RepL]
                exact ⟨v5, [], rfl, rv5.grow z5, rfl⟩
              · rw [asc] at h5
                simp only [R.bind_ok] at h5
                simpa only [List.append_assoc, List.singleton_append] using h5
      · exact h'.elim
  | _ => exact h1.elim
theorem de_lcV {elt te iter : Expr} {ifs : List Expr} {scope : Scope} {own : List (Str × Nat)} {g0 : TG} {fi : Ex} {fe : Ex} {N : Nat} (hK : C.K = X.K) (hc : X.calm = true) (hN : X.N.Nodup) (hi : DE C W X iter fi) (ok : BlkOk X.N X.env.scope scope own) (tx : TgX C (own.map (·.2)) g0 tg)
    (hg : ∀ (s : Shared) (H : Hp) (c : Addr) (cl : List (Str × Addr)) (fp : List Addr), PG (X.blk s H scope (compEnvC scope cl c X.env) fp) te g0) (ht : ∀ (s : Shared) (H : Hp) (c : Addr) (cl : List (Str × Addr)) (fp : List Addr), DTs C W (X.blk s H scope (compEnvC scope cl c X.env) fp) ifs t)
    (he : ∀ (s : Shared) (H : Hp) (c : Addr) (cl : List (Str × Addr)) (fp : List Addr), DE C W (X.blk s H scope (compEnvC scope cl c X.env) fp) elt fe) (hs : ∀ x, foldedSetIterable iter X.env x = pure x := by intro _; rfl) :
    DE C W X (.ListComp elt [⟨te, iter, ifs, 0⟩] scope pos) (lcVE N fi (own.map (·.2)) tg t fe) :=
  PE.imp (pe_lc hc hN (pi_list hi) ok hg ht he hs) (lcv_of hK tx)
variable {ρ : Rho} {H : Hp} {m : Mem}
end
end LW
/-! LwDz: dict(zip(text, text)): the tuple given out is held; the tokens of the signs are fresh at each turn. -/
namespace LW
open PySem PySem.Spec PyProof.Rows L2
section
variable {prog : Program} {w : World} {A : Around} {E : Value → Shared → Prop} {s : Shared} {z TI TO T i1 i2 : Addr} {fp1 fp2 : List Addr} {n1 n2 i : Nat} {P1 P2 : Nat → Value → Prop} {St1 St2 : Nat → Heap → Prop} {f : Bool} {oT : Obj}
end
section
variable {C : Cn} {W : XK} {X : Cx} {a b : Expr} {fa fb : Ex}
end
end LW
/-! LwNe: lists within lists that change: all at once stored, compared as they stand. -/
namespace LW
/-- xs[:] = ys of another list -/
@[simp] def allG (d : Ex) : Tg := fun y g m => (d g m).bind fun q m1 => match q, y with
  | .ref n, .lst es => match m1[n]? with
    | some (.lst ds) => if ds.length + es.length ≤ lim then .ok g (m1.set n (.lst es)) else .bad
    | _ => .bad
  | _, _ => .bad
/-- a thing as it stands, with all that hangs on it -/
def D.deep (m : Mem) : Nat → D → D
  | 0, d => d
  | k + 1, d => match d with
    | .ref n => match m[n]? with
      | some (.lst ds) => .lst (ds.map (D.deep m k))
      | _ => .ref n
    | .lst ds => .lst (ds.map (D.deep m k))
    | .tup ds => .tup (ds.map (D.deep m k))
    | .tpx ds => .tup (ds.map (D.deep m k))
    | d => d
@[simp] def eqY : Op := fun m x y => if D.sh 9 (x.deep m 9) && D.sh 9 (y.deep m 9) then some (.bl (D.eqv (x.deep m 9) (y.deep m 9))) else none
@[simp] def neY : Op := fun m x y => if D.sh 9 (x.deep m 9) && D.sh 9 (y.deep m 9) then some (.bl (!D.eqv (x.deep m 9) (y.deep m 9))) else none
end LW
/-! LwAs: xs[:] = ys of another list. -/
namespace LW
open PySem PySem.Spec PyProof.Rows L2
section
variable {prog : Program} {w : World} {A : Around} {E : Value → Shared → Prop} {s : Shared}
theorem bounds_all (n : Nat) : sliceBounds none none none n = ((0 : Int), (n : Int), 1) := by
  simp [sliceBounds]
theorem setItem_all {l b sl : Addr} {items new : Array Value} {n n2 : Nat} {vl vu : Value} {Q : Unit → Shared → Prop}
    (e : s.heap.get? l = some { cls := .type "list", data := .seq items n }) (e2 : s.heap.get? b = some { cls := .type "list", data := .seq new n2 }) (hne : l ≠ b)
    (hs : s.heap.IsSliceOf sl vl vu .none) (pl : IsPart vl none) (pu : IsPart vu none)
    (hsz : items.size + new.size ≤ sizeLine) (h : Q () { s with heap := s.heap.update l (Obj.mapSeq fun xs => xs.extract 0 0 ++ new ++ xs.extract items.size xs.size) }) :
    wpAny (model prog w) A (setItem (.ref l) (.ref sl) (.ref b)) Q E s := by
  have hl : s.heap.IsList l items := PySem.IsL.isList e
  have hb : s.heap.IsList b new := PySem.IsL.isList e2
  obtain ⟨os, hos, hcs, hds⟩ := id hs
  have hTs : s.TypeIs (.ref sl) "slice" := ⟨os, hos, hcs⟩
  have hstep : ¬ ((rawPart none == rawInt 0) = true) := Bool.false_ne_true
  have hsame : Builtin.List.listSameRef (.ref l) (.ref b) = false := by
    unfold Builtin.List.listSameRef
    exact beq_eq_false_iff_ne.mpr hne
  have hmax : (max (0 : Int) (items.size : Int)).toNat = items.size := by omega
  have hz' : ((fun xs : Array Value => xs.extract 0 0 ++ new ++ xs.extract items.size xs.size) items).size ≤ sizeLine + 1 := by
    simp only [Array.size_append, Array.size_extract]
    omega
  unfold setItem
  try with_reducible refine wpAny_holding ?_
  first | refine wpAny_bind (wpAny_pure ?_) | skip
  refine wpAny_bind (wpAny_sequenceKey hl.typeIs (by decide) ?_)
  refine wpAny_bind (wpAny_callSpecial?_slot (name := Str.ofString "__setitem__") hl.typeIs slot_list_setitem
    (wpAny_call_entry slot_list_setitem hl.typeIs entry_list_setitem ?_ (args_list_setitem _ _ _)))
  show wpAny _ _ (Builtin.List.listSubscript? (.ref sl) >>= _) _ _ s
  refine wpAny_bind ?_
  unfold Builtin.List.listSubscript?
  refine wpAny_bind (wpAny_specialOf hTs slice_no_index ?_)
  simp only [Option.isNone_none, if_true]
  refine wpAny_pure ?_
  show wpAny _ _ (typeOf (.ref sl) >>= _) _ _ s
  refine wpAny_bind (wpAny_typeOf hTs ?_)
  first
    | rw [if_neg (by decide)]
    | refine PySem.W.KFB.if_not (by decide) ?_
  rw [listSliceParts_eq]
  refine wpAny_bind (wpAny_bind (wpAny_field hos hds (x := .none) rfl (wpAny_bind (wpAny_listPart .none ?_))))
  rw [if_neg hstep]
  refine wpAny_bind (wpAny_field hos hds (x := vl) rfl (wpAny_bind (wpAny_listPart pl ?_)))
  refine wpAny_bind (wpAny_field hos hds (x := vu) rfl (wpAny_bind (wpAny_listPart pu (wpAny_pure ?_))))
  first
    | simp only [hsame, Bool.false_eq_true, if_false]
    | refine PySem.W.KFB.if_not hsame ?_
    | (dsimp only
       rw [if_neg (by rw [hsame]; exact Bool.false_ne_true)])
  refine wpAny_bind (m := Builtin.List.listAllItems (.ref b) "must assign iterable to extended slice") ?_
  unfold Builtin.List.listAllItems
  refine wpAny_bind (wpAny_typeOf hb.typeIs ?_)
  first
    | refine PySem.W.KFB.if_so (by decide) ?_
    | rw [if_pos (by decide)]
    | simp only [beq_self_eq_true, Bool.true_or, if_true]
  unfold Builtin.List.listItems
  refine wpAny_bind (wpAny_seqItems e2 rfl (wpAny_pure ?_))
  refine wpAny_bind (wpAny_bind (wpAny_seqItems e rfl (wpAny_pure ?_)))
  refine wpAny_bind (wpAny_of_eq ((sliceIndices_raw none none none items.size (by simp)).trans (congrArg (pure : Int × Int × Int → Sem (Int × Int × Int)) (bounds_all items.size))) ?_)
  show wpAny _ _ (if ((1 : Int) == 1) = true then _ else _) _ _ s
  rw [if_pos (by decide)]
  refine wpAny_bind (wpAny_rule ?_)
  first
    | simp only [notLongL hsz, Bool.false_eq_true, if_false]
    | refine PySem.W.KFB.if_not (notLongL hsz) ?_
  first | refine wpAny_bind (wpAny_pure ?_) | skip
  show wpAny _ _ (updateSeq l (fun xs => xs.extract 0 ((0 : Int)).toNat ++ new ++ xs.extract (max (0 : Int) (items.size : Int)).toNat xs.size) >>= _) _ _ s
  rw [hmax, show (0 : Int).toNat = 0 from rfl]
  refine wpAny_bind (wpAny_updateSeq (hz := Nat.le_trans (Nat.le_add_right _ _) hsz) (_hz' := hz') e rfl ?_)
  refine wpAny_bind (wpAny_letGo ?_)
  first
    | exact wpAny_bind (wpAny_pure (wpAny_pure ⟨.none, rfl, wpAny_pure h⟩))
    | exact wpAny_pure ⟨.none, rfl, wpAny_pure h⟩
end
/-- o[:] = v of a list that is another one -/
def gAll (to : TE) : TG := fun v σ H Q => to σ H fun o H1 => ∃ l b xs ys, o = .ref l ∧ v = .ref b ∧ H1 l = some (.lst xs) ∧ H1 b = some (.lst ys) ∧ l ≠ b ∧ xs.length + ys.length ≤ sizeLine ∧ Q σ (upd H1 l (.lst ys))
theorem pg_all {X : Cx} {o : Expr} {p2 pos : Pos} {to : TE} (ho : PE X o to)
    (ha : ∀ v, assign (.Subscript o (.Slice none none none p2) pos) X.env v = (do
      let ov ← holding [v] (eval o X.env)
      let iv ← holding [v, ov] (eval (.Slice none none none p2) X.env)
      standAt pos
      holding [v, ov, iv] (setItem ov iv v)
      release [iv, v, ov] []) := by intro _; rfl) : PG X (.Subscript o (.Slice none none none p2) pos) (gAll to) := by
  refine ⟨fun pins s σ H v u Q I r h => ?_⟩
  rw [ha]
  refine wpAny_bind (wpAny_holding (thn (ho.run pins s σ H _ I h) fun ov s1 ⟨x, H1, I1, r1, q1⟩ => ?_))
  obtain ⟨l, b, xs, ys, rfl, rfl, el, eb, ne, hz, q⟩ := q1
  obtain rfl : ov = Value.ref l := r1
  obtain rfl : u = Value.ref b := r
  refine wpAny_bind (wpAny_holding (wpAny_Slice (wpAny_evalPart_none (wpAny_evalPart_none (wpAny_evalPart_none ?_)))))
  have I2 : Inv X pins σ H1 { s1 with heap := s1.heap.push { cls := .type "slice", data := .fields #[.none, .none, .none] } } := I1.kept (t' := s1.toks) fun b ob q => Heap.get?_push_of_some _ q
  obtain ⟨z, its, n, rx, hl, e⟩ := I2.lstM el
  obtain ⟨z2, its2, n2, r2, hl2, e2⟩ := I2.lstM eb
  refine wpAny_bind (wpAny_standAt (wpAny_bind (wpAny_holding ?_)))
  refine setItem_all e e2 ne (Heap.IsSliceOf.new ..) .none .none (by rw [List.size_toArray, List.size_toArray]; omega) ?_
  refine wpAny_release ⟨σ, _, ?_, q⟩
  refine I2.lset (its' := its2) (t' := s1.toks) el e ?_ r2 z2
  have := splice_eq its its2 0 its.length
  simp only [List.take_zero, List.nil_append, List.drop_length, List.append_nil] at this
  simpa using this
section
variable {C : Cn} {W : XK} {X : Cx} {a : Expr} {fa : Ex} {p2 pos : Pos} {ρ : Rho} {H : Hp} {m : Mem}
theorem dg_all (ha : DE C W X a fa)
    (hq : ∀ v, assign (.Subscript a (.Slice none none none p2) pos) X.env v = (do
      let ov ← holding [v] (eval a X.env)
      let iv ← holding [v, ov] (eval (.Slice none none none p2) X.env)
      standAt pos
      holding [v, ov, iv] (setItem ov iv v)
      release [iv, v, ov] []) := by intro _; rfl) : DG C W X (.Subscript a (.Slice none none none p2) pos) (allG fa) := by
  refine PG.imp (pg_all ha hq) ?_
  rintro v σ H Q ⟨ρ, g, m, d, re, rm, rd, h⟩
  refine ⟨ρ, g, m, re, rm, h.bind.imp fun d1 m1 ρ1 H1 x1 rm1 h1 v1 r1 => ?_⟩
  cases d1 with
  | ref n =>
    cases d with
    | lst es =>
      dsimp only at h1
      split at h1
      · rename_i ds hm
        split at h1
        · rename_i hz
          obtain ⟨q, xs, rfl, hl, sq, rl⟩ := rm1.lst_at r1 hm
          have rd1 := rd.ext x1
          simp only [RepV] at rd1
          obtain ⟨b, ys, rfl, nl, hb, ry⟩ := rd1
          have xp : Ext ρ1 H1 ρ1 (upd H1 q (.lst ys)) := ext_put rm1 hl
          refine ⟨q, b, xs, ys, rfl, rfl, sq, hb, fun e => nl (by rw [← e]; exact .inl (List.mem_of_getElem? hl)), by rw [← rl.length, ← ry.length, ← lim_eq]; exact hz, ?_⟩
          exact h1 ρ1 _ xp (rm1.put hl ⟨rfl, _, upd_same, ry.ext xp⟩) σ ((re.ext x1).ext xp)
        · exact h1.elim
      · exact h1.elim
    | _ => exact h1.elim
  | _ => cases d <;> exact h1.elim
/-! ### == as it stands -/
theorem deep_dp (rm : RepM C ρ H m) : ∀ (k : Nat) {k' : Nat} {d : D} {v : V}, D.sh k' (d.deep m k) = true → RepV C ρ H d v → Dp C.K H v (toPd (d.deep m k)) ∧ (toPd (d.deep m k)).canLay0 = true ∧ (toPd (d.deep m k)).depth ≤ k'
  | 0, k', d, v, hk, r => rep_dp k' d v hk r
  | k + 1, k', d, v, hk, r => by
    have ih : ∀ (j : Nat) (ds : List D) (vs : List V), D.shL j (ds.map (D.deep m k)) = true → RepL C ρ H ds vs → DpAll C.K H vs (toPdL (ds.map (D.deep m k))) ∧ PyData.canLayAll0 (toPdL (ds.map (D.deep m k))) = true ∧ PyData.depthAll (toPdL (ds.map (D.deep m k))) ≤ j := by
      intro j ds
      induction ds with
      | nil =>
        intro vs _ r
        simp only [RepL] at r
        subst r
        exact ⟨.nil, rfl, Nat.zero_le _⟩
      | cons d ds ihl =>
        intro vs h r
        simp only [RepL] at r
        obtain ⟨v, r', rfl, h1, h2⟩ := r
        simp only [List.map_cons, D.shL, Bool.and_eq_true] at h
        obtain ⟨a1, a2, a3⟩ := deep_dp rm k h.1 h1
        obtain ⟨b1, b2, b3⟩ := ihl r' h.2 h2
        refine ⟨.cons a1 b1, ?_, ?_⟩
        · show ((toPd (d.deep m k)).canLay0 && PyData.canLayAll0 (toPdL (ds.map (D.deep m k)))) = true
          rw [a2, b2]; rfl
        · show max (toPd (d.deep m k)).depth (PyData.depthAll (toPdL (ds.map (D.deep m k)))) ≤ j
          exact Nat.max_le.mpr ⟨a3, b3⟩
    have viaL : ∀ ds, lstOf m d = some ds → d.deep m (k + 1) = .lst (ds.map (D.deep m k)) → Dp C.K H v (toPd (d.deep m (k + 1))) ∧ (toPd (d.deep m (k + 1))).canLay0 = true ∧ (toPd (d.deep m (k + 1))).depth ≤ k' := fun ds e1 e2 => by
      obtain ⟨a, xs, rfl, s1, l1⟩ := lst_read rm r e1
      rw [e2] at hk ⊢
      cases k' with
      | zero => simp [D.sh] at hk
      | succ k' =>
        obtain ⟨h1, h2, h3⟩ := ih k' ds xs (by simpa only [D.sh] using hk) l1
        exact ⟨.lst s1 h1, h2, Nat.succ_le_succ h3⟩
    have viaT : ∀ ds, RepV C ρ H (.tup ds) v → d.deep m (k + 1) = .tup (ds.map (D.deep m k)) → Dp C.K H v (toPd (d.deep m (k + 1))) ∧ (toPd (d.deep m (k + 1))).canLay0 = true ∧ (toPd (d.deep m (k + 1))).depth ≤ k' := fun ds r e2 => by
      obtain ⟨p, xs, rfl, sq, rl⟩ := r.tup_sq
      rw [e2] at hk ⊢
      cases k' with
      | zero => simp [D.sh] at hk
      | succ k' =>
        obtain ⟨h1, h2, h3⟩ := ih k' ds xs (by simpa only [D.sh] using hk) rl
        exact ⟨.tup sq h1, h2, Nat.succ_le_succ h3⟩
    cases d with
    | ref n =>
      cases q : m[n]? with
      | none => simp only [D.deep, q] at hk; cases k' <;> simp [D.sh] at hk
      | some o =>
        cases o with
        | lst ds => exact viaL ds (by simp only [lstOf, q]) (by simp only [D.deep, q])
        | _ => simp only [D.deep, q] at hk; cases k' <;> simp [D.sh] at hk
    | lst ds => exact viaL ds rfl rfl
    | tup ds => exact viaT ds r rfl
    | tpx ds => exact viaT ds r.wk rfl
    | _ => exact rep_dp k' _ v hk r
theorem os_eqY : OpS C (rEqD C.K) eqY := by
  intro ρ H m d1 d2 v1 v2 d Q rm r1 r2 e q
  unfold eqY at e
  split at e
  · rename_i hs
    rw [Bool.and_eq_true] at hs
    cases e
    obtain ⟨a1, a2, a3⟩ := deep_dp rm 9 hs.1 r1
    obtain ⟨b1, b2, b3⟩ := deep_dp rm 9 hs.2 r2
    refine ⟨_, _, a1, b1, ?_, ?_, ?_⟩
    · unfold SeqAt.shaped; rw [a2, decide_eq_true (by omega)]; rfl
    · unfold SeqAt.shaped; rw [b2, decide_eq_true (by omega)]; rfl
    · rw [eqv_pd 9 9 _ _ hs.1 hs.2]
      exact q _ H (Same.refl H) rv_bl
  · cases e
theorem os_neY : OpS C (rNeD C.K) neY := by
  intro ρ H m d1 d2 v1 v2 d Q rm r1 r2 e q
  unfold neY at e
  split at e
  · rename_i hs
    rw [Bool.and_eq_true] at hs
    cases e
    obtain ⟨a1, a2, a3⟩ := deep_dp rm 9 hs.1 r1
    obtain ⟨b1, b2, b3⟩ := deep_dp rm 9 hs.2 r2
    refine ⟨_, _, a1, b1, ?_, ?_, ?_⟩
    · unfold SeqAt.shaped; rw [a2, decide_eq_true (by omega)]; rfl
    · unfold SeqAt.shaped; rw [b2, decide_eq_true (by omega)]; rfl
    · rw [eqv_pd 9 9 _ _ hs.1 hs.2]
      exact q _ H (Same.refl H) rv_bl
  · cases e
end
end LW
namespace LW
def c_SIGNS : List Nat := [97, 98, 99, 100, 101, 102, 103, 104, 105, 106, 107, 108, 109, 110, 111, 112, 113, 114, 115, 116, 117, 118, 119, 120, 121, 122, 48, 49, 50, 51, 52, 53, 54, 55, 56, 57, 32, 46, 44, 45]
def c_PULSES : List Nat := [115, 112, 108, 102]
def b_law_cell_at : Sm :=
  (seqS (ifS (tE (opE ltD (vE 1) (bE lenB (consA (vE 0) nilA)))) (retS (opE getD (vE 0) (vE 1))) nxS)
    (seqS (ifS (tE (opE eqD (vE 0) (lstE nilA))) (retS (cE (.int 0))) nxS)
    (retS (opE addD (opE mulD (opE getD (vE 0) (opE modD (vE 1) (bE lenB (consA (vE 0) nilA)))) (cE (.int 31))) (vE 1)))))
def m_law_cell_at : Fn := fnS 2 b_law_cell_at
def b_law_mixed : Sm :=
  (seqS (asgS (nmG 3) (opE modD (opE addD (opE addD (opE mulD (callE m_law_cell_at (consA (vE 0) (consA (vE 1) nilA))) (cE (.int 1103515245))) (opE mulD (cE (.int 7919)) (vE 1))) (cE (.int 12345))) (cE (.int 2147483647))))
    (retS (opE modD (opE modD (opE modD (opE powD (vE 3) (cE (.int 5))) (cE (.int 2147483647))) (cE (.int 999983))) (vE 2))))
def m_law_mixed : Fn := fnS 4 b_law_mixed
def b_law_draw : Sm :=
  (seqS (exS (mtE appM (vE 1) (consA (cE (.int 0)) nilA)))
    (retS (callE m_law_mixed (consA (vE 0) (consA (bE lenB (consA (vE 1) nilA)) (consA (vE 2) nilA))))))
def m_law_draw : Fn := fnS 3 b_law_draw
def b_law_wheels_k01 : Sm :=
  (seqS (asgS (nmG 3) (cE (.str [97, 98, 99, 100, 101, 102, 103, 104, 105, 106, 107, 108, 109, 110, 111, 112, 113, 114, 115, 116, 117, 118, 119, 120, 121, 122, 48, 49, 50, 51, 52, 53, 54, 55, 56, 57, 32, 46, 44, 45])))
    (seqS (asgS (nmG 4) (opE addD (cE (.int 2)) (callE m_law_draw (consA (vE 0) (consA (vE 1) (consA (opE subD (vE 2) (cE (.int 1))) nilA))))))
    (seqS (asgS (nmG 5) (newE (lstE nilA)))
    (seqS (forS (itR1 (cE (.int 2))) (nmG 6) (seqS (asgS (nmG 7) (newE (bE listB (consA (ifE (tE (opE eqD (callE m_law_draw (consA (vE 0) (consA (vE 1) (consA (cE (.int 2)) nilA)))) (cE (.int 0)))) (vE 3) (slE slD (vE 3) noO (someO (opE addD (vE 4) (cE (.int 3)))))) nilA))))
    (seqS (asgS (nmG 8) (cE (.str [])))
    (seqS (forS (itR1 (vE 4)) (nmG 9) (asgS (nmG 8) (opE addD (vE 8) (mtE popAtM (vE 7) (consA (callE m_law_draw (consA (vE 0) (consA (vE 1) (consA (bE lenB (consA (vE 7) nilA)) nilA)))) nilA)))))
    (exS (mtE appM (vE 5) (consA (vE 8) nilA)))))))
    (retS (tupE (consA (opE getD (vE 5) (cE (.int 0))) (consA (opE getD (vE 5) (cE (.int 1))) (consA (opE addD (cE (.int 1)) (callE m_law_draw (consA (vE 0) (consA (vE 1) (consA (cE (.int 3)) nilA))))) nilA)))))))))
def m_law_wheels_k01 : Fn := fnS 10 b_law_wheels_k01
def b_law_pick : Sm :=
  (retS (opE getD (vE 2) (callE m_law_draw (consA (vE 0) (consA (vE 1) (consA (bE lenB (consA (vE 2) nilA)) nilA))))))
def m_law_pick : Fn := fnS 3 b_law_pick
def b_is_whole : Sm :=
  (retS (andE (unE (isD "int") (vE 0)) (andE (notE (unE (isD "bool") (vE 0))) (chE leD leD (vE 1) (vE 0) (vE 2)))))
def m_is_whole : Fn := fnS 3 b_is_whole
def b_are_signs : Sm :=
  (retS (andE (unE (isD "str") (vE 0)) (andE (chE leD leD (vE 1) (bE lenB (consA (vE 0) nilA)) (vE 2)) (bE allB (consA (lcE (itA (vE 0)) [3] (nmG 3) yesT (noX (opE inD (vE 3) (cE (.str c_SIGNS))))) nilA)))))
def m_are_signs : Fn := fnS 4 b_are_signs
def b_is_wheel : Sm :=
  (retS (andE (callE m_are_signs (consA (vE 0) (consA (cE (.int 2)) (consA (cE (.int 30)) nilA)))) (opE eqD (unE lenSetD (vE 0)) (bE lenB (consA (vE 0) nilA)))))
def m_is_wheel : Fn := fnS 1 b_is_wheel
def b_is_wheels : Sm :=
  (seqS (ifS (orT (notT (tE (unE (isD "tuple") (vE 0)))) (orT (tE (opE neD (bE lenB (consA (vE 0) nilA)) (cE (.int 3)))) (orT (notT (tE (callE m_is_wheel (consA (opE getD (vE 0) (cE (.int 0))) nilA)))) (notT (tE (callE m_is_wheel (consA (opE getD (vE 0) (cE (.int 1))) nilA))))))) (retS (cE (.bl false))) nxS)
    (retS (andE (opE eqD (bE lenB (consA (opE getD (vE 0) (cE (.int 0))) nilA)) (bE lenB (consA (opE getD (vE 0) (cE (.int 1))) nilA))) (callE m_is_whole (consA (opE getD (vE 0) (cE (.int 2))) (consA (cE (.int 1)) (consA (cE (.int 3)) nilA)))))))
def m_is_wheels : Fn := fnS 1 b_is_wheels
def b_Office_stands : Sm :=
  (retS (bE listB (consA (fldE "Office" "all_stands" (vE 0)) nilA)))
def m_Office_stands : Fn := fnS 1 b_Office_stands
def b_need_wheels : Sm :=
  (ifS (notT (tE (callE m_is_wheels (consA (vE 0) nilA)))) (raiseS "NoWheels") nxS)
def m_need_wheels : Fn := fnS 1 b_need_wheels
def b_places_of : Sm :=
  (retS (bE lenB (consA (opE getD (vE 0) (cE (.int 0))) nilA)))
def m_places_of : Fn := fnS 1 b_places_of
def b_is_stand : Sm :=
  (seqS (ifS (orT (notT (tE (unE (isD "tuple") (vE 1)))) (orT (tE (opE neD (bE lenB (consA (vE 1) nilA)) (cE (.int 3)))) (notT (tE (callE m_is_whole (consA (opE getD (vE 1) (cE (.int 0))) (consA (cE (.int 0)) (consA (opE subD (callE m_places_of (consA (vE 0) nilA)) (cE (.int 1))) nilA)))))))) (retS (cE (.bl false))) nxS)
    (seqS (ifS (orT (notT (tE (unE (isD "str") (opE getD (vE 1) (cE (.int 1)))))) (tE (opE notInD (opE getD (vE 1) (cE (.int 1))) (tupE (consA (cE (.str [108])) (consA (cE (.str [102])) nilA)))))) (retS (cE (.bl false))) nxS)
    (retS (callE m_is_whole (consA (opE getD (vE 1) (cE (.int 2))) (consA (cE (.int 0)) (consA (opE mulD (callE m_places_of (consA (vE 0) nilA)) (opE addD (opE getD (vE 0) (cE (.int 2))) (cE (.int 1)))) nilA)))))))
def m_is_stand : Fn := fnS 2 b_is_stand
def b_need_stand : Sm :=
  (seqS (exS (callE m_need_wheels (consA (vE 0) nilA)))
    (ifS (notT (tE (callE m_is_stand (consA (vE 0) (consA (vE 1) nilA))))) (raiseS "NoStand") nxS))
def m_need_stand : Fn := fnS 2 b_need_stand
def b_is_caught : Sm :=
  (retS (andE (opE eqD (opE getD (vE 1) (cE (.int 0))) (cE (.int 0))) (opE geD (opE getD (vE 1) (cE (.int 2))) (opE mulD (callE m_places_of (consA (vE 0) nilA)) (opE getD (vE 0) (cE (.int 2)))))))
def m_is_caught : Fn := fnS 2 b_is_caught
def b_is_one : Sm :=
  (retS (opE ltD (unE lenSetY (vE 0)) (cE (.int 2))))
def m_is_one : Fn := fnS 1 b_is_one
def b_pulsed : Sm :=
  (seqS (asgS (tupG (consG (nmG 3) (consG (nmG 4) (consG (nmG 5) nilG)))) (vE 1))
    (seqS (ifS (tE (opE eqD (vE 2) (cE (.str [115])))) (seqS (ifS (tE (callE m_is_caught (consA (vE 0) (consA (vE 1) nilA)))) (retS (tupE (consA (vE 1) (consA (cE (.str [])) nilA)))) nxS)
    (retS (tupE (consA (tupE (consA (opE modD (opE addD (vE 3) (cE (.int 1))) (callE m_places_of (consA (vE 0) nilA))) (consA (vE 4) (consA (opE addD (vE 5) (cE (.int 1))) nilA)))) (consA (cE (.str [])) nilA))))) nxS)
    (seqS (ifS (tE (opE eqD (vE 2) (cE (.str [112])))) (retS (tupE (consA (tupE (consA (vE 3) (consA (vE 4) (consA (cE (.int 0)) nilA)))) (consA (opE getD (opE getD (vE 0) (ifE (tE (opE eqD (vE 4) (cE (.str [108])))) (cE (.int 0)) (cE (.int 1)))) (vE 3)) nilA)))) nxS)
    (retS (tupE (consA (tupE (consA (vE 3) (consA (vE 2) (consA (cE (.int 0)) nilA)))) (consA (cE (.str [])) nilA)))))))
def m_pulsed : Fn := fnS 6 b_pulsed
def b_is_row : Sm :=
  (retS (andE (unE (isD "str") (vE 0)) (andE (opE leD (bE lenB (consA (vE 0) nilA)) (vE 1)) (bE allB (consA (lcE (itA (vE 0)) [2] (nmG 2) yesT (noX (opE inD (vE 2) (cE (.str c_PULSES))))) nilA)))))
def m_is_row : Fn := fnS 3 b_is_row
def b_need_row : Sm :=
  (ifS (notT (tE (callE m_is_row (consA (vE 0) (consA (vE 1) nilA))))) (raiseS "NoRow") nxS)
def m_need_row : Fn := fnS 2 b_need_row
def b_rowed : Sm :=
  (seqS (asgS (nmG 3) (cE (.str [])))
    (seqS (forS (itA (vE 2)) (nmG 4) (seqS (asgS (tupG (consG (nmG 1) (consG (nmG 5) nilG))) (callE m_pulsed (consA (vE 0) (consA (vE 1) (consA (vE 4) nilA)))))
    (asgS (nmG 3) (opE addD (vE 3) (vE 5)))))
    (retS (tupE (consA (vE 1) (consA (vE 3) nilA))))))
def m_rowed : Fn := fnS 6 b_rowed
def b_slipped : Sm :=
  (seqS (asgS (nmG 2) (bE dictB (consA (vE 1) nilA)))
    (seqS (asgS (nmG 3) (lcE (itR1 (bE lenB (consA (vE 0) nilA))) [4] (nmG 4) yesT (noX (dget2E (cE (.str [108, 111, 115, 116])) (cE (.int 0)) (cE (.str [116, 119, 105, 99, 101])) (cE (.int 2)) (dopE get1D (vE 2) (vE 4)) (cE (.int 1))))))
    (retS (sopE joinD (cE (.str [])) (lcE (itZ (vE 0) (vE 3)) [5, 6] (tupG (consG (nmG 5) (consG (nmG 6) nilG))) yesT (noX (opE mulD (vE 5) (vE 6))))))))
def m_slipped : Fn := fnS 7 b_slipped
def b_Office_init : Sm :=
  (seqS (exS (callE m_need_wheels (consA (vE 1) nilA)))
    (seqS (sfS "Office" "wheels" (vE 0) (vE 1))
    (seqS (sfS "Office" "all_stands" (vE 0) (tupE nilA))
    (seqS (sfS "Office" "all_tapes" (vE 0) (tupE nilA))
    (seqS (sfS "Office" "waits" (vE 0) (tupE nilA))
    (sfS "Office" "past" (vE 0) (newE (lstE nilA))))))))
def m_Office_init : Fn := fnS 2 b_Office_init
def b_law_stand_k02 : Sm :=
  (seqS (asgS (nmG 3) (bE lenB (consA (opE getD (vE 2) (cE (.int 0))) nilA)))
    (seqS (asgS (nmG 4) (callE m_law_draw (consA (vE 0) (consA (vE 1) (consA (callE m_law_pick (consA (vE 0) (consA (vE 1) (consA (lstE (consA (cE (.int 1)) (consA (opE addD (vE 3) (cE (.int 1))) (consA (opE addD (opE mulD (vE 3) (opE addD (opE getD (vE 2) (cE (.int 2))) (cE (.int 1)))) (cE (.int 1))) nilA)))) nilA)))) nilA)))))
    (retS (tupE (consA (callE m_law_draw (consA (vE 0) (consA (vE 1) (consA (vE 3) nilA)))) (consA (callE m_law_pick (consA (vE 0) (consA (vE 1) (consA (cE (.str [108, 102])) nilA)))) (consA (vE 4) nilA)))))))
def m_law_stand_k02 : Fn := fnS 5 b_law_stand_k02
def b_law_row_k02 : Sm :=
  (seqS (asgS (nmG 4) (cE (.str [])))
    (seqS (forS (itR1 (callE m_law_draw (consA (vE 0) (consA (vE 1) (consA (opE addD (vE 3) (cE (.int 1))) nilA))))) (nmG 5) (seqS (asgS (nmG 6) (callE m_law_draw (consA (vE 0) (consA (vE 1) (consA (cE (.int 8)) nilA)))))
    (seqS (asgS (nmG 7) (opE addD (cE (.int 1)) (callE m_law_draw (consA (vE 0) (consA (vE 1) (consA (callE m_law_pick (consA (vE 0) (consA (vE 1) (consA (lstE (consA (cE (.int 2)) (consA (bE lenB (consA (opE getD (vE 2) (cE (.int 0))) nilA)) (consA (opE mulD (cE (.int 3)) (bE lenB (consA (opE getD (vE 2) (cE (.int 0))) nilA))) nilA)))) nilA)))) nilA))))))
    (asgS (nmG 4) (opE addD (vE 4) (ifE (tE (opE ltD (vE 6) (cE (.int 4)))) (opE mulD (cE (.str [115])) (vE 7)) (ifE (tE (opE ltD (vE 6) (cE (.int 6)))) (cE (.str [112])) (opE getD (cE (.str [108, 102])) (opE subD (vE 6) (cE (.int 6)))))))))))
    (retS (slE slD (vE 4) noO (someO (callE m_law_pick (consA (vE 0) (consA (vE 1) (consA (lstE (consA (cE (.int 20)) (consA (cE (.int 40)) (consA (cE (.int 400)) nilA)))) nilA)))))))))
def m_law_row_k02 : Fn := fnS 8 b_law_row_k02
def b_law_pulse_k02 : Sm :=
  (seqS (asgS (tupG (consG (nmG 3) (consG (nmG 4) (consG (nmG 5) nilG)))) (vE 1))
    (seqS (asgS (nmG 6) (bE lenB (consA (opE getD (vE 0) (cE (.int 0))) nilA)))
    (seqS (ifS (tE (opE eqD (vE 2) (cE (.str [112])))) (retS (tupE (consA (tupE (consA (vE 3) (consA (vE 4) (consA (cE (.int 0)) nilA)))) (consA (opE getD (ifE (tE (opE eqD (vE 4) (cE (.str [108])))) (opE getD (vE 0) (cE (.int 0))) (opE getD (vE 0) (cE (.int 1)))) (vE 3)) nilA)))) nxS)
    (seqS (ifS (tE (opE inD (vE 2) (tupE (consA (cE (.str [108])) (consA (cE (.str [102])) nilA))))) (retS (tupE (consA (tupE (consA (vE 3) (consA (vE 2) (consA (cE (.int 0)) nilA)))) (consA (cE (.str [])) nilA)))) nxS)
    (seqS (ifS (andT (tE (opE eqD (vE 3) (cE (.int 0)))) (tE (opE geD (vE 5) (opE mulD (vE 6) (opE getD (vE 0) (cE (.int 2))))))) (retS (tupE (consA (vE 1) (consA (cE (.str [])) nilA)))) nxS)
    (retS (tupE (consA (tupE (consA (ifE (tE (opE ltD (opE addD (vE 3) (cE (.int 1))) (vE 6))) (opE addD (vE 3) (cE (.int 1))) (cE (.int 0))) (consA (vE 4) (consA (opE addD (vE 5) (cE (.int 1))) nilA)))) (consA (cE (.str [])) nilA)))))))))
def m_law_pulse_k02 : Fn := fnS 7 b_law_pulse_k02
def b_law_go : Sm :=
  (seqS (asgS (nmG 3) (cE (.str [])))
    (seqS (forS (itA (vE 2)) (nmG 4) (seqS (asgS (tupG (consG (nmG 1) (consG (nmG 5) nilG))) (callE m_law_pulse_k02 (consA (vE 0) (consA (vE 1) (consA (vE 4) nilA)))))
    (asgS (nmG 3) (opE addD (vE 3) (vE 5)))))
    (retS (tupE (consA (vE 1) (consA (vE 3) nilA))))))
def m_law_go : Fn := fnS 6 b_law_go
def b_law_with : Sm :=
  (seqS (asgS (nmG 2) (cE (.str [])))
    (seqS (forS (itE (vE 0)) (tupG (consG (nmG 3) (consG (nmG 4) nilG))) (seqS (asgS (nmG 5) (lcE (itA (vE 1)) [6, 7] (tupG (consG (nmG 6) (consG (nmG 7) nilG))) (noXT (tE (opE eqD (vE 6) (vE 3)))) (noX (vE 7))))
    (asgS (nmG 2) (opE addD (vE 2) (opE mulD (vE 4) (ifE (tE (opE eqD (vE 5) (lstE nilA))) (cE (.int 1)) (ifE (tE (opE eqD (opE getD (vE 5) (cE (.int 0))) (cE (.str [108, 111, 115, 116])))) (cE (.int 0)) (cE (.int 2)))))))))
    (retS (vE 2))))
def m_law_with : Fn := fnS 8 b_law_with
def b_law_call : Sm :=
  (seqS (asgS (nmG 4) (callE m_law_draw (consA (vE 0) (consA (vE 1) (consA (cE (.int 9)) nilA)))))
    (seqS (parS 5 6 (callE m_law_stand_k02 (consA (vE 0) (consA (vE 1) (consA (vE 2) nilA)))) (callE m_law_row_k02 (consA (vE 0) (consA (vE 1) (consA (vE 2) (consA (cE (.int 3)) nilA))))))
    (seqS (asgS (nmG 7) (callE m_law_pick (consA (vE 0) (consA (vE 1) (consA (lstE (consA (cE (.str [108, 111, 115, 116])) (consA (cE (.str [116, 119, 105, 99, 101])) nilA))) nilA)))))
    (seqS (asgS (nmG 8) (callE m_law_draw (consA (vE 0) (consA (vE 1) (consA (bE max2B (consA (cE (.int 1)) (consA (bE lenB (consA (vE 3) nilA)) nilA))) nilA)))))
    (seqS (ifS (orT (tE (opE ltD (vE 4) (cE (.int 2)))) (tE (opE eqY (vE 3) (lstE nilA)))) (retS (tupE (consA (cE (.str [99, 111, 109, 101])) (consA (vE 5) nilA)))) nxS)
    (seqS (ifS (tE (opE ltD (vE 4) (cE (.int 6)))) (retS (tupE (consA (cE (.str [115, 101, 110, 100])) (consA (vE 6) nilA)))) nxS)
    (retS (ifE (tE (opE ltD (vE 4) (cE (.int 8)))) (tupE (consA (cE (.str [115, 108, 105, 112])) (consA (vE 8) (consA (vE 7) nilA)))) (tupE (consA (cE (.str [98, 97, 99, 107])) nilA))))))))))
def m_law_call : Fn := fnS 9 b_law_call
def b_law_own : Sm :=
  (seqS (ifS (tE (opE eqD (opE getD (vE 3) (cE (.int 0))) (cE (.str [99, 111, 109, 101])))) (seqS (exS (mtE appM (vE 0) (consA (newE (lstE (consA (opE getD (vE 3) (cE (.int 1))) (consA (cE (.str [])) (consA (cE .non) nilA))))) nilA)))
    (retS (opE subD (bE lenB (consA (vE 0) nilA)) (cE (.int 1))))) nxS)
    (seqS (ifS (tE (opE eqD (opE getD (vE 3) (cE (.int 0))) (cE (.str [115, 108, 105, 112])))) (asgS (putLG (noX (opE getD (vE 0) (opE getD (vE 3) (cE (.int 1))))) (noX (cE (.int 2)))) (opE getD (vE 3) (cE (.int 2)))) nxS)
    (seqS (ifS (tE (opE eqD (opE getD (vE 3) (cE (.int 0))) (cE (.str [115, 101, 110, 100])))) (seqS (exS (mtE appM (vE 1) (consA (tupE (consA (opE getD (vE 3) (cE (.int 1))) (consA (lcVE 1000 (vE 0) [4] (nmG 4) yesT (noX (newE (bE listB (consA (vE 4) nilA))))) nilA))) nilA)))
    (forVS 1000 (vE 0) (nmG 4) (seqS (asgS (nmG 5) (ifE (tE (opE isNotND (opE getD (vE 4) (cE (.int 2))) (cE .non))) (lstE (consA (tupE (consA (cE (.int 0)) (consA (opE getD (vE 4) (cE (.int 2))) nilA))) nilA)) (lstE nilA)))
    (seqS (asgS (tupG (consG (putLG (noX (vE 4)) (noX (cE (.int 0)))) (consG (nmG 6) nilG))) (callE m_law_go (consA (vE 2) (consA (opE getD (vE 4) (cE (.int 0))) (consA (callE m_law_with (consA (opE getD (vE 3) (cE (.int 1))) (consA (vE 5) nilA))) nilA)))))
    (seqS (asgS (putLG (noX (vE 4)) (noX (cE (.int 1)))) (opE addD (opE getD (vE 4) (cE (.int 1))) (vE 6)))
    (asgS (putLG (noX (vE 4)) (noX (cE (.int 2)))) (ifE (tE (opE eqD (opE getD (vE 3) (cE (.int 1))) (cE (.str [])))) (opE getD (vE 4) (cE (.int 2))) (cE .non)))))))) nxS)
    (seqS (ifS (tE (opE eqD (opE getD (vE 3) (cE (.int 0))) (cE (.str [98, 97, 99, 107])))) (seqS (ifS (tE (opE eqY (vE 1) (lstE nilA))) (retS (tupE (consA (cE (.str [114, 101, 102, 117, 115, 101, 100])) (consA (cE (.int 8)) nilA)))) nxS)
    (seqS (asgS (tupG (consG (nmG 7) (consG (nmG 8) nilG))) (mtE popM (vE 1) nilA))
    (seqS (asgS (allG (noX (vE 0))) (vE 8))
    (retS (vE 7))))) nxS)
    (retS (cE .non))))))
def m_law_own : Fn := fnS 9 b_law_own
def b_Office_in_step_k12 : Sm :=
  (retS (callE m_is_one (consA (lcE (itA (fldE "Office" "all_stands" (vE 0))) [1] (nmG 1) yesT (noX (slE slD (vE 1) noO (someO (cE (.int 2)))))) nilA)))
def m_Office_in_step_k12 : Fn := fnS 2 b_Office_in_step_k12
def b_Office_come : Sm :=
  (seqS (exS (callE m_need_stand (consA (fldE "Office" "wheels" (vE 0)) (consA (vE 1) nilA))))
    (seqS (sfS "Office" "all_stands" (vE 0) (opE addD (fldE "Office" "all_stands" (vE 0)) (tupE (consA (vE 1) nilA))))
    (seqS (sfS "Office" "all_tapes" (vE 0) (opE addD (fldE "Office" "all_tapes" (vE 0)) (tupE (consA (cE (.str [])) nilA))))
    (seqS (sfS "Office" "waits" (vE 0) (opE addD (fldE "Office" "waits" (vE 0)) (tupE (consA (cE .non) nilA))))
    (retS (opE subD (bE lenB (consA (fldE "Office" "all_stands" (vE 0)) nilA)) (cE (.int 1))))))))
def m_Office_come : Fn := fnS 2 b_Office_come
def b_Office_send : Sm :=
  (seqS (exS (callE m_need_row (consA (vE 1) (consA (cE (.int 400)) nilA))))
    (seqS (exS (mtE appM (fldE "Office" "past" (vE 0)) (consA (tupE (consA (vE 1) (consA (fldE "Office" "all_stands" (vE 0)) (consA (fldE "Office" "all_tapes" (vE 0)) (consA (fldE "Office" "waits" (vE 0)) nilA))))) nilA)))
    (seqS (ifS (tE (opE eqD (vE 1) (cE (.str [])))) retN nxS)
    (seqS (asgS (nmG 2) (lcE (itA (fldE "Office" "waits" (vE 0))) [3] (nmG 3) yesT (noX (ifE (tE (opE isNotND (vE 3) (cE .non))) (tpxE (consA (tupE (consA (cE (.int 0)) (consA (vE 3) nilA))) nilA)) (tpxE nilA)))))
    (seqS (asgS (nmG 4) (lcE (itZ (fldE "Office" "all_stands" (vE 0)) (vE 2)) [5, 6] (tupG (consG (nmG 5) (consG (nmG 6) nilG))) yesT (noX (callE m_rowed (consA (fldE "Office" "wheels" (vE 0)) (consA (vE 5) (consA (callE m_slipped (consA (vE 1) (consA (vE 6) nilA))) nilA)))))))
    (seqS (sfS "Office" "all_stands" (vE 0) (bE tupleB (consA (lcE (itA (vE 4)) [5, 7] (tupG (consG (nmG 5) (consG (nmG 7) nilG))) yesT (noX (vE 5))) nilA)))
    (seqS (sfS "Office" "all_tapes" (vE 0) (bE tupleB (consA (lcE (itZ (fldE "Office" "all_tapes" (vE 0)) (vE 4)) [8, 5, 7] (tupG (consG (nmG 8) (consG (tupG (consG (nmG 5) (consG (nmG 7) nilG))) nilG))) yesT (noX (opE addD (vE 8) (vE 7)))) nilA)))
    (sfS "Office" "waits" (vE 0) (opE mulTD (tupE (consA (cE .non) nilA)) (bE lenB (consA (fldE "Office" "waits" (vE 0)) nilA)))))))))))
def m_Office_send : Fn := fnS 9 b_Office_send
def b_Office_slip : Sm :=
  (seqS (ifS (notT (tE (callE m_is_whole (consA (vE 1) (consA (cE (.int 0)) (consA (opE subD (bE lenB (consA (fldE "Office" "all_stands" (vE 0)) nilA)) (cE (.int 1))) nilA)))))) (raiseS "NoPrinter") nxS)
    (seqS (ifS (orT (notT (tE (unE (isD "str") (vE 2)))) (tE (opE notInD (vE 2) (cE (.tup [(.str [108, 111, 115, 116]), (.str [116, 119, 105, 99, 101])]))))) (raiseS "NoWord") nxS)
    (sfS "Office" "waits" (vE 0) (opE addD (opE addD (slE slD (fldE "Office" "waits" (vE 0)) noO (someO (vE 1))) (tupE (consA (vE 2) nilA))) (slE slD (fldE "Office" "waits" (vE 0)) (someO (opE addD (vE 1) (cE (.int 1)))) noO)))))
def m_Office_slip : Fn := fnS 3 b_Office_slip
def b_Office_back : Sm :=
  (seqS (ifS (tE (opE eqD (fldE "Office" "past" (vE 0)) (lstE nilA))) (raiseS "Nothing") nxS)
    (seqS (asgS (tupG (consG (nmG 1) (consG (sfG "Office" "all_stands" (noX (vE 0))) (consG (sfG "Office" "all_tapes" (noX (vE 0))) (consG (sfG "Office" "waits" (noX (vE 0))) nilG))))) (mtE popM (fldE "Office" "past" (vE 0)) nilA))
    (retS (vE 1))))
def m_Office_back : Fn := fnS 2 b_Office_back
def b_law_do : Sm :=
  (tryS (ixR ["NoWheels", "NoStand", "NoRow", "NoSlips", "NoText", "NoPlace", "NoPrinter", "NoWord", "Nothing"] ["NoPrinter", "NoRow", "NoStand", "NoWheels", "NoWord", "Nothing"]) (seqS (ifS (tE (opE eqD (opE getD (vE 1) (cE (.int 0))) (cE (.str [99, 111, 109, 101])))) (retS (methE "Office" "come" m_Office_come (vE 0) (consA (opE getD (vE 1) (cE (.int 1))) nilA))) nxS)
    (seqS (ifS (tE (opE eqD (opE getD (vE 1) (cE (.int 0))) (cE (.str [115, 101, 110, 100])))) (retS (methE "Office" "send" m_Office_send (vE 0) (consA (opE getD (vE 1) (cE (.int 1))) nilA))) nxS)
    (retS (ifE (tE (opE eqD (opE getD (vE 1) (cE (.int 0))) (cE (.str [115, 108, 105, 112])))) (methE "Office" "slip" m_Office_slip (vE 0) (consA (opE getD (vE 1) (cE (.int 1))) (consA (opE getD (vE 1) (cE (.int 2))) nilA))) (methE "Office" "back" m_Office_back (vE 0) nilA))))))
def m_law_do : Fn := fnS 3 b_law_do
def b_Office_tapes : Sm :=
  (retS (bE listB (consA (fldE "Office" "all_tapes" (vE 0)) nilA)))
def m_Office_tapes : Fn := fnS 1 b_Office_tapes
def b_law_same : Sm :=
  (seqS (ifS (orT (tE (opE neD (methE "Office" "stands" m_Office_stands (vE 0) nilA) (lcVE 1000 (vE 1) [2] (nmG 2) yesT (noX (opE getD (vE 2) (cE (.int 0))))))) (tE (opE neD (methE "Office" "tapes" m_Office_tapes (vE 0) nilA) (lcVE 1000 (vE 1) [2] (nmG 2) yesT (noX (opE getD (vE 2) (cE (.int 1)))))))) (retS (cE (.bl false))) nxS)
    (retS (opE eqD (methE "Office" "in_step" m_Office_in_step_k12 (vE 0) nilA) (bE allB (consA (lcVE 1000 (vE 1) [2] (nmG 2) yesT (noX (opE eqD (slE slD (opE getD (vE 2) (cE (.int 0))) noO (someO (cE (.int 2)))) (slE slD (opE getD (opE getD (vE 1) (cE (.int 0))) (cE (.int 0))) noO (someO (cE (.int 2))))))) nilA)))))
def m_law_same : Fn := fnS 3 b_law_same
def b_law_k12 : Sm :=
  (seqS (asgS (nmG 1) (newE (lstE nilA)))
    (seqS (asgS (nmG 2) (callE m_law_draw (consA (vE 0) (consA (vE 1) (consA (cE (.int 31)) nilA)))))
    (seqS (asgS (nmG 3) (callE m_law_wheels_k01 (consA (vE 0) (consA (vE 1) (consA (cE (.int 6)) nilA)))))
    (seqS (parS 4 5 (mkE "Office" m_Office_init (consA (vE 3) nilA)) (mkE "Office" m_Office_init (consA (vE 3) nilA)))
    (seqS (parS 6 7 (newE (lstE nilA)) (newE (lstE nilA)))
    (seqS (forS (itR1 (vE 2)) (nmG 8) (seqS (asgS (nmG 9) (callE m_law_call (consA (vE 0) (consA (vE 1) (consA (vE 3) (consA (vE 6) nilA))))))
    (seqS (asgS (nmG 10) (callE m_law_own (consA (vE 6) (consA (vE 7) (consA (vE 3) (consA (vE 9) nilA))))))
    (seqS (ifS (orT (tE (opE neD (callE m_law_do (consA (vE 4) (consA (vE 9) nilA))) (vE 10))) (notT (tE (callE m_law_same (consA (vE 4) (consA (vE 6) nilA)))))) (retS (cE (.bl false))) nxS)
    (seqS (asgS (nmG 11) (newE (lstE (consA (tupE (consA (cE (.str [99, 111, 109, 101])) (consA (tupE (consA (cE (.int 0)) (consA (cE (.str [108])) nilA))) nilA))) (consA (tupE (consA (cE (.str [99, 111, 109, 101])) (consA (cE .non) nilA))) (consA (tupE (consA (cE (.str [115, 101, 110, 100])) (consA (cE (.str [120])) nilA))) (consA (tupE (consA (cE (.str [115, 101, 110, 100])) (consA (cE .non) nilA))) (consA (tupE (consA (cE (.str [115, 108, 105, 112])) (consA (bE lenB (consA (vE 6) nilA)) (consA (cE (.str [108, 111, 115, 116])) nilA)))) nilA))))))))
    (seqS (exS (mtE appM (vE 11) (consA (tupE (consA (cE (.str [115, 108, 105, 112])) (consA (cE (.int 0)) (consA (cE (.str [103, 111, 110, 101])) nilA)))) nilA)))
    (seqS (asgS (nmG 9) (callE m_law_pick (consA (vE 0) (consA (vE 1) (consA (slE slD (vE 11) noO (someO (opE addD (cE (.int 5)) (bE intB (consA (opE neY (vE 6) (lstE nilA)) nilA))))) nilA)))))
    (ifS (tE (opE neD (callE m_law_do (consA (vE 4) (consA (vE 9) nilA))) (tupE (consA (cE (.str [114, 101, 102, 117, 115, 101, 100])) (consA (opE dsubT (dct3E (cE (.str [99, 111, 109, 101])) (cE (.int 1)) (cE (.str [115, 101, 110, 100])) (cE (.int 2)) (cE (.str [115, 108, 105, 112])) (opE addD (cE (.int 6)) (bE intB (consA (opE eqD (opE getD (vE 9) (unE negD (cE (.int 1)))) (cE (.str [103, 111, 110, 101]))) nilA)))) (opE getD (vE 9) (cE (.int 0)))) nilA))))) (retS (cE (.bl false))) nxS))))))))
    (seqS (whileS 100000 (tE (opE neY (vE 7) (lstE nilA))) (ifS (orT (tE (opE neD (callE m_law_do (consA (vE 4) (consA (tupE (consA (cE (.str [98, 97, 99, 107])) nilA)) nilA))) (callE m_law_own (consA (vE 6) (consA (vE 7) (consA (vE 3) (consA (tupE (consA (cE (.str [98, 97, 99, 107])) nilA)) nilA))))))) (notT (tE (callE m_law_same (consA (vE 4) (consA (vE 6) nilA)))))) (retS (cE (.bl false))) nxS))
    (retS (andE (opE eqD (callE m_law_do (consA (vE 4) (consA (tupE (consA (cE (.str [98, 97, 99, 107])) nilA)) nilA))) (tupE (consA (cE (.str [114, 101, 102, 117, 115, 101, 100])) (consA (cE (.int 8)) nilA)))) (andE (opE eqD (methE "Office" "stands" m_Office_stands (vE 5) nilA) (lstE nilA)) (opE eqD (methE "Office" "in_step" m_Office_in_step_k12 (vE 5) nilA) (cE (.bl true)))))))))))))
def m_law_k12 : Fn := fnS 12 b_law_k12
end LW
namespace LW.K12
open PySem PySem.Spec PyProof.Rows L2
def topS (i : Nat) : Stmt := PySem.Challenge.pw_letterwheels_k12_whole_offices.main.body.getD i (.Pass ⟨0, 0, 0, 0⟩)
abbrev s_law_cell_at : Stmt := topS 39
abbrev N_law_cell_at : List Str := ["script", "k"]
theorem sc_law_cell_at : FnScope N_law_cell_at ["script", "k"] (defScope s_law_cell_at) := ⟨rfl, rfl, rfl, by decide +kernel, rfl, by decide +kernel, by decide +kernel⟩
abbrev s_law_mixed : Stmt := topS 40
abbrev N_law_mixed : List Str := ["script", "k", "many", "drawn"]
theorem sc_law_mixed : FnScope N_law_mixed ["script", "k", "many"] (defScope s_law_mixed) := ⟨rfl, rfl, rfl, by decide +kernel, rfl, by decide +kernel, by decide +kernel⟩
abbrev s_law_draw : Stmt := topS 41
abbrev N_law_draw : List Str := ["script", "town", "many"]
theorem sc_law_draw : FnScope N_law_draw ["script", "town", "many"] (defScope s_law_draw) := ⟨rfl, rfl, rfl, by decide +kernel, rfl, by decide +kernel, by decide +kernel⟩
abbrev s_law_wheels_k01 : Stmt := topS 43
abbrev N_law_wheels_k01 : List Str := ["script", "town", "most", "signs", "many", "both", "wheel", "left", "made", "k"]
theorem sc_law_wheels_k01 : FnScope N_law_wheels_k01 ["script", "town", "most"] (defScope s_law_wheels_k01) := ⟨rfl, rfl, rfl, by decide +kernel, rfl, by decide +kernel, by decide +kernel⟩
abbrev s_is_whole : Stmt := topS 18
abbrev N_is_whole : List Str := ["thing", "low", "most"]
theorem sc_is_whole : FnScope N_is_whole ["thing", "low", "most"] (defScope s_is_whole) := ⟨rfl, rfl, rfl, by decide +kernel, rfl, by decide +kernel, by decide +kernel⟩
abbrev s_are_signs : Stmt := topS 19
abbrev N_are_signs : List Str := ["thing", "low", "most", "sign"]
theorem sc_are_signs : FnScope N_are_signs ["thing", "low", "most"] (defScope s_are_signs) := ⟨rfl, rfl, rfl, by decide +kernel, rfl, by decide +kernel, by decide +kernel⟩
abbrev s_is_wheel : Stmt := topS 20
abbrev N_is_wheel : List Str := ["thing"]
theorem sc_is_wheel : FnScope N_is_wheel ["thing"] (defScope s_is_wheel) := ⟨rfl, rfl, rfl, by decide +kernel, rfl, by decide +kernel, by decide +kernel⟩
abbrev s_is_wheels : Stmt := topS 21
abbrev N_is_wheels : List Str := ["thing"]
theorem sc_is_wheels : FnScope N_is_wheels ["thing"] (defScope s_is_wheels) := ⟨rfl, rfl, rfl, by decide +kernel, rfl, by decide +kernel, by decide +kernel⟩
abbrev s_need_wheels : Stmt := topS 22
abbrev N_need_wheels : List Str := ["thing"]
theorem sc_need_wheels : FnScope N_need_wheels ["thing"] (defScope s_need_wheels) := ⟨rfl, rfl, rfl, by decide +kernel, rfl, by decide +kernel, by decide +kernel⟩
abbrev s_Office_init : Stmt := inClass (topS 37) 0
abbrev N_Office_init : List Str := ["self", "wheels"]
theorem sc_Office_init : FnScope N_Office_init ["self", "wheels"] (defScope s_Office_init) := ⟨rfl, rfl, rfl, by decide +kernel, rfl, by decide +kernel, by decide +kernel⟩
abbrev s_law_pick : Stmt := topS 42
abbrev N_law_pick : List Str := ["script", "town", "some"]
theorem sc_law_pick : FnScope N_law_pick ["script", "town", "some"] (defScope s_law_pick) := ⟨rfl, rfl, rfl, by decide +kernel, rfl, by decide +kernel, by decide +kernel⟩
abbrev s_law_stand_k02 : Stmt := topS 44
abbrev N_law_stand_k02 : List Str := ["script", "town", "wheels", "many", "idle"]
theorem sc_law_stand_k02 : FnScope N_law_stand_k02 ["script", "town", "wheels"] (defScope s_law_stand_k02) := ⟨rfl, rfl, rfl, by decide +kernel, rfl, by decide +kernel, by decide +kernel⟩
abbrev s_law_row_k02 : Stmt := topS 45
abbrev N_law_row_k02 : List Str := ["script", "town", "wheels", "most", "made", "k", "kind", "many"]
theorem sc_law_row_k02 : FnScope N_law_row_k02 ["script", "town", "wheels", "most"] (defScope s_law_row_k02) := ⟨rfl, rfl, rfl, by decide +kernel, rfl, by decide +kernel, by decide +kernel⟩
abbrev s_law_call : Stmt := topS 53
abbrev N_law_call : List Str := ["script", "town", "wheels", "model", "kind", "stand", "row", "word", "number"]
theorem sc_law_call : FnScope N_law_call ["script", "town", "wheels", "model"] (defScope s_law_call) := ⟨rfl, rfl, rfl, by decide +kernel, rfl, by decide +kernel, by decide +kernel⟩
abbrev s_law_pulse_k02 : Stmt := topS 46
abbrev N_law_pulse_k02 : List Str := ["wheels", "stand", "pulse", "place", "wheel", "idle", "many"]
theorem sc_law_pulse_k02 : FnScope N_law_pulse_k02 ["wheels", "stand", "pulse"] (defScope s_law_pulse_k02) := ⟨rfl, rfl, rfl, by decide +kernel, rfl, by decide +kernel, by decide +kernel⟩
abbrev s_law_go : Stmt := topS 47
abbrev N_law_go : List Str := ["wheels", "stand", "row", "text", "pulse", "sign"]
theorem sc_law_go : FnScope N_law_go ["wheels", "stand", "row"] (defScope s_law_go) := ⟨rfl, rfl, rfl, by decide +kernel, rfl, by decide +kernel, by decide +kernel⟩
abbrev s_law_with : Stmt := topS 48
abbrev N_law_with : List Str := ["row", "slips", "made", "number", "pulse", "words", "at", "word"]
theorem sc_law_with : FnScope N_law_with ["row", "slips"] (defScope s_law_with) := ⟨rfl, rfl, rfl, by decide +kernel, rfl, by decide +kernel, by decide +kernel⟩
abbrev s_law_own : Stmt := topS 51
abbrev N_law_own : List Str := ["model", "past", "wheels", "call", "one", "slips", "text", "row", "old"]
theorem sc_law_own : FnScope N_law_own ["model", "past", "wheels", "call"] (defScope s_law_own) := ⟨rfl, rfl, rfl, by decide +kernel, rfl, by decide +kernel, by decide +kernel⟩
abbrev s_Office_stands : Stmt := inClass (topS 37) 4
abbrev N_Office_stands : List Str := ["self"]
theorem sc_Office_stands : FnScope N_Office_stands ["self"] (defScope s_Office_stands) := ⟨rfl, rfl, rfl, by decide +kernel, rfl, by decide +kernel, by decide +kernel⟩
abbrev s_is_one : Stmt := topS 35
abbrev N_is_one : List Str := ["things"]
theorem sc_is_one : FnScope N_is_one ["things"] (defScope s_is_one) := ⟨rfl, rfl, rfl, by decide +kernel, rfl, by decide +kernel, by decide +kernel⟩
abbrev s_Office_in_step_k12 : Stmt := inClass (topS 37) 6
abbrev N_Office_in_step_k12 : List Str := ["self", "stand"]
theorem sc_Office_in_step_k12 : FnScope N_Office_in_step_k12 ["self"] (defScope s_Office_in_step_k12) := ⟨rfl, rfl, rfl, by decide +kernel, rfl, by decide +kernel, by decide +kernel⟩
abbrev s_places_of : Stmt := topS 23
abbrev N_places_of : List Str := ["wheels"]
theorem sc_places_of : FnScope N_places_of ["wheels"] (defScope s_places_of) := ⟨rfl, rfl, rfl, by decide +kernel, rfl, by decide +kernel, by decide +kernel⟩
abbrev s_is_stand : Stmt := topS 24
abbrev N_is_stand : List Str := ["wheels", "thing"]
theorem sc_is_stand : FnScope N_is_stand ["wheels", "thing"] (defScope s_is_stand) := ⟨rfl, rfl, rfl, by decide +kernel, rfl, by decide +kernel, by decide +kernel⟩
abbrev s_need_stand : Stmt := topS 25
abbrev N_need_stand : List Str := ["wheels", "thing"]
theorem sc_need_stand : FnScope N_need_stand ["wheels", "thing"] (defScope s_need_stand) := ⟨rfl, rfl, rfl, by decide +kernel, rfl, by decide +kernel, by decide +kernel⟩
abbrev s_Office_come : Stmt := inClass (topS 37) 1
abbrev N_Office_come : List Str := ["self", "stand"]
theorem sc_Office_come : FnScope N_Office_come ["self", "stand"] (defScope s_Office_come) := ⟨rfl, rfl, rfl, by decide +kernel, rfl, by decide +kernel, by decide +kernel⟩
abbrev s_is_row : Stmt := topS 26
abbrev N_is_row : List Str := ["thing", "most", "pulse"]
theorem sc_is_row : FnScope N_is_row ["thing", "most"] (defScope s_is_row) := ⟨rfl, rfl, rfl, by decide +kernel, rfl, by decide +kernel, by decide +kernel⟩
abbrev s_need_row : Stmt := topS 27
abbrev N_need_row : List Str := ["thing", "most"]
theorem sc_need_row : FnScope N_need_row ["thing", "most"] (defScope s_need_row) := ⟨rfl, rfl, rfl, by decide +kernel, rfl, by decide +kernel, by decide +kernel⟩
abbrev s_is_caught : Stmt := topS 30
abbrev N_is_caught : List Str := ["wheels", "stand"]
theorem sc_is_caught : FnScope N_is_caught ["wheels", "stand"] (defScope s_is_caught) := ⟨rfl, rfl, rfl, by decide +kernel, rfl, by decide +kernel, by decide +kernel⟩
abbrev s_pulsed : Stmt := topS 31
abbrev N_pulsed : List Str := ["wheels", "stand", "pulse", "place", "wheel", "idle"]
theorem sc_pulsed : FnScope N_pulsed ["wheels", "stand", "pulse"] (defScope s_pulsed) := ⟨rfl, rfl, rfl, by decide +kernel, rfl, by decide +kernel, by decide +kernel⟩
abbrev s_rowed : Stmt := topS 32
abbrev N_rowed : List Str := ["wheels", "stand", "row", "text", "pulse", "sign"]
theorem sc_rowed : FnScope N_rowed ["wheels", "stand", "row"] (defScope s_rowed) := ⟨rfl, rfl, rfl, by decide +kernel, rfl, by decide +kernel, by decide +kernel⟩
abbrev s_slipped : Stmt := topS 33
abbrev N_slipped : List Str := ["row", "slips", "book", "many", "number", "pulse", "often"]
theorem sc_slipped : FnScope N_slipped ["row", "slips"] (defScope s_slipped) := ⟨rfl, rfl, rfl, by decide +kernel, rfl, by decide +kernel, by decide +kernel⟩
abbrev s_Office_send : Stmt := inClass (topS 37) 2
abbrev N_Office_send : List Str := ["self", "row", "slips", "word", "some", "stand", "one", "text", "old"]
theorem sc_Office_send : FnScope N_Office_send ["self", "row"] (defScope s_Office_send) := ⟨rfl, rfl, rfl, by decide +kernel, rfl, by decide +kernel, by decide +kernel⟩
abbrev s_Office_slip : Stmt := inClass (topS 37) 3
abbrev N_Office_slip : List Str := ["self", "number", "word"]
theorem sc_Office_slip : FnScope N_Office_slip ["self", "number", "word"] (defScope s_Office_slip) := ⟨rfl, rfl, rfl, by decide +kernel, rfl, by decide +kernel, by decide +kernel⟩
abbrev s_Office_back : Stmt := inClass (topS 37) 7
abbrev N_Office_back : List Str := ["self", "row"]
theorem sc_Office_back : FnScope N_Office_back ["self"] (defScope s_Office_back) := ⟨rfl, rfl, rfl, by decide +kernel, rfl, by decide +kernel, by decide +kernel⟩
abbrev s_law_which : Stmt := topS 49
abbrev N_law_which : List Str := ["e", "own"]
theorem sc_law_which : FnScope N_law_which ["e"] (defScope s_law_which) := ⟨rfl, rfl, rfl, by decide +kernel, rfl, by decide +kernel, by decide +kernel⟩
abbrev s_law_do : Stmt := topS 50
abbrev N_law_do : List Str := ["office", "call", "e"]
theorem sc_law_do : FnScope N_law_do ["office", "call"] (defScope s_law_do) := ⟨rfl, rfl, rfl, by decide +kernel, rfl, by decide +kernel, by decide +kernel⟩
abbrev s_Office_tapes : Stmt := inClass (topS 37) 5
abbrev N_Office_tapes : List Str := ["self"]
theorem sc_Office_tapes : FnScope N_Office_tapes ["self"] (defScope s_Office_tapes) := ⟨rfl, rfl, rfl, by decide +kernel, rfl, by decide +kernel, by decide +kernel⟩
abbrev s_law_same : Stmt := topS 52
abbrev N_law_same : List Str := ["office", "model", "one"]
theorem sc_law_same : FnScope N_law_same ["office", "model"] (defScope s_law_same) := ⟨rfl, rfl, rfl, by decide +kernel, rfl, by decide +kernel, by decide +kernel⟩
abbrev s_law_k12 : Stmt := topS 54
abbrev N_law_k12 : List Str := ["script", "town", "turns", "wheels", "office", "other", "model", "past", "k", "call", "wish", "bad"]
theorem sc_law_k12 : FnScope N_law_k12 ["script"] (defScope s_law_k12) := ⟨rfl, rfl, rfl, by decide +kernel, rfl, by decide +kernel, by decide +kernel⟩
structure Txt (C : Cn) (mg : Str → Option Value) where
  f_law_cell_at : Addr
  fd_law_cell_at : FuncData
  F_law_cell_at : Fun C.K "_law_cell_at" "_law_cell_at" s_law_cell_at f_law_cell_at fd_law_cell_at
  g_law_cell_at : mg "_law_cell_at" = some (.ref f_law_cell_at)
  b_law_cell_at : Binds C.K fd_law_cell_at ["script", "k"] []
  f_law_mixed : Addr
  fd_law_mixed : FuncData
  F_law_mixed : Fun C.K "_law_mixed" "_law_mixed" s_law_mixed f_law_mixed fd_law_mixed
  g_law_mixed : mg "_law_mixed" = some (.ref f_law_mixed)
  b_law_mixed : Binds C.K fd_law_mixed ["script", "k", "many"] []
  f_law_draw : Addr
  fd_law_draw : FuncData
  F_law_draw : Fun C.K "_law_draw" "_law_draw" s_law_draw f_law_draw fd_law_draw
  g_law_draw : mg "_law_draw" = some (.ref f_law_draw)
  b_law_draw : Binds C.K fd_law_draw ["script", "town", "many"] []
  f_law_wheels_k01 : Addr
  fd_law_wheels_k01 : FuncData
  F_law_wheels_k01 : Fun C.K "_law_wheels" "_law_wheels" s_law_wheels_k01 f_law_wheels_k01 fd_law_wheels_k01
  g_law_wheels_k01 : mg "_law_wheels" = some (.ref f_law_wheels_k01)
  b_law_wheels_k01 : Binds C.K fd_law_wheels_k01 ["script", "town", "most"] []
  f_is_whole : Addr
  fd_is_whole : FuncData
  F_is_whole : Fun C.K "is_whole" "is_whole" s_is_whole f_is_whole fd_is_whole
  g_is_whole : mg "is_whole" = some (.ref f_is_whole)
  b_is_whole : Binds C.K fd_is_whole ["thing", "low", "most"] []
  f_are_signs : Addr
  fd_are_signs : FuncData
  F_are_signs : Fun C.K "are_signs" "are_signs" s_are_signs f_are_signs fd_are_signs
  g_are_signs : mg "are_signs" = some (.ref f_are_signs)
  b_are_signs : Binds C.K fd_are_signs ["thing", "low", "most"] []
  f_is_wheel : Addr
  fd_is_wheel : FuncData
  F_is_wheel : Fun C.K "is_wheel" "is_wheel" s_is_wheel f_is_wheel fd_is_wheel
  g_is_wheel : mg "is_wheel" = some (.ref f_is_wheel)
  b_is_wheel : Binds C.K fd_is_wheel ["thing"] []
  f_is_wheels : Addr
  fd_is_wheels : FuncData
  F_is_wheels : Fun C.K "is_wheels" "is_wheels" s_is_wheels f_is_wheels fd_is_wheels
  g_is_wheels : mg "is_wheels" = some (.ref f_is_wheels)
  b_is_wheels : Binds C.K fd_is_wheels ["thing"] []
  f_need_wheels : Addr
  fd_need_wheels : FuncData
  F_need_wheels : Fun C.K "need_wheels" "need_wheels" s_need_wheels f_need_wheels fd_need_wheels
  g_need_wheels : mg "need_wheels" = some (.ref f_need_wheels)
  b_need_wheels : Binds C.K fd_need_wheels ["thing"] []
  f_Office_init : Addr
  fd_Office_init : FuncData
  F_Office_init : Fun C.K "__init__" "Office.__init__" s_Office_init f_Office_init fd_Office_init
  b_Office_init : Binds C.K fd_Office_init ["self", "wheels"] []
  f_law_pick : Addr
  fd_law_pick : FuncData
  F_law_pick : Fun C.K "_law_pick" "_law_pick" s_law_pick f_law_pick fd_law_pick
  g_law_pick : mg "_law_pick" = some (.ref f_law_pick)
  b_law_pick : Binds C.K fd_law_pick ["script", "town", "some"] []
  f_law_stand_k02 : Addr
  fd_law_stand_k02 : FuncData
  F_law_stand_k02 : Fun C.K "_law_stand" "_law_stand" s_law_stand_k02 f_law_stand_k02 fd_law_stand_k02
  g_law_stand_k02 : mg "_law_stand" = some (.ref f_law_stand_k02)
  b_law_stand_k02 : Binds C.K fd_law_stand_k02 ["script", "town", "wheels"] []
  f_law_row_k02 : Addr
  fd_law_row_k02 : FuncData
  F_law_row_k02 : Fun C.K "_law_row" "_law_row" s_law_row_k02 f_law_row_k02 fd_law_row_k02
  g_law_row_k02 : mg "_law_row" = some (.ref f_law_row_k02)
  b_law_row_k02 : Binds C.K fd_law_row_k02 ["script", "town", "wheels", "most"] []
  f_law_call : Addr
  fd_law_call : FuncData
  F_law_call : Fun C.K "_law_call" "_law_call" s_law_call f_law_call fd_law_call
  g_law_call : mg "_law_call" = some (.ref f_law_call)
  b_law_call : Binds C.K fd_law_call ["script", "town", "wheels", "model"] []
  f_law_pulse_k02 : Addr
  fd_law_pulse_k02 : FuncData
  F_law_pulse_k02 : Fun C.K "_law_pulse" "_law_pulse" s_law_pulse_k02 f_law_pulse_k02 fd_law_pulse_k02
  g_law_pulse_k02 : mg "_law_pulse" = some (.ref f_law_pulse_k02)
  b_law_pulse_k02 : Binds C.K fd_law_pulse_k02 ["wheels", "stand", "pulse"] []
  f_law_go : Addr
  fd_law_go : FuncData
  F_law_go : Fun C.K "_law_go" "_law_go" s_law_go f_law_go fd_law_go
  g_law_go : mg "_law_go" = some (.ref f_law_go)
  b_law_go : Binds C.K fd_law_go ["wheels", "stand", "row"] []
  f_law_with : Addr
  fd_law_with : FuncData
  F_law_with : Fun C.K "_law_with" "_law_with" s_law_with f_law_with fd_law_with
  g_law_with : mg "_law_with" = some (.ref f_law_with)
  b_law_with : Binds C.K fd_law_with ["row", "slips"] []
  f_law_own : Addr
  fd_law_own : FuncData
  F_law_own : Fun C.K "_law_own" "_law_own" s_law_own f_law_own fd_law_own
  g_law_own : mg "_law_own" = some (.ref f_law_own)
  b_law_own : Binds C.K fd_law_own ["model", "past", "wheels", "call"] []
  f_Office_stands : Addr
  fd_Office_stands : FuncData
  F_Office_stands : Fun C.K "stands" "Office.stands" s_Office_stands f_Office_stands fd_Office_stands
  b_Office_stands : Binds C.K fd_Office_stands ["self"] []
  f_is_one : Addr
  fd_is_one : FuncData
  F_is_one : Fun C.K "is_one" "is_one" s_is_one f_is_one fd_is_one
  g_is_one : mg "is_one" = some (.ref f_is_one)
  b_is_one : Binds C.K fd_is_one ["things"] []
  f_Office_in_step_k12 : Addr
  fd_Office_in_step_k12 : FuncData
  F_Office_in_step_k12 : Fun C.K "in_step" "Office.in_step" s_Office_in_step_k12 f_Office_in_step_k12 fd_Office_in_step_k12
  b_Office_in_step_k12 : Binds C.K fd_Office_in_step_k12 ["self"] []
  f_places_of : Addr
  fd_places_of : FuncData
  F_places_of : Fun C.K "places_of" "places_of" s_places_of f_places_of fd_places_of
  g_places_of : mg "places_of" = some (.ref f_places_of)
  b_places_of : Binds C.K fd_places_of ["wheels"] []
  f_is_stand : Addr
  fd_is_stand : FuncData
  F_is_stand : Fun C.K "is_stand" "is_stand" s_is_stand f_is_stand fd_is_stand
  g_is_stand : mg "is_stand" = some (.ref f_is_stand)
  b_is_stand : Binds C.K fd_is_stand ["wheels", "thing"] []
  f_need_stand : Addr
  fd_need_stand : FuncData
  F_need_stand : Fun C.K "need_stand" "need_stand" s_need_stand f_need_stand fd_need_stand
  g_need_stand : mg "need_stand" = some (.ref f_need_stand)
  b_need_stand : Binds C.K fd_need_stand ["wheels", "thing"] []
  f_Office_come : Addr
  fd_Office_come : FuncData
  F_Office_come : Fun C.K "come" "Office.come" s_Office_come f_Office_come fd_Office_come
  b_Office_come : Binds C.K fd_Office_come ["self", "stand"] []
  f_is_row : Addr
  fd_is_row : FuncData
  F_is_row : Fun C.K "is_row" "is_row" s_is_row f_is_row fd_is_row
  g_is_row : mg "is_row" = some (.ref f_is_row)
  b_is_row : Binds C.K fd_is_row ["thing", "most"] []
  f_need_row : Addr
  fd_need_row : FuncData
  F_need_row : Fun C.K "need_row" "need_row" s_need_row f_need_row fd_need_row
  g_need_row : mg "need_row" = some (.ref f_need_row)
  b_need_row : Binds C.K fd_need_row ["thing", "most"] []
  f_is_caught : Addr
  fd_is_caught : FuncData
  F_is_caught : Fun C.K "is_caught" "is_caught" s_is_caught f_is_caught fd_is_caught
  g_is_caught : mg "is_caught" = some (.ref f_is_caught)
  b_is_caught : Binds C.K fd_is_caught ["wheels", "stand"] []
  f_pulsed : Addr
  fd_pulsed : FuncData
  F_pulsed : Fun C.K "pulsed" "pulsed" s_pulsed f_pulsed fd_pulsed
  g_pulsed : mg "pulsed" = some (.ref f_pulsed)
  b_pulsed : Binds C.K fd_pulsed ["wheels", "stand", "pulse"] []
  f_rowed : Addr
  fd_rowed : FuncData
  F_rowed : Fun C.K "rowed" "rowed" s_rowed f_rowed fd_rowed
  g_rowed : mg "rowed" = some (.ref f_rowed)
  b_rowed : Binds C.K fd_rowed ["wheels", "stand", "row"] []
  f_slipped : Addr
  fd_slipped : FuncData
  F_slipped : Fun C.K "slipped" "slipped" s_slipped f_slipped fd_slipped
  g_slipped : mg "slipped" = some (.ref f_slipped)
  b_slipped : Binds C.K fd_slipped ["row", "slips"] []
  f_Office_send : Addr
  fd_Office_send : FuncData
  F_Office_send : Fun C.K "send" "Office.send" s_Office_send f_Office_send fd_Office_send
  b_Office_send : Binds C.K fd_Office_send ["self", "row"] []
  f_Office_slip : Addr
  fd_Office_slip : FuncData
  F_Office_slip : Fun C.K "slip" "Office.slip" s_Office_slip f_Office_slip fd_Office_slip
  b_Office_slip : Binds C.K fd_Office_slip ["self", "number", "word"] []
  f_Office_back : Addr
  fd_Office_back : FuncData
  F_Office_back : Fun C.K "back" "Office.back" s_Office_back f_Office_back fd_Office_back
  b_Office_back : Binds C.K fd_Office_back ["self"] []
  f_law_which : Addr
  fd_law_which : FuncData
  F_law_which : Fun C.K "_law_which" "_law_which" s_law_which f_law_which fd_law_which
  g_law_which : mg "_law_which" = some (.ref f_law_which)
  b_law_which : Binds C.K fd_law_which ["e"] []
  f_law_do : Addr
  fd_law_do : FuncData
  F_law_do : Fun C.K "_law_do" "_law_do" s_law_do f_law_do fd_law_do
  g_law_do : mg "_law_do" = some (.ref f_law_do)
  b_law_do : Binds C.K fd_law_do ["office", "call"] []
  f_Office_tapes : Addr
  fd_Office_tapes : FuncData
  F_Office_tapes : Fun C.K "tapes" "Office.tapes" s_Office_tapes f_Office_tapes fd_Office_tapes
  b_Office_tapes : Binds C.K fd_Office_tapes ["self"] []
  f_law_same : Addr
  fd_law_same : FuncData
  F_law_same : Fun C.K "_law_same" "_law_same" s_law_same f_law_same fd_law_same
  g_law_same : mg "_law_same" = some (.ref f_law_same)
  b_law_same : Binds C.K fd_law_same ["office", "model"] []
  f_law_k12 : Addr
  fd_law_k12 : FuncData
  F_law_k12 : Fun C.K "law" "law" s_law_k12 f_law_k12 fd_law_k12
  g_law_k12 : mg "law" = some (.ref f_law_k12)
  b_law_k12 : Binds C.K fd_law_k12 ["script"] []
  x_Office : Addr
  c_Office : C.cls "Office" = .ref x_Office
  n_Office : mg "Office" = some (.ref x_Office)
  cl_Office : Cls C.K x_Office
  na_Office_all_stands : NoAttr C.K x_Office "all_stands"
  na_Office_all_tapes : NoAttr C.K x_Office "all_tapes"
  na_Office_past : NoAttr C.K x_Office "past"
  na_Office_waits : NoAttr C.K x_Office "waits"
  na_Office_wheels : NoAttr C.K x_Office "wheels"
  mk_Office : Mk C.K x_Office f_Office_init
  mt_Office_stands : Meth C.K x_Office "stands" f_Office_stands
  mt_Office_in_step_k12 : Meth C.K x_Office "in_step" f_Office_in_step_k12
  mt_Office_come : Meth C.K x_Office "come" f_Office_come
  mt_Office_send : Meth C.K x_Office "send" f_Office_send
  mt_Office_slip : Meth C.K x_Office "slip" f_Office_slip
  mt_Office_back : Meth C.K x_Office "back" f_Office_back
  mt_Office_tapes : Meth C.K x_Office "tapes" f_Office_tapes
  z_ValueError : mg "ValueError" = none
  z_all : mg "all" = none
  z_bool : mg "bool" = none
  z_dict : mg "dict" = none
  z_enumerate : mg "enumerate" = none
  z_int : mg "int" = none
  z_isinstance : mg "isinstance" = none
  z_len : mg "len" = none
  z_list : mg "list" = none
  z_max : mg "max" = none
  z_range : mg "range" = none
  z_set : mg "set" = none
  z_str : mg "str" = none
  z_tuple : mg "tuple" = none
  z_zip : mg "zip" = none
  k_LEAST : ∃ v u, mg "LEAST" = some u ∧ RelV v u ∧ ∀ ρ H, RepV C ρ H (.int 2) v
  k_LONG : ∃ v u, mg "LONG" = some u ∧ RelV v u ∧ ∀ ρ H, RepV C ρ H (.int 400) v
  k_MOST : ∃ v u, mg "MOST" = some u ∧ RelV v u ∧ ∀ ρ H, RepV C ρ H (.int 30) v
  k_PULSES : ∃ v u, mg "PULSES" = some u ∧ RelV v u ∧ ∀ ρ H, RepV C ρ H (.str c_PULSES) v
  k_SIGNS : ∃ v u, mg "SIGNS" = some u ∧ RelV v u ∧ ∀ ρ H, RepV C ρ H (.str c_SIGNS) v
  k_TURNS : ∃ v u, mg "TURNS" = some u ∧ RelV v u ∧ ∀ ρ H, RepV C ρ H (.int 3) v
  k_WORDS : ∃ v u, mg "WORDS" = some u ∧ RelV v u ∧ ∀ ρ H, RepV C ρ H (.tup [(.str [108, 111, 115, 116]), (.str [116, 119, 105, 99, 101])]) v
  x_WheelError : Addr
  n_WheelError : mg "WheelError" = some (.ref x_WheelError)
  x_NoSlips : Addr
  n_NoSlips : mg "NoSlips" = some (.ref x_NoSlips)
  x_NoText : Addr
  n_NoText : mg "NoText" = some (.ref x_NoText)
  x_NoPlace : Addr
  n_NoPlace : mg "NoPlace" = some (.ref x_NoPlace)
  x_NoPrinter : Addr
  q_NoPrinter : PySem.W.excIn C.K x_NoPrinter [.type "ValueError", .type "Exception", .type "BaseException", .type "object"] "ValueError.__new__" = true
  n_NoPrinter : mg "NoPrinter" = some (.ref x_NoPrinter)
  p_NoPrinter : PySem.W.keepIn C.K (.ref x_NoPrinter) = true
  e_NoPrinter : PySem.W.subIn C.K (.ref x_NoPrinter) (.type "BaseException") = some true
  t_NoPrinter : PySem.W.typeIn C.K (.ref x_NoPrinter) = some (.type "type")
  c_NoPrinter : C.cls "NoPrinter" = .ref x_NoPrinter
  x_NoRow : Addr
  q_NoRow : PySem.W.excIn C.K x_NoRow [.type "ValueError", .type "Exception", .type "BaseException", .type "object"] "ValueError.__new__" = true
  n_NoRow : mg "NoRow" = some (.ref x_NoRow)
  p_NoRow : PySem.W.keepIn C.K (.ref x_NoRow) = true
  e_NoRow : PySem.W.subIn C.K (.ref x_NoRow) (.type "BaseException") = some true
  t_NoRow : PySem.W.typeIn C.K (.ref x_NoRow) = some (.type "type")
  c_NoRow : C.cls "NoRow" = .ref x_NoRow
  x_NoStand : Addr
  q_NoStand : PySem.W.excIn C.K x_NoStand [.type "ValueError", .type "Exception", .type "BaseException", .type "object"] "ValueError.__new__" = true
  n_NoStand : mg "NoStand" = some (.ref x_NoStand)
  p_NoStand : PySem.W.keepIn C.K (.ref x_NoStand) = true
  e_NoStand : PySem.W.subIn C.K (.ref x_NoStand) (.type "BaseException") = some true
  t_NoStand : PySem.W.typeIn C.K (.ref x_NoStand) = some (.type "type")
  c_NoStand : C.cls "NoStand" = .ref x_NoStand
  x_NoWheels : Addr
  q_NoWheels : PySem.W.excIn C.K x_NoWheels [.type "ValueError", .type "Exception", .type "BaseException", .type "object"] "ValueError.__new__" = true
  n_NoWheels : mg "NoWheels" = some (.ref x_NoWheels)
  p_NoWheels : PySem.W.keepIn C.K (.ref x_NoWheels) = true
  e_NoWheels : PySem.W.subIn C.K (.ref x_NoWheels) (.type "BaseException") = some true
  t_NoWheels : PySem.W.typeIn C.K (.ref x_NoWheels) = some (.type "type")
  c_NoWheels : C.cls "NoWheels" = .ref x_NoWheels
  x_NoWord : Addr
  q_NoWord : PySem.W.excIn C.K x_NoWord [.type "ValueError", .type "Exception", .type "BaseException", .type "object"] "ValueError.__new__" = true
  n_NoWord : mg "NoWord" = some (.ref x_NoWord)
  p_NoWord : PySem.W.keepIn C.K (.ref x_NoWord) = true
  e_NoWord : PySem.W.subIn C.K (.ref x_NoWord) (.type "BaseException") = some true
  t_NoWord : PySem.W.typeIn C.K (.ref x_NoWord) = some (.type "type")
  c_NoWord : C.cls "NoWord" = .ref x_NoWord
  x_Nothing : Addr
  q_Nothing : PySem.W.excIn C.K x_Nothing [.type "ValueError", .type "Exception", .type "BaseException", .type "object"] "ValueError.__new__" = true
  n_Nothing : mg "Nothing" = some (.ref x_Nothing)
  p_Nothing : PySem.W.keepIn C.K (.ref x_Nothing) = true
  e_Nothing : PySem.W.subIn C.K (.ref x_Nothing) (.type "BaseException") = some true
  t_Nothing : PySem.W.typeIn C.K (.ref x_Nothing) = some (.type "type")
  c_Nothing : C.cls "Nothing" = .ref x_Nothing
  h_NoPrinter : PySem.W.exmOne C.K (.ref x_NoPrinter) (.ref x_WheelError) = some true
  w_NoPrinter : WhX C.K x_NoPrinter [x_NoWheels, x_NoStand, x_NoRow, x_NoSlips, x_NoText, x_NoPlace, x_NoPrinter, x_NoWord, x_Nothing] [false, false, false, false, false, false, true, false, false]
  h_NoRow : PySem.W.exmOne C.K (.ref x_NoRow) (.ref x_WheelError) = some true
  w_NoRow : WhX C.K x_NoRow [x_NoWheels, x_NoStand, x_NoRow, x_NoSlips, x_NoText, x_NoPlace, x_NoPrinter, x_NoWord, x_Nothing] [false, false, true, false, false, false, false, false, false]
  h_NoStand : PySem.W.exmOne C.K (.ref x_NoStand) (.ref x_WheelError) = some true
  w_NoStand : WhX C.K x_NoStand [x_NoWheels, x_NoStand, x_NoRow, x_NoSlips, x_NoText, x_NoPlace, x_NoPrinter, x_NoWord, x_Nothing] [false, true, false, false, false, false, false, false, false]
  h_NoWheels : PySem.W.exmOne C.K (.ref x_NoWheels) (.ref x_WheelError) = some true
  w_NoWheels : WhX C.K x_NoWheels [x_NoWheels, x_NoStand, x_NoRow, x_NoSlips, x_NoText, x_NoPlace, x_NoPrinter, x_NoWord, x_Nothing] [true, false, false, false, false, false, false, false, false]
  h_NoWord : PySem.W.exmOne C.K (.ref x_NoWord) (.ref x_WheelError) = some true
  w_NoWord : WhX C.K x_NoWord [x_NoWheels, x_NoStand, x_NoRow, x_NoSlips, x_NoText, x_NoPlace, x_NoPrinter, x_NoWord, x_Nothing] [false, false, false, false, false, false, false, true, false]
  h_Nothing : PySem.W.exmOne C.K (.ref x_Nothing) (.ref x_WheelError) = some true
  w_Nothing : WhX C.K x_Nothing [x_NoWheels, x_NoStand, x_NoRow, x_NoSlips, x_NoText, x_NoPlace, x_NoPrinter, x_NoWord, x_Nothing] [false, false, false, false, false, false, false, false, true]
section
variable {C : Cn} {P : Program} {mg : Str → Option Value} {base : Heap}
theorem ok_law_cell_at (T : Txt C mg) : FnOk P C.w C.K mg base (L2.CX P C.w) 1 T.f_law_cell_at T.fd_law_cell_at ["script", "k"] (spOf C 2 m_law_cell_at) := by
  refine fn_ok (N := N_law_cell_at) (body := b_law_cell_at) T.F_law_cell_at sc_law_cell_at rfl fun cdv A outer s H E hr => ?_
  have tk : TakesK (cxOf (L2.CX P C.w) P C.w C.K mg base N_law_cell_at "_law_cell_at" (defScope s_law_cell_at) T.f_law_cell_at cdv A outer s H E) E := takes_of rfl rfl rfl rfl
  have pw : PassesOwn (model P C.w) (cxOf (L2.CX P C.w) P C.w C.K mg base N_law_cell_at "_law_cell_at" (defScope s_law_cell_at) T.f_law_cell_at cdv A outer s H E).A (cxOf (L2.CX P C.w) P C.w C.K mg base N_law_cell_at "_law_cell_at" (defScope s_law_cell_at) T.f_law_cell_at cdv A outer s H E).env (cxOf (L2.CX P C.w) P C.w C.K mg base N_law_cell_at "_law_cell_at" (defScope s_law_cell_at) T.f_law_cell_at cdv A outer s H E).xe := passes_of rfl
  exact (dss_cons (ds_if (by exact (dt_cmp or_lt os_lt (by exact (dv 1)) (by exact (de_callB call_len bs_len (by rfl) T.z_len PySem.boot_len (by exact (da_cons (by exact (dv 0)) da_nil)))) (nomark _))) (dss_one (ds_ret (by exact (de_ix ix_seq os_get (by exact (dv 0)) (by exact (dv 1)) (fun _ _ => rfl))))) dss_nil)
    (dss_cons (ds_if (by exact (dt_cmp (op_eqD hr.units) os_eq (by exact (dv 0)) (by exact (de_lst da_nil)) (nomark _))) (dss_one (ds_ret de_int)) dss_nil)
    (dss_one (ds_ret (by exact (de_op or_add os_add (by exact (de_op or_mul os_mul (by exact (de_ix ix_seq os_get (by exact (dv 0)) (by exact (de_op op_mod os_mod (by exact (dv 1)) (by exact (de_callB call_len bs_len (by rfl) T.z_len PySem.boot_len (by exact (da_cons (by exact (dv 0)) da_nil)))))) (fun _ _ => rfl))) de_int)) (by exact (dv 1))))))))
theorem ok_law_mixed (T : Txt C mg) : FnOk P C.w C.K mg base (L2.CX P C.w) 2 T.f_law_mixed T.fd_law_mixed ["script", "k", "many"] (spOf C 3 m_law_mixed) := by
  refine fn_ok (N := N_law_mixed) (body := b_law_mixed) T.F_law_mixed sc_law_mixed rfl fun cdv A outer s H E hr => ?_
  have tk : TakesK (cxOf (L2.CX P C.w) P C.w C.K mg base N_law_mixed "_law_mixed" (defScope s_law_mixed) T.f_law_mixed cdv A outer s H E) E := takes_of rfl rfl rfl rfl
  have pw : PassesOwn (model P C.w) (cxOf (L2.CX P C.w) P C.w C.K mg base N_law_mixed "_law_mixed" (defScope s_law_mixed) T.f_law_mixed cdv A outer s H E).A (cxOf (L2.CX P C.w) P C.w C.K mg base N_law_mixed "_law_mixed" (defScope s_law_mixed) T.f_law_mixed cdv A outer s H E).env (cxOf (L2.CX P C.w) P C.w C.K mg base N_law_mixed "_law_mixed" (defScope s_law_mixed) T.f_law_mixed cdv A outer s H E).xe := passes_of rfl
  exact (dss_cons (ds_set (i := 3) sc_law_mixed.nd rfl (by first | exact .inl rfl | exact .inr rfl) (by exact (de_op op_mod os_mod (by exact (de_op or_add os_add (by exact (de_op or_add os_add (by exact (de_op or_mul os_mul (by exact (de_call (ok_law_cell_at T) (hr.mono (by decide)) (by rfl) T.g_law_cell_at T.F_law_cell_at.kp T.b_law_cell_at tk (by exact (da_cons (by exact (dv 0)) (da_cons (by exact (dv 1)) da_nil))) (lenS (lenS len0)))) de_int)) (by exact (de_op or_mul os_mul de_int (by exact (dv 1)))))) de_int)) de_int)))
    (dss_one (ds_ret (by exact (de_op op_mod os_mod (by exact (de_op op_mod os_mod (by exact (de_op op_mod os_mod (by exact (de_op op_pow os_pow (by exact (dv 3)) de_int)) de_int)) de_int)) (by exact (dv 2)))))))
theorem ok_law_draw (T : Txt C mg) : FnOk P C.w C.K mg base (L2.CX P C.w) 3 T.f_law_draw T.fd_law_draw ["script", "town", "many"] (spOf C 3 m_law_draw) := by
  refine fn_ok (N := N_law_draw) (body := b_law_draw) T.F_law_draw sc_law_draw rfl fun cdv A outer s H E hr => ?_
  have tk : TakesK (cxOf (L2.CX P C.w) P C.w C.K mg base N_law_draw "_law_draw" (defScope s_law_draw) T.f_law_draw cdv A outer s H E) E := takes_of rfl rfl rfl rfl
  have pw : PassesOwn (model P C.w) (cxOf (L2.CX P C.w) P C.w C.K mg base N_law_draw "_law_draw" (defScope s_law_draw) T.f_law_draw cdv A outer s H E).A (cxOf (L2.CX P C.w) P C.w C.K mg base N_law_draw "_law_draw" (defScope s_law_draw) T.f_law_draw cdv A outer s H E).env (cxOf (L2.CX P C.w) P C.w C.K mg base N_law_draw "_law_draw" (defScope s_law_draw) T.f_law_draw cdv A outer s H E).xe := passes_of rfl
  exact (dss_cons (ds_expr (by exact (PE.imp (pe_bm PySem.F.plainAttrs_list PySem.F.slot_list_append PySem.F.type_list_append mt_append (by exact (dv 1)) (by exact (da_cons de_int da_nil))) (mt_of ms_app))))
    (dss_one (ds_ret (by exact (de_call (ok_law_mixed T) (hr.mono (by decide)) (by rfl) T.g_law_mixed T.F_law_mixed.kp T.b_law_mixed tk (by exact (da_cons (by exact (dv 0)) (da_cons (by exact (de_callB call_len bs_len (by rfl) T.z_len PySem.boot_len (by exact (da_cons (by exact (dv 1)) da_nil)))) (da_cons (by exact (dv 2)) da_nil)))) (lenS (lenS (lenS len0))))))))
theorem ok_law_wheels_k01 (T : Txt C mg) : FnOk P C.w C.K mg base (L2.CX P C.w) 4 T.f_law_wheels_k01 T.fd_law_wheels_k01 ["script", "town", "most"] (spOf C 3 m_law_wheels_k01) := by
  refine fn_ok (N := N_law_wheels_k01) (body := b_law_wheels_k01) T.F_law_wheels_k01 sc_law_wheels_k01 rfl fun cdv A outer s H E hr => ?_
  have tk : TakesK (cxOf (L2.CX P C.w) P C.w C.K mg base N_law_wheels_k01 "_law_wheels" (defScope s_law_wheels_k01) T.f_law_wheels_k01 cdv A outer s H E) E := takes_of rfl rfl rfl rfl
  have pw : PassesOwn (model P C.w) (cxOf (L2.CX P C.w) P C.w C.K mg base N_law_wheels_k01 "_law_wheels" (defScope s_law_wheels_k01) T.f_law_wheels_k01 cdv A outer s H E).A (cxOf (L2.CX P C.w) P C.w C.K mg base N_law_wheels_k01 "_law_wheels" (defScope s_law_wheels_k01) T.f_law_wheels_k01 cdv A outer s H E).env (cxOf (L2.CX P C.w) P C.w C.K mg base N_law_wheels_k01 "_law_wheels" (defScope s_law_wheels_k01) T.f_law_wheels_k01 cdv A outer s H E).xe := passes_of rfl
  exact (dss_cons (ds_set (i := 3) sc_law_wheels_k01.nd rfl (by first | exact .inl rfl | exact .inr rfl) (by exact (de_str (by decide +kernel) (by decide +kernel))))
    (dss_cons (ds_set (i := 4) sc_law_wheels_k01.nd rfl (by first | exact .inl rfl | exact .inr rfl) (by exact (de_op or_add os_add de_int (by exact (de_call (ok_law_draw T) (hr.mono (by decide)) (by rfl) T.g_law_draw T.F_law_draw.kp T.b_law_draw tk (by exact (da_cons (by exact (dv 0)) (da_cons (by exact (dv 1)) (da_cons (by exact (de_op op_sub os_sub (by exact (dv 2)) de_int)) da_nil)))) (lenS (lenS (lenS len0))))))))
    (dss_cons (ds_set (i := 5) sc_law_wheels_k01.nd rfl (by first | exact .inl rfl | exact .inr rfl) (de_newL da_nil))
    (dss_cons (ds_for pw rfl (by exact di_rng1 (by rfl) T.z_range de_int) (dg_name (i := 6) sc_law_wheels_k01.nd rfl (by first | exact .inl rfl | exact .inr rfl)) (dss_cons (ds_set (i := 7) sc_law_wheels_k01.nd rfl (by first | exact .inl rfl | exact .inr rfl) (de_newList rfl rfl (by rfl) T.z_list (by decide +kernel) (by exact (de_if (by exact (dt_cmp (op_eqD hr.units) os_eq (by exact (de_call (ok_law_draw T) (hr.mono (by decide)) (by rfl) T.g_law_draw T.F_law_draw.kp T.b_law_draw tk (by exact (da_cons (by exact (dv 0)) (da_cons (by exact (dv 1)) (da_cons de_int da_nil)))) (lenS (lenS (lenS len0))))) de_int (nomark _))) (by exact (dv 3)) (by exact (de_sl or_sl ss_sl (by exact (dv 3)) do_no (do_some (by exact (de_op or_add os_add (by exact (dv 4)) de_int)))))))))
    (dss_cons (ds_set (i := 8) sc_law_wheels_k01.nd rfl (by first | exact .inl rfl | exact .inr rfl) (by exact (de_str (by decide +kernel) (by decide +kernel))))
    (dss_cons (ds_for pw rfl (by exact di_rng1 (by rfl) T.z_range (by exact (dv 4))) (dg_name (i := 9) sc_law_wheels_k01.nd rfl (by first | exact .inl rfl | exact .inr rfl)) (dss_one (ds_set (i := 8) sc_law_wheels_k01.nd rfl (by first | exact .inl rfl | exact .inr rfl) (by exact (de_op or_add os_add (by exact (dv 8)) (by exact (PE.imp (pe_bm PySem.F.plainAttrs_list PySem.F.slot_list_pop PySem.F.type_list_pop mt_popAt (by exact (dv 7)) (by exact (da_cons (by exact (de_call (ok_law_draw T) (hr.mono (by decide)) (by rfl) T.g_law_draw T.F_law_draw.kp T.b_law_draw tk (by exact (da_cons (by exact (dv 0)) (da_cons (by exact (dv 1)) (da_cons (by exact (de_callB call_len bs_len (by rfl) T.z_len PySem.boot_len (by exact (da_cons (by exact (dv 7)) da_nil)))) da_nil)))) (lenS (lenS (lenS len0))))) da_nil))) (mt_of ms_popAt))))))))
    (dss_one (ds_expr (by exact (PE.imp (pe_bm PySem.F.plainAttrs_list PySem.F.slot_list_append PySem.F.type_list_append mt_append (by exact (dv 5)) (by exact (da_cons (by exact (dv 8)) da_nil))) (mt_of ms_app)))))))))
    (dss_one (ds_ret (by exact (de_tup (by exact (da_cons (by exact (de_ix ix_seq os_get (by exact (dv 5)) de_int (fun _ _ => rfl))) (da_cons (by exact (de_ix ix_seq os_get (by exact (dv 5)) de_int (fun _ _ => rfl))) (da_cons (by exact (de_op or_add os_add de_int (by exact (de_call (ok_law_draw T) (hr.mono (by decide)) (by rfl) T.g_law_draw T.F_law_draw.kp T.b_law_draw tk (by exact (da_cons (by exact (dv 0)) (da_cons (by exact (dv 1)) (da_cons de_int da_nil)))) (lenS (lenS (lenS len0))))))) da_nil))))))))))))
theorem ok_is_whole (T : Txt C mg) : FnOk P C.w C.K mg base (L2.CX P C.w) 1 T.f_is_whole T.fd_is_whole ["thing", "low", "most"] (spOf C 3 m_is_whole) := by
  refine fn_ok (N := N_is_whole) (body := b_is_whole) T.F_is_whole sc_is_whole rfl fun cdv A outer s H E hr => ?_
  have tk : TakesK (cxOf (L2.CX P C.w) P C.w C.K mg base N_is_whole "is_whole" (defScope s_is_whole) T.f_is_whole cdv A outer s H E) E := takes_of rfl rfl rfl rfl
  have pw : PassesOwn (model P C.w) (cxOf (L2.CX P C.w) P C.w C.K mg base N_is_whole "is_whole" (defScope s_is_whole) T.f_is_whole cdv A outer s H E).A (cxOf (L2.CX P C.w) P C.w C.K mg base N_is_whole "is_whole" (defScope s_is_whole) T.f_is_whole cdv A outer s H E).env (cxOf (L2.CX P C.w) P C.w C.K mg base N_is_whole "is_whole" (defScope s_is_whole) T.f_is_whole cdv A outer s H E).xe := passes_of rfl
  exact (dss_one (ds_ret (by exact (de_and (by exact (de_is (by decide) rfl (by rfl) T.z_isinstance (by rfl) T.z_int (by decide +kernel) (by exact (dv 0)))) (de_and (by exact (de_not (by exact (de_is (by decide) rfl (by rfl) T.z_isinstance (by rfl) T.z_bool (by decide +kernel) (by exact (dv 0)))))) (de_one (by exact (de_chain or_le os_le or_le os_le (by exact (dv 1)) (by exact (dv 0)) (by exact (dv 2))))))))))
theorem ok_are_signs (T : Txt C mg) : FnOk P C.w C.K mg base (L2.CX P C.w) 1 T.f_are_signs T.fd_are_signs ["thing", "low", "most"] (spOf C 3 m_are_signs) := by
  refine fn_ok (N := N_are_signs) (body := b_are_signs) T.F_are_signs sc_are_signs rfl fun cdv A outer s H E hr => ?_
  have tk : TakesK (cxOf (L2.CX P C.w) P C.w C.K mg base N_are_signs "are_signs" (defScope s_are_signs) T.f_are_signs cdv A outer s H E) E := takes_of rfl rfl rfl rfl
  have pw : PassesOwn (model P C.w) (cxOf (L2.CX P C.w) P C.w C.K mg base N_are_signs "are_signs" (defScope s_are_signs) T.f_are_signs cdv A outer s H E).A (cxOf (L2.CX P C.w) P C.w C.K mg base N_are_signs "are_signs" (defScope s_are_signs) T.f_are_signs cdv A outer s H E).env (cxOf (L2.CX P C.w) P C.w C.K mg base N_are_signs "are_signs" (defScope s_are_signs) T.f_are_signs cdv A outer s H E).xe := passes_of rfl
  exact (dss_one (ds_ret (by exact (de_and (by exact (de_is (by decide) rfl (by rfl) T.z_isinstance (by rfl) T.z_str (by decide +kernel) (by exact (dv 0)))) (de_and (by exact (de_chain or_le os_le or_le os_le (by exact (dv 1)) (by exact (de_callB call_len bs_len (by rfl) T.z_len PySem.boot_len (by exact (da_cons (by exact (dv 0)) da_nil)))) (by exact (dv 2)))) (de_one (by exact (de_callB (cr_all rfl) bs_all (by rfl) T.z_all (by decide +kernel) (by exact (da_cons (by exact (de_lc (own := [("sign", 3)]) rfl sc_are_signs.nd (by exact di_all rfl (by exact (dv 0))) (by exact blkOk_by (N := N_are_signs) (sc := defScope s_are_signs) (own := [("sign", 3)]) (by decide +kernel)) (tx_name (by decide)) (fun _ _ _ _ _ => (by exact pg_name (i := 3) sc_are_signs.nd rfl (by first | exact .inl rfl | exact .inr rfl))) (fun _ _ _ _ _ => (by exact dts_nil)) (fun _ _ _ _ _ => (by exact de_noX (by exact (de_cmp or_in os_in (by exact (dv 3)) (by exact (de_const (by rfl) T.k_SIGNS)) (by with_unfolding_all rfl))))))) da_nil))))))))))
theorem ok_is_wheel (T : Txt C mg) : FnOk P C.w C.K mg base (L2.CX P C.w) 2 T.f_is_wheel T.fd_is_wheel ["thing"] (spOf C 1 m_is_wheel) := by
  refine fn_ok (N := N_is_wheel) (body := b_is_wheel) T.F_is_wheel sc_is_wheel rfl fun cdv A outer s H E hr => ?_
  have tk : TakesK (cxOf (L2.CX P C.w) P C.w C.K mg base N_is_wheel "is_wheel" (defScope s_is_wheel) T.f_is_wheel cdv A outer s H E) E := takes_of rfl rfl rfl rfl
  have pw : PassesOwn (model P C.w) (cxOf (L2.CX P C.w) P C.w C.K mg base N_is_wheel "is_wheel" (defScope s_is_wheel) T.f_is_wheel cdv A outer s H E).A (cxOf (L2.CX P C.w) P C.w C.K mg base N_is_wheel "is_wheel" (defScope s_is_wheel) T.f_is_wheel cdv A outer s H E).env (cxOf (L2.CX P C.w) P C.w C.K mg base N_is_wheel "is_wheel" (defScope s_is_wheel) T.f_is_wheel cdv A outer s H E).xe := passes_of rfl
  exact (dss_one (ds_ret (by exact (de_and (by exact (de_call (ok_are_signs T) (hr.mono (by decide)) (by rfl) T.g_are_signs T.F_are_signs.kp T.b_are_signs tk (by exact (da_cons (by exact (dv 0)) (da_cons (by exact (de_const (by rfl) T.k_LEAST)) (da_cons (by exact (de_const (by rfl) T.k_MOST)) da_nil)))) (lenS (lenS (lenS len0))))) (de_one (by exact (de_cmp (op_eqD hr.units) os_eq (by exact (de_lenSet rfl (by rfl) T.z_len (by rfl) T.z_set (by exact (dv 0)))) (by exact (de_callB call_len bs_len (by rfl) T.z_len PySem.boot_len (by exact (da_cons (by exact (dv 0)) da_nil)))) (nomark _))))))))
theorem ok_is_wheels (T : Txt C mg) : FnOk P C.w C.K mg base (L2.CX P C.w) 3 T.f_is_wheels T.fd_is_wheels ["thing"] (spOf C 1 m_is_wheels) := by
  refine fn_ok (N := N_is_wheels) (body := b_is_wheels) T.F_is_wheels sc_is_wheels rfl fun cdv A outer s H E hr => ?_
  have tk : TakesK (cxOf (L2.CX P C.w) P C.w C.K mg base N_is_wheels "is_wheels" (defScope s_is_wheels) T.f_is_wheels cdv A outer s H E) E := takes_of rfl rfl rfl rfl
  have pw : PassesOwn (model P C.w) (cxOf (L2.CX P C.w) P C.w C.K mg base N_is_wheels "is_wheels" (defScope s_is_wheels) T.f_is_wheels cdv A outer s H E).A (cxOf (L2.CX P C.w) P C.w C.K mg base N_is_wheels "is_wheels" (defScope s_is_wheels) T.f_is_wheels cdv A outer s H E).env (cxOf (L2.CX P C.w) P C.w C.K mg base N_is_wheels "is_wheels" (defScope s_is_wheels) T.f_is_wheels cdv A outer s H E).xe := passes_of rfl
  exact (dss_cons (ds_if (by exact (dt_w (dw_or (by exact (dt_not (by exact (dt_val (by exact (de_is (by decide) rfl (by rfl) T.z_isinstance (by rfl) T.z_tuple (by decide +kernel) (by exact (dv 0)))))))) (dw_or (by exact (dt_cmp (op_neD hr.units) os_ne (by exact (de_callB call_len bs_len (by rfl) T.z_len PySem.boot_len (by exact (da_cons (by exact (dv 0)) da_nil)))) de_int (nomark _))) (dw_or (by exact (dt_not (by exact (dt_val (by exact (de_call (ok_is_wheel T) (hr.mono (by decide)) (by rfl) T.g_is_wheel T.F_is_wheel.kp T.b_is_wheel tk (by exact (da_cons (by exact (de_ix ix_seq os_get (by exact (dv 0)) de_int (fun _ _ => rfl))) da_nil)) (lenS len0))))))) (dw_or1 (by exact (dt_not (by exact (dt_val (by exact (de_call (ok_is_wheel T) (hr.mono (by decide)) (by rfl) T.g_is_wheel T.F_is_wheel.kp T.b_is_wheel tk (by exact (da_cons (by exact (de_ix ix_seq os_get (by exact (dv 0)) de_int (fun _ _ => rfl))) da_nil)) (lenS len0))))))))))))) (dss_one (ds_ret de_bl)) dss_nil)
    (dss_one (ds_ret (by exact (de_and (by exact (de_cmp (op_eqD hr.units) os_eq (by exact (de_callB call_len bs_len (by rfl) T.z_len PySem.boot_len (by exact (da_cons (by exact (de_ix ix_seq os_get (by exact (dv 0)) de_int (fun _ _ => rfl))) da_nil)))) (by exact (de_callB call_len bs_len (by rfl) T.z_len PySem.boot_len (by exact (da_cons (by exact (de_ix ix_seq os_get (by exact (dv 0)) de_int (fun _ _ => rfl))) da_nil)))) (nomark _))) (de_one (by exact (de_call (ok_is_whole T) (hr.mono (by decide)) (by rfl) T.g_is_whole T.F_is_whole.kp T.b_is_whole tk (by exact (da_cons (by exact (de_ix ix_seq os_get (by exact (dv 0)) de_int (fun _ _ => rfl))) (da_cons de_int (da_cons (by exact (de_const (by rfl) T.k_TURNS)) da_nil)))) (lenS (lenS (lenS len0)))))))))))
theorem ok_need_wheels (T : Txt C mg) : FnOk P C.w C.K mg base (L2.CX P C.w) 4 T.f_need_wheels T.fd_need_wheels ["thing"] (spOf C 1 m_need_wheels) := by
  refine fn_ok (N := N_need_wheels) (body := b_need_wheels) T.F_need_wheels sc_need_wheels rfl fun cdv A outer s H E hr => ?_
  have tk : TakesK (cxOf (L2.CX P C.w) P C.w C.K mg base N_need_wheels "need_wheels" (defScope s_need_wheels) T.f_need_wheels cdv A outer s H E) E := takes_of rfl rfl rfl rfl
  have pw : PassesOwn (model P C.w) (cxOf (L2.CX P C.w) P C.w C.K mg base N_need_wheels "need_wheels" (defScope s_need_wheels) T.f_need_wheels cdv A outer s H E).A (cxOf (L2.CX P C.w) P C.w C.K mg base N_need_wheels "need_wheels" (defScope s_need_wheels) T.f_need_wheels cdv A outer s H E).env (cxOf (L2.CX P C.w) P C.w C.K mg base N_need_wheels "need_wheels" (defScope s_need_wheels) T.f_need_wheels cdv A outer s H E).xe := passes_of rfl
  exact (dss_one (ds_if (by exact (dt_not (by exact (dt_val (by exact (de_call (ok_is_wheels T) (hr.mono (by decide)) (by rfl) T.g_is_wheels T.F_is_wheels.kp T.b_is_wheels tk (by exact (da_cons (by exact (dv 0)) da_nil)) (lenS len0))))))) (dss_one (ds_raise rfl tk (pmk_own PySem.F.excBase_ValueError T.q_NoWheels T.n_NoWheels T.p_NoWheels (raises_own T.e_NoWheels T.t_NoWheels) (by exact rfl)) T.c_NoWheels)) dss_nil))
theorem ok_Office_init (T : Txt C mg) : FnOk P C.w C.K mg base (L2.CX P C.w) 5 T.f_Office_init T.fd_Office_init ["self", "wheels"] (spOf C 2 m_Office_init) := by
  refine fn_ok (N := N_Office_init) (body := b_Office_init) T.F_Office_init sc_Office_init rfl fun cdv A outer s H E hr => ?_
  have tk : TakesK (cxOf (L2.CX P C.w) P C.w C.K mg base N_Office_init "Office.__init__" (defScope s_Office_init) T.f_Office_init cdv A outer s H E) E := takes_of rfl rfl rfl rfl
  have pw : PassesOwn (model P C.w) (cxOf (L2.CX P C.w) P C.w C.K mg base N_Office_init "Office.__init__" (defScope s_Office_init) T.f_Office_init cdv A outer s H E).A (cxOf (L2.CX P C.w) P C.w C.K mg base N_Office_init "Office.__init__" (defScope s_Office_init) T.f_Office_init cdv A outer s H E).env (cxOf (L2.CX P C.w) P C.w C.K mg base N_Office_init "Office.__init__" (defScope s_Office_init) T.f_Office_init cdv A outer s H E).xe := passes_of rfl
  exact (dss_cons (ds_expr (by exact (de_call (ok_need_wheels T) (hr.mono (by decide)) (by rfl) T.g_need_wheels T.F_need_wheels.kp T.b_need_wheels tk (by exact (da_cons (by exact (dv 1)) da_nil)) (lenS len0))))
    (dss_cons (ds_fld T.c_Office T.cl_Office T.na_Office_wheels (by exact (dv 0)) (by exact (by exact (dv 1))))
    (dss_cons (ds_fld T.c_Office T.cl_Office T.na_Office_all_stands (by exact (dv 0)) (by exact (by exact (de_tup da_nil))))
    (dss_cons (ds_fld T.c_Office T.cl_Office T.na_Office_all_tapes (by exact (dv 0)) (by exact (by exact (de_tup da_nil))))
    (dss_cons (ds_fld T.c_Office T.cl_Office T.na_Office_waits (by exact (dv 0)) (by exact (by exact (de_tup da_nil))))
    (dss_one (ds_fld T.c_Office T.cl_Office T.na_Office_past (by exact (dv 0)) (by exact (de_newL da_nil)))))))))
theorem ok_law_pick (T : Txt C mg) : FnOk P C.w C.K mg base (L2.CX P C.w) 4 T.f_law_pick T.fd_law_pick ["script", "town", "some"] (spOf C 3 m_law_pick) := by
  refine fn_ok (N := N_law_pick) (body := b_law_pick) T.F_law_pick sc_law_pick rfl fun cdv A outer s H E hr => ?_
  have tk : TakesK (cxOf (L2.CX P C.w) P C.w C.K mg base N_law_pick "_law_pick" (defScope s_law_pick) T.f_law_pick cdv A outer s H E) E := takes_of rfl rfl rfl rfl
  have pw : PassesOwn (model P C.w) (cxOf (L2.CX P C.w) P C.w C.K mg base N_law_pick "_law_pick" (defScope s_law_pick) T.f_law_pick cdv A outer s H E).A (cxOf (L2.CX P C.w) P C.w C.K mg base N_law_pick "_law_pick" (defScope s_law_pick) T.f_law_pick cdv A outer s H E).env (cxOf (L2.CX P C.w) P C.w C.K mg base N_law_pick "_law_pick" (defScope s_law_pick) T.f_law_pick cdv A outer s H E).xe := passes_of rfl
  exact (dss_one (ds_ret (by exact (de_ix ix_seq os_get (by exact (dv 2)) (by exact (de_call (ok_law_draw T) (hr.mono (by decide)) (by rfl) T.g_law_draw T.F_law_draw.kp T.b_law_draw tk (by exact (da_cons (by exact (dv 0)) (da_cons (by exact (dv 1)) (da_cons (by exact (de_callB call_len bs_len (by rfl) T.z_len PySem.boot_len (by exact (da_cons (by exact (dv 2)) da_nil)))) da_nil)))) (lenS (lenS (lenS len0))))) (fun _ _ => rfl)))))
theorem ok_law_stand_k02 (T : Txt C mg) : FnOk P C.w C.K mg base (L2.CX P C.w) 5 T.f_law_stand_k02 T.fd_law_stand_k02 ["script", "town", "wheels"] (spOf C 3 m_law_stand_k02) := by
  refine fn_ok (N := N_law_stand_k02) (body := b_law_stand_k02) T.F_law_stand_k02 sc_law_stand_k02 rfl fun cdv A outer s H E hr => ?_
  have tk : TakesK (cxOf (L2.CX P C.w) P C.w C.K mg base N_law_stand_k02 "_law_stand" (defScope s_law_stand_k02) T.f_law_stand_k02 cdv A outer s H E) E := takes_of rfl rfl rfl rfl
  have pw : PassesOwn (model P C.w) (cxOf (L2.CX P C.w) P C.w C.K mg base N_law_stand_k02 "_law_stand" (defScope s_law_stand_k02) T.f_law_stand_k02 cdv A outer s H E).A (cxOf (L2.CX P C.w) P C.w C.K mg base N_law_stand_k02 "_law_stand" (defScope s_law_stand_k02) T.f_law_stand_k02 cdv A outer s H E).env (cxOf (L2.CX P C.w) P C.w C.K mg base N_law_stand_k02 "_law_stand" (defScope s_law_stand_k02) T.f_law_stand_k02 cdv A outer s H E).xe := passes_of rfl
  exact (dss_cons (ds_set (i := 3) sc_law_stand_k02.nd rfl (by first | exact .inl rfl | exact .inr rfl) (by exact (de_callB call_len bs_len (by rfl) T.z_len PySem.boot_len (by exact (da_cons (by exact (de_ix ix_seq os_get (by exact (dv 2)) de_int (fun _ _ => rfl))) da_nil)))))
    (dss_cons (ds_set (i := 4) sc_law_stand_k02.nd rfl (by first | exact .inl rfl | exact .inr rfl) (by exact (de_call (ok_law_draw T) (hr.mono (by decide)) (by rfl) T.g_law_draw T.F_law_draw.kp T.b_law_draw tk (by exact (da_cons (by exact (dv 0)) (da_cons (by exact (dv 1)) (da_cons (by exact (de_call (ok_law_pick T) (hr.mono (by decide)) (by rfl) T.g_law_pick T.F_law_pick.kp T.b_law_pick tk (by exact (da_cons (by exact (dv 0)) (da_cons (by exact (dv 1)) (da_cons (by exact (de_lst (by exact (da_cons de_int (da_cons (by exact (de_op or_add os_add (by exact (dv 3)) de_int)) (da_cons (by exact (de_op or_add os_add (by exact (de_op or_mul os_mul (by exact (dv 3)) (by exact (de_op or_add os_add (by exact (de_ix ix_seq os_get (by exact (dv 2)) de_int (fun _ _ => rfl))) de_int)))) de_int)) da_nil)))))) da_nil)))) (lenS (lenS (lenS len0))))) da_nil)))) (lenS (lenS (lenS len0))))))
    (dss_one (ds_ret (by exact (de_tup (by exact (da_cons (by exact (de_call (ok_law_draw T) (hr.mono (by decide)) (by rfl) T.g_law_draw T.F_law_draw.kp T.b_law_draw tk (by exact (da_cons (by exact (dv 0)) (da_cons (by exact (dv 1)) (da_cons (by exact (dv 3)) da_nil)))) (lenS (lenS (lenS len0))))) (da_cons (by exact (de_call (ok_law_pick T) (hr.mono (by decide)) (by rfl) T.g_law_pick T.F_law_pick.kp T.b_law_pick tk (by exact (da_cons (by exact (dv 0)) (da_cons (by exact (dv 1)) (da_cons (by exact (de_str (by decide +kernel) (by decide +kernel))) da_nil)))) (lenS (lenS (lenS len0))))) (da_cons (by exact (dv 4)) da_nil))))))))))
theorem ok_law_row_k02 (T : Txt C mg) : FnOk P C.w C.K mg base (L2.CX P C.w) 5 T.f_law_row_k02 T.fd_law_row_k02 ["script", "town", "wheels", "most"] (spOf C 4 m_law_row_k02) := by
  refine fn_ok (N := N_law_row_k02) (body := b_law_row_k02) T.F_law_row_k02 sc_law_row_k02 rfl fun cdv A outer s H E hr => ?_
  have tk : TakesK (cxOf (L2.CX P C.w) P C.w C.K mg base N_law_row_k02 "_law_row" (defScope s_law_row_k02) T.f_law_row_k02 cdv A outer s H E) E := takes_of rfl rfl rfl rfl
  have pw : PassesOwn (model P C.w) (cxOf (L2.CX P C.w) P C.w C.K mg base N_law_row_k02 "_law_row" (defScope s_law_row_k02) T.f_law_row_k02 cdv A outer s H E).A (cxOf (L2.CX P C.w) P C.w C.K mg base N_law_row_k02 "_law_row" (defScope s_law_row_k02) T.f_law_row_k02 cdv A outer s H E).env (cxOf (L2.CX P C.w) P C.w C.K mg base N_law_row_k02 "_law_row" (defScope s_law_row_k02) T.f_law_row_k02 cdv A outer s H E).xe := passes_of rfl
  exact (dss_cons (ds_set (i := 4) sc_law_row_k02.nd rfl (by first | exact .inl rfl | exact .inr rfl) (by exact (de_str (by decide +kernel) (by decide +kernel))))
    (dss_cons (ds_for pw rfl (by exact di_rng1 (by rfl) T.z_range (by exact (de_call (ok_law_draw T) (hr.mono (by decide)) (by rfl) T.g_law_draw T.F_law_draw.kp T.b_law_draw tk (by exact (da_cons (by exact (dv 0)) (da_cons (by exact (dv 1)) (da_cons (by exact (de_op or_add os_add (by exact (dv 3)) de_int)) da_nil)))) (lenS (lenS (lenS len0)))))) (dg_name (i := 5) sc_law_row_k02.nd rfl (by first | exact .inl rfl | exact .inr rfl)) (dss_cons (ds_set (i := 6) sc_law_row_k02.nd rfl (by first | exact .inl rfl | exact .inr rfl) (by exact (de_call (ok_law_draw T) (hr.mono (by decide)) (by rfl) T.g_law_draw T.F_law_draw.kp T.b_law_draw tk (by exact (da_cons (by exact (dv 0)) (da_cons (by exact (dv 1)) (da_cons de_int da_nil)))) (lenS (lenS (lenS len0))))))
    (dss_cons (ds_set (i := 7) sc_law_row_k02.nd rfl (by first | exact .inl rfl | exact .inr rfl) (by exact (de_op or_add os_add de_int (by exact (de_call (ok_law_draw T) (hr.mono (by decide)) (by rfl) T.g_law_draw T.F_law_draw.kp T.b_law_draw tk (by exact (da_cons (by exact (dv 0)) (da_cons (by exact (dv 1)) (da_cons (by exact (de_call (ok_law_pick T) (hr.mono (by decide)) (by rfl) T.g_law_pick T.F_law_pick.kp T.b_law_pick tk (by exact (da_cons (by exact (dv 0)) (da_cons (by exact (dv 1)) (da_cons (by exact (de_lst (by exact (da_cons de_int (da_cons (by exact (de_callB call_len bs_len (by rfl) T.z_len PySem.boot_len (by exact (da_cons (by exact (de_ix ix_seq os_get (by exact (dv 2)) de_int (fun _ _ => rfl))) da_nil)))) (da_cons (by exact (de_op or_mul os_mul de_int (by exact (de_callB call_len bs_len (by rfl) T.z_len PySem.boot_len (by exact (da_cons (by exact (de_ix ix_seq os_get (by exact (dv 2)) de_int (fun _ _ => rfl))) da_nil)))))) da_nil)))))) da_nil)))) (lenS (lenS (lenS len0))))) da_nil)))) (lenS (lenS (lenS len0))))))))
    (dss_one (ds_set (i := 4) sc_law_row_k02.nd rfl (by first | exact .inl rfl | exact .inr rfl) (by exact (de_op or_add os_add (by exact (dv 4)) (by exact (de_if (by exact (dt_cmp or_lt os_lt (by exact (dv 6)) de_int (nomark _))) (by exact (de_op or_mul os_mul (by exact (de_str (by decide +kernel) (by decide +kernel))) (by exact (dv 7)))) (by exact (de_if (by exact (dt_cmp or_lt os_lt (by exact (dv 6)) de_int (nomark _))) (by exact (de_str (by decide +kernel) (by decide +kernel))) (by exact (de_ix ix_seq os_get (by exact (de_str (by decide +kernel) (by decide +kernel))) (by exact (de_op op_sub os_sub (by exact (dv 6)) de_int)) (fun _ _ => rfl))))))))))))))
    (dss_one (ds_ret (by exact (de_sl or_sl ss_sl (by exact (dv 4)) do_no (do_some (by exact (de_call (ok_law_pick T) (hr.mono (by decide)) (by rfl) T.g_law_pick T.F_law_pick.kp T.b_law_pick tk (by exact (da_cons (by exact (dv 0)) (da_cons (by exact (dv 1)) (da_cons (by exact (de_lst (by exact (da_cons de_int (da_cons de_int (da_cons de_int da_nil)))))) da_nil)))) (lenS (lenS (lenS len0))))))))))))
theorem ok_law_call (T : Txt C mg) : FnOk P C.w C.K mg base (L2.CX P C.w) 6 T.f_law_call T.fd_law_call ["script", "town", "wheels", "model"] (spOf C 4 m_law_call) := by
  refine fn_ok (N := N_law_call) (body := b_law_call) T.F_law_call sc_law_call rfl fun cdv A outer s H E hr => ?_
  have tk : TakesK (cxOf (L2.CX P C.w) P C.w C.K mg base N_law_call "_law_call" (defScope s_law_call) T.f_law_call cdv A outer s H E) E := takes_of rfl rfl rfl rfl
  have pw : PassesOwn (model P C.w) (cxOf (L2.CX P C.w) P C.w C.K mg base N_law_call "_law_call" (defScope s_law_call) T.f_law_call cdv A outer s H E).A (cxOf (L2.CX P C.w) P C.w C.K mg base N_law_call "_law_call" (defScope s_law_call) T.f_law_call cdv A outer s H E).env (cxOf (L2.CX P C.w) P C.w C.K mg base N_law_call "_law_call" (defScope s_law_call) T.f_law_call cdv A outer s H E).xe := passes_of rfl
  exact (dss_cons (ds_set (i := 4) sc_law_call.nd rfl (by first | exact .inl rfl | exact .inr rfl) (by exact (de_call (ok_law_draw T) (hr.mono (by decide)) (by rfl) T.g_law_draw T.F_law_draw.kp T.b_law_draw tk (by exact (da_cons (by exact (dv 0)) (da_cons (by exact (dv 1)) (da_cons de_int da_nil)))) (lenS (lenS (lenS len0))))))
    (dss_cons (ds_par (by rfl) sc_law_call.nd rfl rfl (by decide) rfl rfl (by exact (de_call (ok_law_stand_k02 T) (hr.mono (by decide)) (by rfl) T.g_law_stand_k02 T.F_law_stand_k02.kp T.b_law_stand_k02 tk (by exact (da_cons (by exact (dv 0)) (da_cons (by exact (dv 1)) (da_cons (by exact (dv 2)) da_nil)))) (lenS (lenS (lenS len0))))) (by exact (de_call (ok_law_row_k02 T) (hr.mono (by decide)) (by rfl) T.g_law_row_k02 T.F_law_row_k02.kp T.b_law_row_k02 tk (by exact (da_cons (by exact (dv 0)) (da_cons (by exact (dv 1)) (da_cons (by exact (dv 2)) (da_cons de_int da_nil))))) (lenS (lenS (lenS (lenS len0)))))) (by rfl))
    (dss_cons (ds_set (i := 7) sc_law_call.nd rfl (by first | exact .inl rfl | exact .inr rfl) (by exact (de_call (ok_law_pick T) (hr.mono (by decide)) (by rfl) T.g_law_pick T.F_law_pick.kp T.b_law_pick tk (by exact (da_cons (by exact (dv 0)) (da_cons (by exact (dv 1)) (da_cons (by exact (de_lst (by exact (da_cons (by exact (de_str (by decide +kernel) (by decide +kernel))) (da_cons (by exact (de_str (by decide +kernel) (by decide +kernel))) da_nil))))) da_nil)))) (lenS (lenS (lenS len0))))))
    (dss_cons (ds_set (i := 8) sc_law_call.nd rfl (by first | exact .inl rfl | exact .inr rfl) (by exact (de_call (ok_law_draw T) (hr.mono (by decide)) (by rfl) T.g_law_draw T.F_law_draw.kp T.b_law_draw tk (by exact (da_cons (by exact (dv 0)) (da_cons (by exact (dv 1)) (da_cons (by exact (de_callB (call_max2 rfl) bs_max2 (by rfl) T.z_max (by decide +kernel) (by exact (da_cons de_int (da_cons (by exact (de_callB call_len bs_len (by rfl) T.z_len PySem.boot_len (by exact (da_cons (by exact (dv 3)) da_nil)))) da_nil))))) da_nil)))) (lenS (lenS (lenS len0))))))
    (dss_cons (ds_if (by exact (dt_w (dw_or (by exact (dt_cmp or_lt os_lt (by exact (dv 4)) de_int (nomark _))) (dw_or1 (by exact (dt_cmp (op_eqD hr.units) os_eqY (by exact (dv 3)) (by exact (de_lst da_nil)) (nomark _))))))) (dss_one (ds_ret (by exact (de_tup (by exact (da_cons (by exact (de_str (by decide +kernel) (by decide +kernel))) (da_cons (by exact (dv 5)) da_nil))))))) dss_nil)
    (dss_cons (ds_if (by exact (dt_cmp or_lt os_lt (by exact (dv 4)) de_int (nomark _))) (dss_one (ds_ret (by exact (de_tup (by exact (da_cons (by exact (de_str (by decide +kernel) (by decide +kernel))) (da_cons (by exact (dv 6)) da_nil))))))) dss_nil)
    (dss_one (ds_ret (by exact (de_if (by exact (dt_cmp or_lt os_lt (by exact (dv 4)) de_int (nomark _))) (by exact (de_tup (by exact (da_cons (by exact (de_str (by decide +kernel) (by decide +kernel))) (da_cons (by exact (dv 8)) (da_cons (by exact (dv 7)) da_nil)))))) (by exact (de_tup (by exact (da_cons (by exact (de_str (by decide +kernel) (by decide +kernel))) da_nil))))))))))))))
theorem ok_law_pulse_k02 (T : Txt C mg) : FnOk P C.w C.K mg base (L2.CX P C.w) 1 T.f_law_pulse_k02 T.fd_law_pulse_k02 ["wheels", "stand", "pulse"] (spOf C 3 m_law_pulse_k02) := by
  refine fn_ok (N := N_law_pulse_k02) (body := b_law_pulse_k02) T.F_law_pulse_k02 sc_law_pulse_k02 rfl fun cdv A outer s H E hr => ?_
  have tk : TakesK (cxOf (L2.CX P C.w) P C.w C.K mg base N_law_pulse_k02 "_law_pulse" (defScope s_law_pulse_k02) T.f_law_pulse_k02 cdv A outer s H E) E := takes_of rfl rfl rfl rfl
  have pw : PassesOwn (model P C.w) (cxOf (L2.CX P C.w) P C.w C.K mg base N_law_pulse_k02 "_law_pulse" (defScope s_law_pulse_k02) T.f_law_pulse_k02 cdv A outer s H E).A (cxOf (L2.CX P C.w) P C.w C.K mg base N_law_pulse_k02 "_law_pulse" (defScope s_law_pulse_k02) T.f_law_pulse_k02 cdv A outer s H E).env (cxOf (L2.CX P C.w) P C.w C.K mg base N_law_pulse_k02 "_law_pulse" (defScope s_law_pulse_k02) T.f_law_pulse_k02 cdv A outer s H E).xe := passes_of rfl
  exact (dss_cons (ds_asg (by exact (dv 1)) (dg_tupN rfl rfl (dgs_cons (dg_name (i := 3) sc_law_pulse_k02.nd rfl (by first | exact .inl rfl | exact .inr rfl)) (dgs_cons (dg_name (i := 4) sc_law_pulse_k02.nd rfl (by first | exact .inl rfl | exact .inr rfl)) (dgs_cons (dg_name (i := 5) sc_law_pulse_k02.nd rfl (by first | exact .inl rfl | exact .inr rfl)) dgs_nil))) (gs_cons no_nm (gs_cons no_nm (gs_cons no_nm gs_nil)))))
    (dss_cons (ds_set (i := 6) sc_law_pulse_k02.nd rfl (by first | exact .inl rfl | exact .inr rfl) (by exact (de_callB call_len bs_len (by rfl) T.z_len PySem.boot_len (by exact (da_cons (by exact (de_ix ix_seq os_get (by exact (dv 0)) de_int (fun _ _ => rfl))) da_nil)))))
    (dss_cons (ds_if (by exact (dt_cmp (op_eqD hr.units) os_eq (by exact (dv 2)) (by exact (de_str (by decide +kernel) (by decide +kernel))) (nomark _))) (dss_one (ds_ret (by exact (de_tup (by exact (da_cons (by exact (de_tup (by exact (da_cons (by exact (dv 3)) (da_cons (by exact (dv 4)) (da_cons de_int da_nil)))))) (da_cons (by exact (de_ix ix_seq os_get (by exact (de_if (by exact (dt_cmp (op_eqD hr.units) os_eq (by exact (dv 4)) (by exact (de_str (by decide +kernel) (by decide +kernel))) (nomark _))) (by exact (de_ix ix_seq os_get (by exact (dv 0)) de_int (fun _ _ => rfl))) (by exact (de_ix ix_seq os_get (by exact (dv 0)) de_int (fun _ _ => rfl))))) (by exact (dv 3)) (fun _ _ => rfl))) da_nil))))))) dss_nil)
    (dss_cons (ds_if (by exact (dt_cmp or_in os_in (by exact (dv 2)) (by exact (de_tup (by exact (da_cons (by exact (de_str (by decide +kernel) (by decide +kernel))) (da_cons (by exact (de_str (by decide +kernel) (by decide +kernel))) da_nil))))) (by with_unfolding_all rfl))) (dss_one (ds_ret (by exact (de_tup (by exact (da_cons (by exact (de_tup (by exact (da_cons (by exact (dv 3)) (da_cons (by exact (dv 2)) (da_cons de_int da_nil)))))) (da_cons (by exact (de_str (by decide +kernel) (by decide +kernel))) da_nil))))))) dss_nil)
    (dss_cons (ds_if (by exact (dt_w (dw_and (by exact (dt_cmp (op_eqD hr.units) os_eq (by exact (dv 3)) de_int (nomark _))) (dw_and1 (by exact (dt_cmp op_ge os_ge (by exact (dv 5)) (by exact (de_op or_mul os_mul (by exact (dv 6)) (by exact (de_ix ix_seq os_get (by exact (dv 0)) de_int (fun _ _ => rfl))))) (nomark _))))))) (dss_one (ds_ret (by exact (de_tup (by exact (da_cons (by exact (dv 1)) (da_cons (by exact (de_str (by decide +kernel) (by decide +kernel))) da_nil))))))) dss_nil)
    (dss_one (ds_ret (by exact (de_tup (by exact (da_cons (by exact (de_tup (by exact (da_cons (by exact (de_if (by exact (dt_cmp or_lt os_lt (by exact (de_op or_add os_add (by exact (dv 3)) de_int)) (by exact (dv 6)) (nomark _))) (by exact (de_op or_add os_add (by exact (dv 3)) de_int)) de_int)) (da_cons (by exact (dv 4)) (da_cons (by exact (de_op or_add os_add (by exact (dv 5)) de_int)) da_nil)))))) (da_cons (by exact (de_str (by decide +kernel) (by decide +kernel))) da_nil))))))))))))
theorem ok_law_go (T : Txt C mg) : FnOk P C.w C.K mg base (L2.CX P C.w) 2 T.f_law_go T.fd_law_go ["wheels", "stand", "row"] (spOf C 3 m_law_go) := by
  refine fn_ok (N := N_law_go) (body := b_law_go) T.F_law_go sc_law_go rfl fun cdv A outer s H E hr => ?_
  have tk : TakesK (cxOf (L2.CX P C.w) P C.w C.K mg base N_law_go "_law_go" (defScope s_law_go) T.f_law_go cdv A outer s H E) E := takes_of rfl rfl rfl rfl
  have pw : PassesOwn (model P C.w) (cxOf (L2.CX P C.w) P C.w C.K mg base N_law_go "_law_go" (defScope s_law_go) T.f_law_go cdv A outer s H E).A (cxOf (L2.CX P C.w) P C.w C.K mg base N_law_go "_law_go" (defScope s_law_go) T.f_law_go cdv A outer s H E).env (cxOf (L2.CX P C.w) P C.w C.K mg base N_law_go "_law_go" (defScope s_law_go) T.f_law_go cdv A outer s H E).xe := passes_of rfl
  exact (dss_cons (ds_set (i := 3) sc_law_go.nd rfl (by first | exact .inl rfl | exact .inr rfl) (by exact (de_str (by decide +kernel) (by decide +kernel))))
    (dss_cons (ds_for pw rfl (by exact di_all rfl (by exact (dv 2))) (dg_name (i := 4) sc_law_go.nd rfl (by first | exact .inl rfl | exact .inr rfl)) (dss_cons (ds_asg (by exact (de_call (ok_law_pulse_k02 T) (hr.mono (by decide)) (by rfl) T.g_law_pulse_k02 T.F_law_pulse_k02.kp T.b_law_pulse_k02 tk (by exact (da_cons (by exact (dv 0)) (da_cons (by exact (dv 1)) (da_cons (by exact (dv 4)) da_nil)))) (lenS (lenS (lenS len0))))) (dg_tupN rfl rfl (dgs_cons (dg_name (i := 1) sc_law_go.nd rfl (by first | exact .inl rfl | exact .inr rfl)) (dgs_cons (dg_name (i := 5) sc_law_go.nd rfl (by first | exact .inl rfl | exact .inr rfl)) dgs_nil)) (gs_cons no_nm (gs_cons no_nm gs_nil))))
    (dss_one (ds_set (i := 3) sc_law_go.nd rfl (by first | exact .inl rfl | exact .inr rfl) (by exact (de_op or_add os_add (by exact (dv 3)) (by exact (dv 5))))))))
    (dss_one (ds_ret (by exact (de_tup (by exact (da_cons (by exact (dv 1)) (da_cons (by exact (dv 3)) da_nil)))))))))
theorem ok_law_with (T : Txt C mg) : FnOk P C.w C.K mg base (L2.CX P C.w) 1 T.f_law_with T.fd_law_with ["row", "slips"] (spOf C 2 m_law_with) := by
  refine fn_ok (N := N_law_with) (body := b_law_with) T.F_law_with sc_law_with rfl fun cdv A outer s H E hr => ?_
  have tk : TakesK (cxOf (L2.CX P C.w) P C.w C.K mg base N_law_with "_law_with" (defScope s_law_with) T.f_law_with cdv A outer s H E) E := takes_of rfl rfl rfl rfl
  have pw : PassesOwn (model P C.w) (cxOf (L2.CX P C.w) P C.w C.K mg base N_law_with "_law_with" (defScope s_law_with) T.f_law_with cdv A outer s H E).A (cxOf (L2.CX P C.w) P C.w C.K mg base N_law_with "_law_with" (defScope s_law_with) T.f_law_with cdv A outer s H E).env (cxOf (L2.CX P C.w) P C.w C.K mg base N_law_with "_law_with" (defScope s_law_with) T.f_law_with cdv A outer s H E).xe := passes_of rfl
  exact (dss_cons (ds_set (i := 2) sc_law_with.nd rfl (by first | exact .inl rfl | exact .inr rfl) (by exact (de_str (by decide +kernel) (by decide +kernel))))
    (dss_cons (ds_for pw rfl (by exact di_enum rfl (by rfl) T.z_enumerate (by exact (dv 0))) (dg_tupN rfl rfl (dgs_cons (dg_name (i := 3) sc_law_with.nd rfl (by first | exact .inl rfl | exact .inr rfl)) (dgs_cons (dg_name (i := 4) sc_law_with.nd rfl (by first | exact .inl rfl | exact .inr rfl)) dgs_nil)) (gs_cons no_nm (gs_cons no_nm gs_nil))) (dss_cons (ds_setLc (i := 5) (own := [("at", 6), ("word", 7)]) rfl sc_law_with.nd rfl rfl (by exact sw_true rfl rfl rfl (by decide +kernel)) (by exact di_all rfl (by exact (dv 1))) (by exact blkOk_by (N := N_law_with) (sc := defScope s_law_with) (own := [("at", 6), ("word", 7)]) (by decide +kernel)) (tx_tup (txs_cons (tx_name (by decide)) (txs_cons (tx_name (by decide)) txs_nil))) (fun _ _ _ _ _ => (by exact pg_tup rfl (pgs_cons (pg_name (i := 6) sc_law_with.nd rfl (by first | exact .inl rfl | exact .inr rfl)) (pgs_cons (pg_name (i := 7) sc_law_with.nd rfl (by first | exact .inl rfl | exact .inr rfl)) pgs_nil)))) (fun _ _ _ _ _ => (by exact (dts_one (dt_noX (by exact (dt_cmp (op_eqD hr.units) os_eq (by exact (dv 6)) (by exact (dv 3)) (nomark _))))))) (fun _ _ _ _ _ => (by exact de_noX (by exact (dv 7)))))
    (dss_one (ds_set (i := 2) sc_law_with.nd rfl (by first | exact .inl rfl | exact .inr rfl) (by exact (de_op or_add os_add (by exact (dv 2)) (by exact (de_op or_mul os_mul (by exact (dv 4)) (by exact (de_if (by exact (dt_cmp (op_eqD hr.units) os_eq (by exact (dv 5)) (by exact (de_lst da_nil)) (nomark _))) de_int (by exact (de_if (by exact (dt_cmp (op_eqD hr.units) os_eq (by exact (de_ix ix_seq os_get (by exact (dv 5)) de_int (fun _ _ => rfl))) (by exact (de_str (by decide +kernel) (by decide +kernel))) (nomark _))) de_int de_int))))))))))))
    (dss_one (ds_ret (by exact (dv 2))))))
theorem ok_law_own (T : Txt C mg) : FnOk P C.w C.K mg base (L2.CX P C.w) 3 T.f_law_own T.fd_law_own ["model", "past", "wheels", "call"] (spOf C 4 m_law_own) := by
  refine fn_ok (N := N_law_own) (body := b_law_own) T.F_law_own sc_law_own rfl fun cdv A outer s H E hr => ?_
  have tk : TakesK (cxOf (L2.CX P C.w) P C.w C.K mg base N_law_own "_law_own" (defScope s_law_own) T.f_law_own cdv A outer s H E) E := takes_of rfl rfl rfl rfl
  have pw : PassesOwn (model P C.w) (cxOf (L2.CX P C.w) P C.w C.K mg base N_law_own "_law_own" (defScope s_law_own) T.f_law_own cdv A outer s H E).A (cxOf (L2.CX P C.w) P C.w C.K mg base N_law_own "_law_own" (defScope s_law_own) T.f_law_own cdv A outer s H E).env (cxOf (L2.CX P C.w) P C.w C.K mg base N_law_own "_law_own" (defScope s_law_own) T.f_law_own cdv A outer s H E).xe := passes_of rfl
  exact (dss_cons (ds_if (by exact (dt_cmp (op_eqD hr.units) os_eq (by exact (de_ix ix_seq os_get (by exact (dv 3)) de_int (fun _ _ => rfl))) (by exact (de_str (by decide +kernel) (by decide +kernel))) (nomark _))) (dss_cons (ds_expr (by exact (PE.imp (pe_bm PySem.F.plainAttrs_list PySem.F.slot_list_append PySem.F.type_list_append mt_append (by exact (dv 0)) (by exact (da_cons (de_newL (by exact (da_cons (by exact (de_ix ix_seq os_get (by exact (dv 3)) de_int (fun _ _ => rfl))) (da_cons (by exact (de_str (by decide +kernel) (by decide +kernel))) (da_cons de_non da_nil))))) da_nil))) (mt_of ms_app))))
    (dss_one (ds_ret (by exact (de_op op_sub os_sub (by exact (de_callB call_len bs_len (by rfl) T.z_len PySem.boot_len (by exact (da_cons (by exact (dv 0)) da_nil)))) de_int))))) dss_nil)
    (dss_cons (ds_if (by exact (dt_cmp (op_eqD hr.units) os_eq (by exact (de_ix ix_seq os_get (by exact (dv 3)) de_int (fun _ _ => rfl))) (by exact (de_str (by decide +kernel) (by decide +kernel))) (nomark _))) (dss_one (ds_asg (by exact (de_ix ix_seq os_get (by exact (dv 3)) de_int (fun _ _ => rfl))) (dg_putL (by exact de_noX (by exact (de_ix ix_seq os_get (by exact (dv 0)) (by exact (de_ix ix_seq os_get (by exact (dv 3)) de_int (fun _ _ => rfl))) (fun _ _ => rfl)))) (by exact de_noX de_int)))) dss_nil)
    (dss_cons (ds_if (by exact (dt_cmp (op_eqD hr.units) os_eq (by exact (de_ix ix_seq os_get (by exact (dv 3)) de_int (fun _ _ => rfl))) (by exact (de_str (by decide +kernel) (by decide +kernel))) (nomark _))) (dss_cons (ds_expr (by exact (PE.imp (pe_bm PySem.F.plainAttrs_list PySem.F.slot_list_append PySem.F.type_list_append mt_append (by exact (dv 1)) (by exact (da_cons (by exact (de_tup (by exact (da_cons (by exact (de_ix ix_seq os_get (by exact (dv 3)) de_int (fun _ _ => rfl))) (da_cons (by exact (de_lcV (own := [("one", 4)]) rfl rfl sc_law_own.nd (by exact (dv 0)) (by exact blkOk_by (N := N_law_own) (sc := defScope s_law_own) (own := [("one", 4)]) (by decide +kernel)) (tx_name (by decide)) (fun _ _ _ _ _ => (by exact pg_name (i := 4) sc_law_own.nd rfl (by first | exact .inl rfl | exact .inr rfl))) (fun _ _ _ _ _ => (by exact dts_nil)) (fun _ _ _ _ _ => (by exact de_noX (de_newList rfl rfl (by rfl) T.z_list (by decide +kernel) (by exact (dv 4))))))) da_nil))))) da_nil))) (mt_of ms_app))))
    (dss_one (ds_forV rfl pw rfl (by exact (dv 0)) (dg_name (i := 4) sc_law_own.nd rfl (by first | exact .inl rfl | exact .inr rfl)) (dss_cons (ds_set (i := 5) sc_law_own.nd rfl (by first | exact .inl rfl | exact .inr rfl) (by exact (de_if (by exact (dt_cmp op_notN os_notN (by exact (de_ix ix_seq os_get (by exact (dv 4)) de_int (fun _ _ => rfl))) de_non (nomark _))) (by exact (de_lst (by exact (da_cons (by exact (de_tup (by exact (da_cons de_int (da_cons (by exact (de_ix ix_seq os_get (by exact (dv 4)) de_int (fun _ _ => rfl))) da_nil))))) da_nil)))) (by exact (de_lst da_nil)))))
    (dss_cons (ds_asg (by exact (de_call (ok_law_go T) (hr.mono (by decide)) (by rfl) T.g_law_go T.F_law_go.kp T.b_law_go tk (by exact (da_cons (by exact (dv 2)) (da_cons (by exact (de_ix ix_seq os_get (by exact (dv 4)) de_int (fun _ _ => rfl))) (da_cons (by exact (de_call (ok_law_with T) (hr.mono (by decide)) (by rfl) T.g_law_with T.F_law_with.kp T.b_law_with tk (by exact (da_cons (by exact (de_ix ix_seq os_get (by exact (dv 3)) de_int (fun _ _ => rfl))) (da_cons (by exact (dv 5)) da_nil))) (lenS (lenS len0)))) da_nil)))) (lenS (lenS (lenS len0))))) (dg_tupN rfl rfl (dgs_cons (dg_putL (by exact de_noX (by exact (dv 4))) (by exact de_noX de_int)) (dgs_cons (dg_name (i := 6) sc_law_own.nd rfl (by first | exact .inl rfl | exact .inr rfl)) dgs_nil)) (gs_cons no_putL (gs_cons no_nm gs_nil))))
    (dss_cons (ds_asg (by exact (de_op or_add os_add (by exact (de_ix ix_seq os_get (by exact (dv 4)) de_int (fun _ _ => rfl))) (by exact (dv 6)))) (dg_putL (by exact de_noX (by exact (dv 4))) (by exact de_noX de_int)))
    (dss_one (ds_asg (by exact (de_if (by exact (dt_cmp (op_eqD hr.units) os_eq (by exact (de_ix ix_seq os_get (by exact (dv 3)) de_int (fun _ _ => rfl))) (by exact (de_str (by decide +kernel) (by decide +kernel))) (nomark _))) (by exact (de_ix ix_seq os_get (by exact (dv 4)) de_int (fun _ _ => rfl))) de_non)) (dg_putL (by exact de_noX (by exact (dv 4))) (by exact de_noX de_int)))))))))) dss_nil)
    (dss_cons (ds_if (by exact (dt_cmp (op_eqD hr.units) os_eq (by exact (de_ix ix_seq os_get (by exact (dv 3)) de_int (fun _ _ => rfl))) (by exact (de_str (by decide +kernel) (by decide +kernel))) (nomark _))) (dss_cons (ds_if (by exact (dt_cmp (op_eqD hr.units) os_eqY (by exact (dv 1)) (by exact (de_lst da_nil)) (nomark _))) (dss_one (ds_ret (by exact (de_tup (by exact (da_cons (by exact (de_str (by decide +kernel) (by decide +kernel))) (da_cons de_int da_nil))))))) dss_nil)
    (dss_cons (ds_asg (by exact (PE.imp (pe_bm0 PySem.F.plainAttrs_list PySem.F.slot_list_pop PySem.F.type_list_pop mt_pop (by exact (dv 1))) (mt0_of ms_pop))) (dg_tupN rfl rfl (dgs_cons (dg_name (i := 7) sc_law_own.nd rfl (by first | exact .inl rfl | exact .inr rfl)) (dgs_cons (dg_name (i := 8) sc_law_own.nd rfl (by first | exact .inl rfl | exact .inr rfl)) dgs_nil)) (gs_cons no_nm (gs_cons no_nm gs_nil))))
    (dss_cons (ds_asg (by exact (dv 8)) (dg_all (by exact de_noX (by exact (dv 0)))))
    (dss_one (ds_ret (by exact (dv 7))))))) dss_nil)
    (dss_one (ds_ret de_non))))))
theorem ok_Office_stands (T : Txt C mg) : FnOk P C.w C.K mg base (L2.CX P C.w) 1 T.f_Office_stands T.fd_Office_stands ["self"] (spOf C 1 m_Office_stands) := by
  refine fn_ok (N := N_Office_stands) (body := b_Office_stands) T.F_Office_stands sc_Office_stands rfl fun cdv A outer s H E hr => ?_
  have tk : TakesK (cxOf (L2.CX P C.w) P C.w C.K mg base N_Office_stands "Office.stands" (defScope s_Office_stands) T.f_Office_stands cdv A outer s H E) E := takes_of rfl rfl rfl rfl
  have pw : PassesOwn (model P C.w) (cxOf (L2.CX P C.w) P C.w C.K mg base N_Office_stands "Office.stands" (defScope s_Office_stands) T.f_Office_stands cdv A outer s H E).A (cxOf (L2.CX P C.w) P C.w C.K mg base N_Office_stands "Office.stands" (defScope s_Office_stands) T.f_Office_stands cdv A outer s H E).env (cxOf (L2.CX P C.w) P C.w C.K mg base N_Office_stands "Office.stands" (defScope s_Office_stands) T.f_Office_stands cdv A outer s H E).xe := passes_of rfl
  exact (dss_one (ds_ret (by exact (de_callTy (or_list rfl) bs_list (by rfl) T.z_list (by decide +kernel) (by exact (da_cons (by exact (de_fld T.c_Office T.cl_Office T.na_Office_all_stands (by exact (dv 0)))) da_nil))))))
theorem ok_is_one (T : Txt C mg) : FnOk P C.w C.K mg base (L2.CX P C.w) 1 T.f_is_one T.fd_is_one ["things"] (spOf C 1 m_is_one) := by
  refine fn_ok (N := N_is_one) (body := b_is_one) T.F_is_one sc_is_one rfl fun cdv A outer s H E hr => ?_
  have tk : TakesK (cxOf (L2.CX P C.w) P C.w C.K mg base N_is_one "is_one" (defScope s_is_one) T.f_is_one cdv A outer s H E) E := takes_of rfl rfl rfl rfl
  have pw : PassesOwn (model P C.w) (cxOf (L2.CX P C.w) P C.w C.K mg base N_is_one "is_one" (defScope s_is_one) T.f_is_one cdv A outer s H E).A (cxOf (L2.CX P C.w) P C.w C.K mg base N_is_one "is_one" (defScope s_is_one) T.f_is_one cdv A outer s H E).env (cxOf (L2.CX P C.w) P C.w C.K mg base N_is_one "is_one" (defScope s_is_one) T.f_is_one cdv A outer s H E).xe := passes_of rfl
  exact (dss_one (ds_ret (by exact (de_cmp or_lt os_lt (by exact (de_lenSetY rfl hr.units rfl (by rfl) T.z_len (by rfl) T.z_set (by exact (dv 0)))) de_int (nomark _)))))
theorem ok_Office_in_step_k12 (T : Txt C mg) : FnOk P C.w C.K mg base (L2.CX P C.w) 2 T.f_Office_in_step_k12 T.fd_Office_in_step_k12 ["self"] (spOf C 1 m_Office_in_step_k12) := by
  refine fn_ok (N := N_Office_in_step_k12) (body := b_Office_in_step_k12) T.F_Office_in_step_k12 sc_Office_in_step_k12 rfl fun cdv A outer s H E hr => ?_
  have tk : TakesK (cxOf (L2.CX P C.w) P C.w C.K mg base N_Office_in_step_k12 "Office.in_step" (defScope s_Office_in_step_k12) T.f_Office_in_step_k12 cdv A outer s H E) E := takes_of rfl rfl rfl rfl
  have pw : PassesOwn (model P C.w) (cxOf (L2.CX P C.w) P C.w C.K mg base N_Office_in_step_k12 "Office.in_step" (defScope s_Office_in_step_k12) T.f_Office_in_step_k12 cdv A outer s H E).A (cxOf (L2.CX P C.w) P C.w C.K mg base N_Office_in_step_k12 "Office.in_step" (defScope s_Office_in_step_k12) T.f_Office_in_step_k12 cdv A outer s H E).env (cxOf (L2.CX P C.w) P C.w C.K mg base N_Office_in_step_k12 "Office.in_step" (defScope s_Office_in_step_k12) T.f_Office_in_step_k12 cdv A outer s H E).xe := passes_of rfl
  exact (dss_one (ds_ret (by exact (de_call (ok_is_one T) (hr.mono (by decide)) (by rfl) T.g_is_one T.F_is_one.kp T.b_is_one tk (by exact (da_cons (by exact (de_lc (own := [("stand", 1)]) rfl sc_Office_in_step_k12.nd (by exact di_all rfl (by exact (de_fld T.c_Office T.cl_Office T.na_Office_all_stands (by exact (dv 0))))) (by exact blkOk_by (N := N_Office_in_step_k12) (sc := defScope s_Office_in_step_k12) (own := [("stand", 1)]) (by decide +kernel)) (tx_name (by decide)) (fun _ _ _ _ _ => (by exact pg_name (i := 1) sc_Office_in_step_k12.nd rfl (by first | exact .inl rfl | exact .inr rfl))) (fun _ _ _ _ _ => (by exact dts_nil)) (fun _ _ _ _ _ => (by exact de_noX (by exact (de_sl or_sl ss_sl (by exact (dv 1)) do_no (do_some de_int))))))) da_nil)) (lenS len0)))))
theorem ok_places_of (T : Txt C mg) : FnOk P C.w C.K mg base (L2.CX P C.w) 1 T.f_places_of T.fd_places_of ["wheels"] (spOf C 1 m_places_of) := by
  refine fn_ok (N := N_places_of) (body := b_places_of) T.F_places_of sc_places_of rfl fun cdv A outer s H E hr => ?_
  have tk : TakesK (cxOf (L2.CX P C.w) P C.w C.K mg base N_places_of "places_of" (defScope s_places_of) T.f_places_of cdv A outer s H E) E := takes_of rfl rfl rfl rfl
  have pw : PassesOwn (model P C.w) (cxOf (L2.CX P C.w) P C.w C.K mg base N_places_of "places_of" (defScope s_places_of) T.f_places_of cdv A outer s H E).A (cxOf (L2.CX P C.w) P C.w C.K mg base N_places_of "places_of" (defScope s_places_of) T.f_places_of cdv A outer s H E).env (cxOf (L2.CX P C.w) P C.w C.K mg base N_places_of "places_of" (defScope s_places_of) T.f_places_of cdv A outer s H E).xe := passes_of rfl
  exact (dss_one (ds_ret (by exact (de_callB call_len bs_len (by rfl) T.z_len PySem.boot_len (by exact (da_cons (by exact (de_ix ix_seq os_get (by exact (dv 0)) de_int (fun _ _ => rfl))) da_nil))))))
theorem ok_is_stand (T : Txt C mg) : FnOk P C.w C.K mg base (L2.CX P C.w) 2 T.f_is_stand T.fd_is_stand ["wheels", "thing"] (spOf C 2 m_is_stand) := by
  refine fn_ok (N := N_is_stand) (body := b_is_stand) T.F_is_stand sc_is_stand rfl fun cdv A outer s H E hr => ?_
  have tk : TakesK (cxOf (L2.CX P C.w) P C.w C.K mg base N_is_stand "is_stand" (defScope s_is_stand) T.f_is_stand cdv A outer s H E) E := takes_of rfl rfl rfl rfl
  have pw : PassesOwn (model P C.w) (cxOf (L2.CX P C.w) P C.w C.K mg base N_is_stand "is_stand" (defScope s_is_stand) T.f_is_stand cdv A outer s H E).A (cxOf (L2.CX P C.w) P C.w C.K mg base N_is_stand "is_stand" (defScope s_is_stand) T.f_is_stand cdv A outer s H E).env (cxOf (L2.CX P C.w) P C.w C.K mg base N_is_stand "is_stand" (defScope s_is_stand) T.f_is_stand cdv A outer s H E).xe := passes_of rfl
  exact (dss_cons (ds_if (by exact (dt_w (dw_or (by exact (dt_not (by exact (dt_val (by exact (de_is (by decide) rfl (by rfl) T.z_isinstance (by rfl) T.z_tuple (by decide +kernel) (by exact (dv 1)))))))) (dw_or (by exact (dt_cmp (op_neD hr.units) os_ne (by exact (de_callB call_len bs_len (by rfl) T.z_len PySem.boot_len (by exact (da_cons (by exact (dv 1)) da_nil)))) de_int (nomark _))) (dw_or1 (by exact (dt_not (by exact (dt_val (by exact (de_call (ok_is_whole T) (hr.mono (by decide)) (by rfl) T.g_is_whole T.F_is_whole.kp T.b_is_whole tk (by exact (da_cons (by exact (de_ix ix_seq os_get (by exact (dv 1)) de_int (fun _ _ => rfl))) (da_cons de_int (da_cons (by exact (de_op op_sub os_sub (by exact (de_call (ok_places_of T) (hr.mono (by decide)) (by rfl) T.g_places_of T.F_places_of.kp T.b_places_of tk (by exact (da_cons (by exact (dv 0)) da_nil)) (lenS len0))) de_int)) da_nil)))) (lenS (lenS (lenS len0)))))))))))))) (dss_one (ds_ret de_bl)) dss_nil)
    (dss_cons (ds_if (by exact (dt_w (dw_or (by exact (dt_not (by exact (dt_val (by exact (de_is (by decide) rfl (by rfl) T.z_isinstance (by rfl) T.z_str (by decide +kernel) (by exact (de_ix ix_seq os_get (by exact (dv 1)) de_int (fun _ _ => rfl))))))))) (dw_or1 (by exact (dt_cmp or_notIn os_notIn (by exact (de_ix ix_seq os_get (by exact (dv 1)) de_int (fun _ _ => rfl))) (by exact (de_tup (by exact (da_cons (by exact (de_str (by decide +kernel) (by decide +kernel))) (da_cons (by exact (de_str (by decide +kernel) (by decide +kernel))) da_nil))))) (by with_unfolding_all rfl))))))) (dss_one (ds_ret de_bl)) dss_nil)
    (dss_one (ds_ret (by exact (de_call (ok_is_whole T) (hr.mono (by decide)) (by rfl) T.g_is_whole T.F_is_whole.kp T.b_is_whole tk (by exact (da_cons (by exact (de_ix ix_seq os_get (by exact (dv 1)) de_int (fun _ _ => rfl))) (da_cons de_int (da_cons (by exact (de_op or_mul os_mul (by exact (de_call (ok_places_of T) (hr.mono (by decide)) (by rfl) T.g_places_of T.F_places_of.kp T.b_places_of tk (by exact (da_cons (by exact (dv 0)) da_nil)) (lenS len0))) (by exact (de_op or_add os_add (by exact (de_ix ix_seq os_get (by exact (dv 0)) de_int (fun _ _ => rfl))) de_int)))) da_nil)))) (lenS (lenS (lenS len0)))))))))
theorem ok_need_stand (T : Txt C mg) : FnOk P C.w C.K mg base (L2.CX P C.w) 5 T.f_need_stand T.fd_need_stand ["wheels", "thing"] (spOf C 2 m_need_stand) := by
  refine fn_ok (N := N_need_stand) (body := b_need_stand) T.F_need_stand sc_need_stand rfl fun cdv A outer s H E hr => ?_
  have tk : TakesK (cxOf (L2.CX P C.w) P C.w C.K mg base N_need_stand "need_stand" (defScope s_need_stand) T.f_need_stand cdv A outer s H E) E := takes_of rfl rfl rfl rfl
  have pw : PassesOwn (model P C.w) (cxOf (L2.CX P C.w) P C.w C.K mg base N_need_stand "need_stand" (defScope s_need_stand) T.f_need_stand cdv A outer s H E).A (cxOf (L2.CX P C.w) P C.w C.K mg base N_need_stand "need_stand" (defScope s_need_stand) T.f_need_stand cdv A outer s H E).env (cxOf (L2.CX P C.w) P C.w C.K mg base N_need_stand "need_stand" (defScope s_need_stand) T.f_need_stand cdv A outer s H E).xe := passes_of rfl
  exact (dss_cons (ds_expr (by exact (de_call (ok_need_wheels T) (hr.mono (by decide)) (by rfl) T.g_need_wheels T.F_need_wheels.kp T.b_need_wheels tk (by exact (da_cons (by exact (dv 0)) da_nil)) (lenS len0))))
    (dss_one (ds_if (by exact (dt_not (by exact (dt_val (by exact (de_call (ok_is_stand T) (hr.mono (by decide)) (by rfl) T.g_is_stand T.F_is_stand.kp T.b_is_stand tk (by exact (da_cons (by exact (dv 0)) (da_cons (by exact (dv 1)) da_nil))) (lenS (lenS len0)))))))) (dss_one (ds_raise rfl tk (pmk_own PySem.F.excBase_ValueError T.q_NoStand T.n_NoStand T.p_NoStand (raises_own T.e_NoStand T.t_NoStand) (by exact rfl)) T.c_NoStand)) dss_nil)))
theorem ok_Office_come (T : Txt C mg) : FnOk P C.w C.K mg base (L2.CX P C.w) 6 T.f_Office_come T.fd_Office_come ["self", "stand"] (spOf C 2 m_Office_come) := by
  refine fn_ok (N := N_Office_come) (body := b_Office_come) T.F_Office_come sc_Office_come rfl fun cdv A outer s H E hr => ?_
  have tk : TakesK (cxOf (L2.CX P C.w) P C.w C.K mg base N_Office_come "Office.come" (defScope s_Office_come) T.f_Office_come cdv A outer s H E) E := takes_of rfl rfl rfl rfl
  have pw : PassesOwn (model P C.w) (cxOf (L2.CX P C.w) P C.w C.K mg base N_Office_come "Office.come" (defScope s_Office_come) T.f_Office_come cdv A outer s H E).A (cxOf (L2.CX P C.w) P C.w C.K mg base N_Office_come "Office.come" (defScope s_Office_come) T.f_Office_come cdv A outer s H E).env (cxOf (L2.CX P C.w) P C.w C.K mg base N_Office_come "Office.come" (defScope s_Office_come) T.f_Office_come cdv A outer s H E).xe := passes_of rfl
  exact (dss_cons (ds_expr (by exact (de_call (ok_need_stand T) (hr.mono (by decide)) (by rfl) T.g_need_stand T.F_need_stand.kp T.b_need_stand tk (by exact (da_cons (by exact (de_fld T.c_Office T.cl_Office T.na_Office_wheels (by exact (dv 0)))) (da_cons (by exact (dv 1)) da_nil))) (lenS (lenS len0)))))
    (dss_cons (ds_fld T.c_Office T.cl_Office T.na_Office_all_stands (by exact (dv 0)) (by exact (by exact (de_op or_add os_add (by exact (de_fld T.c_Office T.cl_Office T.na_Office_all_stands (by exact (dv 0)))) (by exact (de_tup (by exact (da_cons (by exact (dv 1)) da_nil))))))))
    (dss_cons (ds_fld T.c_Office T.cl_Office T.na_Office_all_tapes (by exact (dv 0)) (by exact (by exact (de_op or_add os_add (by exact (de_fld T.c_Office T.cl_Office T.na_Office_all_tapes (by exact (dv 0)))) (by exact (de_tup (by exact (da_cons (by exact (de_str (by decide +kernel) (by decide +kernel))) da_nil))))))))
    (dss_cons (ds_fld T.c_Office T.cl_Office T.na_Office_waits (by exact (dv 0)) (by exact (by exact (de_op or_add os_add (by exact (de_fld T.c_Office T.cl_Office T.na_Office_waits (by exact (dv 0)))) (by exact (de_tup (by exact (da_cons de_non da_nil))))))))
    (dss_one (ds_ret (by exact (de_op op_sub os_sub (by exact (de_callB call_len bs_len (by rfl) T.z_len PySem.boot_len (by exact (da_cons (by exact (de_fld T.c_Office T.cl_Office T.na_Office_all_stands (by exact (dv 0)))) da_nil)))) de_int))))))))
theorem ok_is_row (T : Txt C mg) : FnOk P C.w C.K mg base (L2.CX P C.w) 1 T.f_is_row T.fd_is_row ["thing", "most"] (spOf C 2 m_is_row) := by
  refine fn_ok (N := N_is_row) (body := b_is_row) T.F_is_row sc_is_row rfl fun cdv A outer s H E hr => ?_
  have tk : TakesK (cxOf (L2.CX P C.w) P C.w C.K mg base N_is_row "is_row" (defScope s_is_row) T.f_is_row cdv A outer s H E) E := takes_of rfl rfl rfl rfl
  have pw : PassesOwn (model P C.w) (cxOf (L2.CX P C.w) P C.w C.K mg base N_is_row "is_row" (defScope s_is_row) T.f_is_row cdv A outer s H E).A (cxOf (L2.CX P C.w) P C.w C.K mg base N_is_row "is_row" (defScope s_is_row) T.f_is_row cdv A outer s H E).env (cxOf (L2.CX P C.w) P C.w C.K mg base N_is_row "is_row" (defScope s_is_row) T.f_is_row cdv A outer s H E).xe := passes_of rfl
  exact (dss_one (ds_ret (by exact (de_and (by exact (de_is (by decide) rfl (by rfl) T.z_isinstance (by rfl) T.z_str (by decide +kernel) (by exact (dv 0)))) (de_and (by exact (de_cmp or_le os_le (by exact (de_callB call_len bs_len (by rfl) T.z_len PySem.boot_len (by exact (da_cons (by exact (dv 0)) da_nil)))) (by exact (dv 1)) (nomark _))) (de_one (by exact (de_callB (cr_all rfl) bs_all (by rfl) T.z_all (by decide +kernel) (by exact (da_cons (by exact (de_lc (own := [("pulse", 2)]) rfl sc_is_row.nd (by exact di_all rfl (by exact (dv 0))) (by exact blkOk_by (N := N_is_row) (sc := defScope s_is_row) (own := [("pulse", 2)]) (by decide +kernel)) (tx_name (by decide)) (fun _ _ _ _ _ => (by exact pg_name (i := 2) sc_is_row.nd rfl (by first | exact .inl rfl | exact .inr rfl))) (fun _ _ _ _ _ => (by exact dts_nil)) (fun _ _ _ _ _ => (by exact de_noX (by exact (de_cmp or_in os_in (by exact (dv 2)) (by exact (de_const (by rfl) T.k_PULSES)) (by with_unfolding_all rfl))))))) da_nil))))))))))
theorem ok_need_row (T : Txt C mg) : FnOk P C.w C.K mg base (L2.CX P C.w) 2 T.f_need_row T.fd_need_row ["thing", "most"] (spOf C 2 m_need_row) := by
  refine fn_ok (N := N_need_row) (body := b_need_row) T.F_need_row sc_need_row rfl fun cdv A outer s H E hr => ?_
  have tk : TakesK (cxOf (L2.CX P C.w) P C.w C.K mg base N_need_row "need_row" (defScope s_need_row) T.f_need_row cdv A outer s H E) E := takes_of rfl rfl rfl rfl
  have pw : PassesOwn (model P C.w) (cxOf (L2.CX P C.w) P C.w C.K mg base N_need_row "need_row" (defScope s_need_row) T.f_need_row cdv A outer s H E).A (cxOf (L2.CX P C.w) P C.w C.K mg base N_need_row "need_row" (defScope s_need_row) T.f_need_row cdv A outer s H E).env (cxOf (L2.CX P C.w) P C.w C.K mg base N_need_row "need_row" (defScope s_need_row) T.f_need_row cdv A outer s H E).xe := passes_of rfl
  exact (dss_one (ds_if (by exact (dt_not (by exact (dt_val (by exact (de_call (ok_is_row T) (hr.mono (by decide)) (by rfl) T.g_is_row T.F_is_row.kp T.b_is_row tk (by exact (da_cons (by exact (dv 0)) (da_cons (by exact (dv 1)) da_nil))) (lenS (lenS len0)))))))) (dss_one (ds_raise rfl tk (pmk_own PySem.F.excBase_ValueError T.q_NoRow T.n_NoRow T.p_NoRow (raises_own T.e_NoRow T.t_NoRow) (by exact rfl)) T.c_NoRow)) dss_nil))
theorem ok_is_caught (T : Txt C mg) : FnOk P C.w C.K mg base (L2.CX P C.w) 2 T.f_is_caught T.fd_is_caught ["wheels", "stand"] (spOf C 2 m_is_caught) := by
  refine fn_ok (N := N_is_caught) (body := b_is_caught) T.F_is_caught sc_is_caught rfl fun cdv A outer s H E hr => ?_
  have tk : TakesK (cxOf (L2.CX P C.w) P C.w C.K mg base N_is_caught "is_caught" (defScope s_is_caught) T.f_is_caught cdv A outer s H E) E := takes_of rfl rfl rfl rfl
  have pw : PassesOwn (model P C.w) (cxOf (L2.CX P C.w) P C.w C.K mg base N_is_caught "is_caught" (defScope s_is_caught) T.f_is_caught cdv A outer s H E).A (cxOf (L2.CX P C.w) P C.w C.K mg base N_is_caught "is_caught" (defScope s_is_caught) T.f_is_caught cdv A outer s H E).env (cxOf (L2.CX P C.w) P C.w C.K mg base N_is_caught "is_caught" (defScope s_is_caught) T.f_is_caught cdv A outer s H E).xe := passes_of rfl
  exact (dss_one (ds_ret (by exact (de_and (by exact (de_cmp (op_eqD hr.units) os_eq (by exact (de_ix ix_seq os_get (by exact (dv 1)) de_int (fun _ _ => rfl))) de_int (nomark _))) (de_one (by exact (de_cmp op_ge os_ge (by exact (de_ix ix_seq os_get (by exact (dv 1)) de_int (fun _ _ => rfl))) (by exact (de_op or_mul os_mul (by exact (de_call (ok_places_of T) (hr.mono (by decide)) (by rfl) T.g_places_of T.F_places_of.kp T.b_places_of tk (by exact (da_cons (by exact (dv 0)) da_nil)) (lenS len0))) (by exact (de_ix ix_seq os_get (by exact (dv 0)) de_int (fun _ _ => rfl))))) (nomark _))))))))
theorem ok_pulsed (T : Txt C mg) : FnOk P C.w C.K mg base (L2.CX P C.w) 3 T.f_pulsed T.fd_pulsed ["wheels", "stand", "pulse"] (spOf C 3 m_pulsed) := by
  refine fn_ok (N := N_pulsed) (body := b_pulsed) T.F_pulsed sc_pulsed rfl fun cdv A outer s H E hr => ?_
  have tk : TakesK (cxOf (L2.CX P C.w) P C.w C.K mg base N_pulsed "pulsed" (defScope s_pulsed) T.f_pulsed cdv A outer s H E) E := takes_of rfl rfl rfl rfl
  have pw : PassesOwn (model P C.w) (cxOf (L2.CX P C.w) P C.w C.K mg base N_pulsed "pulsed" (defScope s_pulsed) T.f_pulsed cdv A outer s H E).A (cxOf (L2.CX P C.w) P C.w C.K mg base N_pulsed "pulsed" (defScope s_pulsed) T.f_pulsed cdv A outer s H E).env (cxOf (L2.CX P C.w) P C.w C.K mg base N_pulsed "pulsed" (defScope s_pulsed) T.f_pulsed cdv A outer s H E).xe := passes_of rfl
  exact (dss_cons (ds_asg (by exact (dv 1)) (dg_tupN rfl rfl (dgs_cons (dg_name (i := 3) sc_pulsed.nd rfl (by first | exact .inl rfl | exact .inr rfl)) (dgs_cons (dg_name (i := 4) sc_pulsed.nd rfl (by first | exact .inl rfl | exact .inr rfl)) (dgs_cons (dg_name (i := 5) sc_pulsed.nd rfl (by first | exact .inl rfl | exact .inr rfl)) dgs_nil))) (gs_cons no_nm (gs_cons no_nm (gs_cons no_nm gs_nil)))))
    (dss_cons (ds_if (by exact (dt_cmp (op_eqD hr.units) os_eq (by exact (dv 2)) (by exact (de_str (by decide +kernel) (by decide +kernel))) (nomark _))) (dss_cons (ds_if (by exact (dt_val (by exact (de_call (ok_is_caught T) (hr.mono (by decide)) (by rfl) T.g_is_caught T.F_is_caught.kp T.b_is_caught tk (by exact (da_cons (by exact (dv 0)) (da_cons (by exact (dv 1)) da_nil))) (lenS (lenS len0)))))) (dss_one (ds_ret (by exact (de_tup (by exact (da_cons (by exact (dv 1)) (da_cons (by exact (de_str (by decide +kernel) (by decide +kernel))) da_nil))))))) dss_nil)
    (dss_one (ds_ret (by exact (de_tup (by exact (da_cons (by exact (de_tup (by exact (da_cons (by exact (de_op op_mod os_mod (by exact (de_op or_add os_add (by exact (dv 3)) de_int)) (by exact (de_call (ok_places_of T) (hr.mono (by decide)) (by rfl) T.g_places_of T.F_places_of.kp T.b_places_of tk (by exact (da_cons (by exact (dv 0)) da_nil)) (lenS len0))))) (da_cons (by exact (dv 4)) (da_cons (by exact (de_op or_add os_add (by exact (dv 5)) de_int)) da_nil)))))) (da_cons (by exact (de_str (by decide +kernel) (by decide +kernel))) da_nil)))))))) dss_nil)
    (dss_cons (ds_if (by exact (dt_cmp (op_eqD hr.units) os_eq (by exact (dv 2)) (by exact (de_str (by decide +kernel) (by decide +kernel))) (nomark _))) (dss_one (ds_ret (by exact (de_tup (by exact (da_cons (by exact (de_tup (by exact (da_cons (by exact (dv 3)) (da_cons (by exact (dv 4)) (da_cons de_int da_nil)))))) (da_cons (by exact (de_ix ix_seq os_get (by exact (de_ix ix_seq os_get (by exact (dv 0)) (by exact (de_if (by exact (dt_cmp (op_eqD hr.units) os_eq (by exact (dv 4)) (by exact (de_str (by decide +kernel) (by decide +kernel))) (nomark _))) de_int de_int)) (fun _ _ => rfl))) (by exact (dv 3)) (fun _ _ => rfl))) da_nil))))))) dss_nil)
    (dss_one (ds_ret (by exact (de_tup (by exact (da_cons (by exact (de_tup (by exact (da_cons (by exact (dv 3)) (da_cons (by exact (dv 2)) (da_cons de_int da_nil)))))) (da_cons (by exact (de_str (by decide +kernel) (by decide +kernel))) da_nil))))))))))
theorem ok_rowed (T : Txt C mg) : FnOk P C.w C.K mg base (L2.CX P C.w) 4 T.f_rowed T.fd_rowed ["wheels", "stand", "row"] (spOf C 3 m_rowed) := by
  refine fn_ok (N := N_rowed) (body := b_rowed) T.F_rowed sc_rowed rfl fun cdv A outer s H E hr => ?_
  have tk : TakesK (cxOf (L2.CX P C.w) P C.w C.K mg base N_rowed "rowed" (defScope s_rowed) T.f_rowed cdv A outer s H E) E := takes_of rfl rfl rfl rfl
  have pw : PassesOwn (model P C.w) (cxOf (L2.CX P C.w) P C.w C.K mg base N_rowed "rowed" (defScope s_rowed) T.f_rowed cdv A outer s H E).A (cxOf (L2.CX P C.w) P C.w C.K mg base N_rowed "rowed" (defScope s_rowed) T.f_rowed cdv A outer s H E).env (cxOf (L2.CX P C.w) P C.w C.K mg base N_rowed "rowed" (defScope s_rowed) T.f_rowed cdv A outer s H E).xe := passes_of rfl
  exact (dss_cons (ds_set (i := 3) sc_rowed.nd rfl (by first | exact .inl rfl | exact .inr rfl) (by exact (de_str (by decide +kernel) (by decide +kernel))))
    (dss_cons (ds_for pw rfl (by exact di_all rfl (by exact (dv 2))) (dg_name (i := 4) sc_rowed.nd rfl (by first | exact .inl rfl | exact .inr rfl)) (dss_cons (ds_asg (by exact (de_call (ok_pulsed T) (hr.mono (by decide)) (by rfl) T.g_pulsed T.F_pulsed.kp T.b_pulsed tk (by exact (da_cons (by exact (dv 0)) (da_cons (by exact (dv 1)) (da_cons (by exact (dv 4)) da_nil)))) (lenS (lenS (lenS len0))))) (dg_tupN rfl rfl (dgs_cons (dg_name (i := 1) sc_rowed.nd rfl (by first | exact .inl rfl | exact .inr rfl)) (dgs_cons (dg_name (i := 5) sc_rowed.nd rfl (by first | exact .inl rfl | exact .inr rfl)) dgs_nil)) (gs_cons no_nm (gs_cons no_nm gs_nil))))
    (dss_one (ds_set (i := 3) sc_rowed.nd rfl (by first | exact .inl rfl | exact .inr rfl) (by exact (de_op or_add os_add (by exact (dv 3)) (by exact (dv 5))))))))
    (dss_one (ds_ret (by exact (de_tup (by exact (da_cons (by exact (dv 1)) (da_cons (by exact (dv 3)) da_nil)))))))))
theorem ok_slipped (T : Txt C mg) : FnOk P C.w C.K mg base (L2.CX P C.w) 1 T.f_slipped T.fd_slipped ["row", "slips"] (spOf C 2 m_slipped) := by
  refine fn_ok (N := N_slipped) (body := b_slipped) T.F_slipped sc_slipped rfl fun cdv A outer s H E hr => ?_
  have tk : TakesK (cxOf (L2.CX P C.w) P C.w C.K mg base N_slipped "slipped" (defScope s_slipped) T.f_slipped cdv A outer s H E) E := takes_of rfl rfl rfl rfl
  have pw : PassesOwn (model P C.w) (cxOf (L2.CX P C.w) P C.w C.K mg base N_slipped "slipped" (defScope s_slipped) T.f_slipped cdv A outer s H E).A (cxOf (L2.CX P C.w) P C.w C.K mg base N_slipped "slipped" (defScope s_slipped) T.f_slipped cdv A outer s H E).env (cxOf (L2.CX P C.w) P C.w C.K mg base N_slipped "slipped" (defScope s_slipped) T.f_slipped cdv A outer s H E).xe := passes_of rfl
  exact (dss_cons (ds_set (i := 2) sc_slipped.nd rfl (by first | exact .inl rfl | exact .inr rfl) (by exact (de_callTy (cr_dictX rfl) bs_dict (by rfl) T.z_dict (by decide +kernel) (by exact (da_cons (by exact (dv 1)) da_nil)))))
    (dss_cons (ds_setLc (i := 3) (own := [("number", 4)]) rfl sc_slipped.nd rfl rfl (by exact sw_true rfl rfl rfl (by decide +kernel)) (by exact di_rng1 (by rfl) T.z_range (by exact (de_callB call_len bs_len (by rfl) T.z_len PySem.boot_len (by exact (da_cons (by exact (dv 0)) da_nil))))) (by exact blkOk_by (N := N_slipped) (sc := defScope s_slipped) (own := [("number", 4)]) (by decide +kernel)) (tx_name (by decide)) (fun _ _ _ _ _ => (by exact pg_name (i := 4) sc_slipped.nd rfl (by first | exact .inl rfl | exact .inr rfl))) (fun _ _ _ _ _ => (by exact dts_nil)) (fun _ _ _ _ _ => (by exact de_noX (by exact (de_dget2 (hu_of hr) (by exact (de_str (by decide +kernel) (by decide +kernel))) de_int (by exact (de_str (by decide +kernel) (by decide +kernel))) de_int (by exact (de_get1 (hu_of hr) (by exact (dv 2)) (by exact (dv 4)) ⟨rfl, rfl, rfl, rfl⟩)) de_int ⟨rfl, rfl, rfl, rfl⟩)))))
    (dss_one (ds_ret (by exact (de_join rfl (by exact (de_str (by decide +kernel) (by decide +kernel))) (by exact (de_lc (own := [("pulse", 5), ("often", 6)]) rfl sc_slipped.nd (by exact di_zip rfl (by rfl) T.z_zip (by exact (dv 0)) (by exact (dv 3))) (by exact blkOk_by (N := N_slipped) (sc := defScope s_slipped) (own := [("pulse", 5), ("often", 6)]) (by decide +kernel)) (tx_tup (txs_cons (tx_name (by decide)) (txs_cons (tx_name (by decide)) txs_nil))) (fun _ _ _ _ _ => (by exact pg_tup rfl (pgs_cons (pg_name (i := 5) sc_slipped.nd rfl (by first | exact .inl rfl | exact .inr rfl)) (pgs_cons (pg_name (i := 6) sc_slipped.nd rfl (by first | exact .inl rfl | exact .inr rfl)) pgs_nil)))) (fun _ _ _ _ _ => (by exact dts_nil)) (fun _ _ _ _ _ => (by exact de_noX (by exact (de_op or_mul os_mul (by exact (dv 5)) (by exact (dv 6))))))))))))))
theorem ok_Office_send (T : Txt C mg) : FnOk P C.w C.K mg base (L2.CX P C.w) 5 T.f_Office_send T.fd_Office_send ["self", "row"] (spOf C 2 m_Office_send) := by
  refine fn_ok (N := N_Office_send) (body := b_Office_send) T.F_Office_send sc_Office_send rfl fun cdv A outer s H E hr => ?_
  have tk : TakesK (cxOf (L2.CX P C.w) P C.w C.K mg base N_Office_send "Office.send" (defScope s_Office_send) T.f_Office_send cdv A outer s H E) E := takes_of rfl rfl rfl rfl
  have pw : PassesOwn (model P C.w) (cxOf (L2.CX P C.w) P C.w C.K mg base N_Office_send "Office.send" (defScope s_Office_send) T.f_Office_send cdv A outer s H E).A (cxOf (L2.CX P C.w) P C.w C.K mg base N_Office_send "Office.send" (defScope s_Office_send) T.f_Office_send cdv A outer s H E).env (cxOf (L2.CX P C.w) P C.w C.K mg base N_Office_send "Office.send" (defScope s_Office_send) T.f_Office_send cdv A outer s H E).xe := passes_of rfl
  exact (dss_cons (ds_expr (by exact (de_call (ok_need_row T) (hr.mono (by decide)) (by rfl) T.g_need_row T.F_need_row.kp T.b_need_row tk (by exact (da_cons (by exact (dv 1)) (da_cons (by exact (de_const (by rfl) T.k_LONG)) da_nil))) (lenS (lenS len0)))))
    (dss_cons (ds_expr (by exact (PE.imp (pe_bm PySem.F.plainAttrs_list PySem.F.slot_list_append PySem.F.type_list_append mt_append (by exact (de_fld T.c_Office T.cl_Office T.na_Office_past (by exact (dv 0)))) (by exact (da_cons (by exact (de_tup (by exact (da_cons (by exact (dv 1)) (da_cons (by exact (de_fld T.c_Office T.cl_Office T.na_Office_all_stands (by exact (dv 0)))) (da_cons (by exact (de_fld T.c_Office T.cl_Office T.na_Office_all_tapes (by exact (dv 0)))) (da_cons (by exact (de_fld T.c_Office T.cl_Office T.na_Office_waits (by exact (dv 0)))) da_nil))))))) da_nil))) (mt_of ms_app))))
    (dss_cons (ds_if (by exact (dt_cmp (op_eqD hr.units) os_eq (by exact (dv 1)) (by exact (de_str (by decide +kernel) (by decide +kernel))) (nomark _))) (dss_one ds_retN) dss_nil)
    (dss_cons (ds_setLc (i := 2) (own := [("word", 3)]) rfl sc_Office_send.nd rfl rfl (by exact sw_true rfl rfl rfl (by decide +kernel)) (by exact di_all rfl (by exact (de_fld T.c_Office T.cl_Office T.na_Office_waits (by exact (dv 0))))) (by exact blkOk_by (N := N_Office_send) (sc := defScope s_Office_send) (own := [("word", 3)]) (by decide +kernel)) (tx_name (by decide)) (fun _ _ _ _ _ => (by exact pg_name (i := 3) sc_Office_send.nd rfl (by first | exact .inl rfl | exact .inr rfl))) (fun _ _ _ _ _ => (by exact dts_nil)) (fun _ _ _ _ _ => (by exact de_noX (by exact (de_if (by exact (dt_cmp op_notN os_notN (by exact (dv 3)) de_non (nomark _))) (by exact (de_tpx (by exact (da_cons (by exact (de_tup (by exact (da_cons de_int (da_cons (by exact (dv 3)) da_nil))))) da_nil)))) (by exact (de_tpx da_nil)))))))
    (dss_cons (ds_setLc (i := 4) (own := [("stand", 5), ("one", 6)]) rfl sc_Office_send.nd rfl rfl (by exact sw_true rfl rfl rfl (by decide +kernel)) (by exact di_zip rfl (by rfl) T.z_zip (by exact (de_fld T.c_Office T.cl_Office T.na_Office_all_stands (by exact (dv 0)))) (by exact (dv 2))) (by exact blkOk_by (N := N_Office_send) (sc := defScope s_Office_send) (own := [("stand", 5), ("one", 6)]) (by decide +kernel)) (tx_tup (txs_cons (tx_name (by decide)) (txs_cons (tx_name (by decide)) txs_nil))) (fun _ _ _ _ _ => (by exact pg_tup rfl (pgs_cons (pg_name (i := 5) sc_Office_send.nd rfl (by first | exact .inl rfl | exact .inr rfl)) (pgs_cons (pg_name (i := 6) sc_Office_send.nd rfl (by first | exact .inl rfl | exact .inr rfl)) pgs_nil)))) (fun _ _ _ _ _ => (by exact dts_nil)) (fun _ _ _ _ _ => (by exact de_noX (by exact (de_call (ok_rowed T) (hr.mono (by decide)) (by rfl) T.g_rowed T.F_rowed.kp T.b_rowed takes_E0 (by exact (da_cons (by exact (de_fld T.c_Office T.cl_Office T.na_Office_wheels (by exact (dv 0)))) (da_cons (by exact (dv 5)) (da_cons (by exact (de_call (ok_slipped T) (hr.mono (by decide)) (by rfl) T.g_slipped T.F_slipped.kp T.b_slipped takes_E0 (by exact (da_cons (by exact (dv 1)) (da_cons (by exact (dv 6)) da_nil))) (lenS (lenS len0)))) da_nil)))) (lenS (lenS (lenS len0))))))))
    (dss_cons (ds_fld T.c_Office T.cl_Office T.na_Office_all_stands (by exact (dv 0)) (by exact (by exact (de_callTy call_tuple_of bs_tuple (by rfl) T.z_tuple (by decide +kernel) (by exact (da_cons (by exact (de_lc (own := [("stand", 5), ("text", 7)]) rfl sc_Office_send.nd (by exact di_all rfl (by exact (dv 4))) (by exact blkOk_by (N := N_Office_send) (sc := defScope s_Office_send) (own := [("stand", 5), ("text", 7)]) (by decide +kernel)) (tx_tup (txs_cons (tx_name (by decide)) (txs_cons (tx_name (by decide)) txs_nil))) (fun _ _ _ _ _ => (by exact pg_tup rfl (pgs_cons (pg_name (i := 5) sc_Office_send.nd rfl (by first | exact .inl rfl | exact .inr rfl)) (pgs_cons (pg_name (i := 7) sc_Office_send.nd rfl (by first | exact .inl rfl | exact .inr rfl)) pgs_nil)))) (fun _ _ _ _ _ => (by exact dts_nil)) (fun _ _ _ _ _ => (by exact de_noX (by exact (dv 5)))))) da_nil))))))
    (dss_cons (ds_fld T.c_Office T.cl_Office T.na_Office_all_tapes (by exact (dv 0)) (by exact (by exact (de_callTy call_tuple_of bs_tuple (by rfl) T.z_tuple (by decide +kernel) (by exact (da_cons (by exact (de_lc (own := [("old", 8), ("stand", 5), ("text", 7)]) rfl sc_Office_send.nd (by exact di_zip rfl (by rfl) T.z_zip (by exact (de_fld T.c_Office T.cl_Office T.na_Office_all_tapes (by exact (dv 0)))) (by exact (dv 4))) (by exact blkOk_by (N := N_Office_send) (sc := defScope s_Office_send) (own := [("old", 8), ("stand", 5), ("text", 7)]) (by decide +kernel)) (tx_tup (txs_cons (tx_name (by decide)) (txs_cons (tx_tup (txs_cons (tx_name (by decide)) (txs_cons (tx_name (by decide)) txs_nil))) txs_nil))) (fun _ _ _ _ _ => (by exact pg_tup rfl (pgs_cons (pg_name (i := 8) sc_Office_send.nd rfl (by first | exact .inl rfl | exact .inr rfl)) (pgs_cons (pg_tup rfl (pgs_cons (pg_name (i := 5) sc_Office_send.nd rfl (by first | exact .inl rfl | exact .inr rfl)) (pgs_cons (pg_name (i := 7) sc_Office_send.nd rfl (by first | exact .inl rfl | exact .inr rfl)) pgs_nil))) pgs_nil)))) (fun _ _ _ _ _ => (by exact dts_nil)) (fun _ _ _ _ _ => (by exact de_noX (by exact (de_op or_add os_add (by exact (dv 8)) (by exact (dv 7)))))))) da_nil))))))
    (dss_one (ds_fld T.c_Office T.cl_Office T.na_Office_waits (by exact (dv 0)) (by exact (by exact (de_op or_mulT (os_mulT rfl) (by exact (de_tup (by exact (da_cons de_non da_nil)))) (by exact (de_callB call_len bs_len (by rfl) T.z_len PySem.boot_len (by exact (da_cons (by exact (de_fld T.c_Office T.cl_Office T.na_Office_waits (by exact (dv 0)))) da_nil))))))))))))))))
theorem ok_Office_slip (T : Txt C mg) : FnOk P C.w C.K mg base (L2.CX P C.w) 2 T.f_Office_slip T.fd_Office_slip ["self", "number", "word"] (spOf C 3 m_Office_slip) := by
  refine fn_ok (N := N_Office_slip) (body := b_Office_slip) T.F_Office_slip sc_Office_slip rfl fun cdv A outer s H E hr => ?_
  have tk : TakesK (cxOf (L2.CX P C.w) P C.w C.K mg base N_Office_slip "Office.slip" (defScope s_Office_slip) T.f_Office_slip cdv A outer s H E) E := takes_of rfl rfl rfl rfl
  have pw : PassesOwn (model P C.w) (cxOf (L2.CX P C.w) P C.w C.K mg base N_Office_slip "Office.slip" (defScope s_Office_slip) T.f_Office_slip cdv A outer s H E).A (cxOf (L2.CX P C.w) P C.w C.K mg base N_Office_slip "Office.slip" (defScope s_Office_slip) T.f_Office_slip cdv A outer s H E).env (cxOf (L2.CX P C.w) P C.w C.K mg base N_Office_slip "Office.slip" (defScope s_Office_slip) T.f_Office_slip cdv A outer s H E).xe := passes_of rfl
  exact (dss_cons (ds_if (by exact (dt_not (by exact (dt_val (by exact (de_call (ok_is_whole T) (hr.mono (by decide)) (by rfl) T.g_is_whole T.F_is_whole.kp T.b_is_whole tk (by exact (da_cons (by exact (dv 1)) (da_cons de_int (da_cons (by exact (de_op op_sub os_sub (by exact (de_callB call_len bs_len (by rfl) T.z_len PySem.boot_len (by exact (da_cons (by exact (de_fld T.c_Office T.cl_Office T.na_Office_all_stands (by exact (dv 0)))) da_nil)))) de_int)) da_nil)))) (lenS (lenS (lenS len0))))))))) (dss_one (ds_raise rfl tk (pmk_own PySem.F.excBase_ValueError T.q_NoPrinter T.n_NoPrinter T.p_NoPrinter (raises_own T.e_NoPrinter T.t_NoPrinter) (by exact rfl)) T.c_NoPrinter)) dss_nil)
    (dss_cons (ds_if (by exact (dt_w (dw_or (by exact (dt_not (by exact (dt_val (by exact (de_is (by decide) rfl (by rfl) T.z_isinstance (by rfl) T.z_str (by decide +kernel) (by exact (dv 2)))))))) (dw_or1 (by exact (dt_cmp or_notIn os_notIn (by exact (dv 2)) (by exact (de_const (by rfl) T.k_WORDS)) (by with_unfolding_all rfl))))))) (dss_one (ds_raise rfl tk (pmk_own PySem.F.excBase_ValueError T.q_NoWord T.n_NoWord T.p_NoWord (raises_own T.e_NoWord T.t_NoWord) (by exact rfl)) T.c_NoWord)) dss_nil)
    (dss_one (ds_fld T.c_Office T.cl_Office T.na_Office_waits (by exact (dv 0)) (by exact (by exact (de_op or_add os_add (by exact (de_op or_add os_add (by exact (de_sl or_sl ss_sl (by exact (de_fld T.c_Office T.cl_Office T.na_Office_waits (by exact (dv 0)))) do_no (do_some (by exact (dv 1))))) (by exact (de_tup (by exact (da_cons (by exact (dv 2)) da_nil)))))) (by exact (de_sl or_sl ss_sl (by exact (de_fld T.c_Office T.cl_Office T.na_Office_waits (by exact (dv 0)))) (do_some (by exact (de_op or_add os_add (by exact (dv 1)) de_int))) do_no)))))))))
theorem ok_Office_back (T : Txt C mg) : FnOk P C.w C.K mg base (L2.CX P C.w) 1 T.f_Office_back T.fd_Office_back ["self"] (spOf C 1 m_Office_back) := by
  refine fn_ok (N := N_Office_back) (body := b_Office_back) T.F_Office_back sc_Office_back rfl fun cdv A outer s H E hr => ?_
  have tk : TakesK (cxOf (L2.CX P C.w) P C.w C.K mg base N_Office_back "Office.back" (defScope s_Office_back) T.f_Office_back cdv A outer s H E) E := takes_of rfl rfl rfl rfl
  have pw : PassesOwn (model P C.w) (cxOf (L2.CX P C.w) P C.w C.K mg base N_Office_back "Office.back" (defScope s_Office_back) T.f_Office_back cdv A outer s H E).A (cxOf (L2.CX P C.w) P C.w C.K mg base N_Office_back "Office.back" (defScope s_Office_back) T.f_Office_back cdv A outer s H E).env (cxOf (L2.CX P C.w) P C.w C.K mg base N_Office_back "Office.back" (defScope s_Office_back) T.f_Office_back cdv A outer s H E).xe := passes_of rfl
  exact (dss_cons (ds_if (by exact (dt_cmp (op_eqD hr.units) os_eq (by exact (de_fld T.c_Office T.cl_Office T.na_Office_past (by exact (dv 0)))) (by exact (de_lst da_nil)) (nomark _))) (dss_one (ds_raise rfl tk (pmk_own PySem.F.excBase_ValueError T.q_Nothing T.n_Nothing T.p_Nothing (raises_own T.e_Nothing T.t_Nothing) (by exact rfl)) T.c_Nothing)) dss_nil)
    (dss_cons (ds_asg (by exact (PE.imp (pe_bm0 PySem.F.plainAttrs_list PySem.F.slot_list_pop PySem.F.type_list_pop mt_pop (by exact (de_fld T.c_Office T.cl_Office T.na_Office_past (by exact (dv 0))))) (mt0_of ms_pop))) (dg_tupN rfl rfl (dgs_cons (dg_name (i := 1) sc_Office_back.nd rfl (by first | exact .inl rfl | exact .inr rfl)) (dgs_cons (dg_fld T.c_Office T.cl_Office T.na_Office_all_stands (by exact de_noX (by exact (dv 0)))) (dgs_cons (dg_fld T.c_Office T.cl_Office T.na_Office_all_tapes (by exact de_noX (by exact (dv 0)))) (dgs_cons (dg_fld T.c_Office T.cl_Office T.na_Office_waits (by exact de_noX (by exact (dv 0)))) dgs_nil)))) (gs_cons no_nm (gs_cons no_fld (gs_cons no_fld (gs_cons no_fld gs_nil))))))
    (dss_one (ds_ret (by exact (dv 1))))))
theorem ok_law_which (T : Txt C mg) : FnQ P C.w C.K mg base 1 T.f_law_which T.fd_law_which ["e"] (spWh C.K [T.x_NoWheels, T.x_NoStand, T.x_NoRow, T.x_NoSlips, T.x_NoText, T.x_NoPlace, T.x_NoPrinter, T.x_NoWord, T.x_Nothing]) := by
  refine fnq_of T.F_law_which sc_law_which (fun p vs H Q h => by obtain ⟨_, _, _, e, _⟩ := h; rw [e]; rfl) fun cdv p A outer s H vs Q hr h => ?_
  obtain ⟨D, bs, j, rfl, hz, hf, W, h1, h2, h3, h4⟩ := h
  obtain ⟨W, hk, hv⟩ := W
  rcases bs with _ | ⟨b0, _ | ⟨b1, _ | ⟨b2, _ | ⟨b3, _ | ⟨b4, _ | ⟨b5, _ | ⟨b6, _ | ⟨b7, _ | ⟨b8, _ | ⟨_, _⟩⟩⟩⟩⟩⟩⟩⟩⟩⟩ <;> simp only [kits, and_false, and_true] at hk
  obtain ⟨k0, k1, k2, k3, k4, k5, k6, k7, k8⟩ := hk
  obtain ⟨pa, po⟩ := p
  refine ⟨_, pss_cons (ps_set (i := 1) sc_law_which.nd rfl (.inl rfl) (pe_lst (pa_cons (pe_is W hz hf List.mem_cons_self T.z_isinstance (by rfl) (by rfl) T.n_NoWheels rfl (.inl rfl) k0) (pa_cons (pe_is W hz hf List.mem_cons_self T.z_isinstance (by rfl) (by rfl) T.n_NoStand rfl (.inl rfl) k1) (pa_cons (pe_is W hz hf List.mem_cons_self T.z_isinstance (by rfl) (by rfl) T.n_NoRow rfl (.inl rfl) k2) (pa_cons (pe_is W hz hf List.mem_cons_self T.z_isinstance (by rfl) (by rfl) T.n_NoSlips rfl (.inl rfl) k3) pa_nil))))))
    (pss_cons (ps_expr (pe_bm PySem.F.plainAttrs_list PySem.F.slot_list_extend PySem.F.type_list_extend mt_extend (pv 1) (pa_cons (pe_lst (pa_cons (pe_is W hz hf List.mem_cons_self T.z_isinstance (by rfl) (by rfl) T.n_NoText rfl (.inl rfl) k4) (pa_cons (pe_is W hz hf List.mem_cons_self T.z_isinstance (by rfl) (by rfl) T.n_NoPlace rfl (.inl rfl) k5) (pa_cons (pe_is W hz hf List.mem_cons_self T.z_isinstance (by rfl) (by rfl) T.n_NoPrinter rfl (.inl rfl) k6) (pa_cons (pe_is W hz hf List.mem_cons_self T.z_isinstance (by rfl) (by rfl) T.n_NoWord rfl (.inl rfl) k7) pa_nil))))) pa_nil)))
    (pss_cons (ps_expr (pe_bm PySem.F.plainAttrs_list PySem.F.slot_list_append PySem.F.type_list_append mt_append (pv 1) (pa_cons (pe_is W hz hf List.mem_cons_self T.z_isinstance (by rfl) (by rfl) T.n_Nothing rfl (.inl rfl) k8) pa_nil)))
    (pss_cons (ps_if (PW.pt (pw_or (pt_cmpR op_ne (pe_bm PySem.F.plainAttrs_list PySem.F.slot_list_count PySem.F.type_list_count mt_cnt (pv 1) (pa_cons pe_bl pa_nil)) pe_int (nomark _)) (pw_or1 (pt_not (pt_val (pe_isV W hz hf List.mem_cons_self T.z_isinstance T.z_ValueError (by rfl) (by rfl) rfl (.inl rfl) hv)))))) (pss_one (ps_ret (pe_tup (pa_cons pe_str (pa_cons (pe_un un_neg pe_int) pa_nil))))) pss_nil)
    (pss_one (ps_ret (pe_tup (pa_cons pe_str (pa_cons (pe_bm PySem.F.plainAttrs_list PySem.F.slot_list_index PySem.F.type_list_index mt_index (pv 1) (pa_cons pe_bl pa_nil)) pa_nil)))))))), ?_⟩
  refine ⟨rfl, rfl, rfl, rfl, ?_⟩
  refine ⟨by show 4 ≤ sizeLine; decide, fun l hl => ?_⟩
  refine ⟨_, rfl, .inl ⟨rfl, _, SqL.of upd_same⟩, rfl, rfl, rfl, rfl, by show 4 ≤ sizeLine; decide, fun l2 hl2 => ?_⟩
  have n2 : l ≠ l2 := fun z => by rw [z, upd_same] at hl2; cases hl2
  have hl2' : H l2 = none := by rw [upd_ne (Ne.symm n2)] at hl2; exact hl2
  refine ⟨l, l2, _, _, rfl, rfl, (upd_ne n2).trans upd_same, upd_same, by show 8 ≤ sizeLine; decide, ?_⟩
  obtain ⟨H8, e8⟩ : ∃ H8, H8 = upd (upd (upd H l (HO.lst [V.bl b0, V.bl b1, V.bl b2, V.bl b3])) l2 (HO.lst [V.bl b4, V.bl b5, V.bl b6, V.bl b7])) l (HO.lst ([V.bl b0, V.bl b1, V.bl b2, V.bl b3] ++ [V.bl b4, V.bl b5, V.bl b6, V.bl b7])) := ⟨_, rfl⟩
  rw [← e8]
  have s8 : Same H H8 := fun b o e => by rw [e8, upd_ne (ne_of_none e hl), upd_ne (ne_of_none e hl2'), upd_ne (ne_of_none e hl)]; exact e
  have q8 : H8 l = some (.lst [V.bl b0, V.bl b1, V.bl b2, V.bl b3, V.bl b4, V.bl b5, V.bl b6, V.bl b7]) := by rw [e8, upd_same]; rfl
  clear e8
  refine ⟨_, rfl, .inl ⟨rfl, _, SqL.of q8⟩, rfl, ?_⟩
  refine ⟨l, _, _, rfl, rfl, q8, by show 8 < sizeLine; decide, ?_⟩
  obtain ⟨H9, e9⟩ : ∃ H9, H9 = upd H8 l (HO.lst ([V.bl b0, V.bl b1, V.bl b2, V.bl b3, V.bl b4, V.bl b5, V.bl b6, V.bl b7] ++ [V.bl b8])) := ⟨_, rfl⟩
  rw [← e9]
  have s9 : Same H H9 := fun b o e => by
    rw [e9, upd_ne (ne_of_none e hl)]
    exact s8 b o e
  have q9 : H9 l = some (.lst [V.bl b0, V.bl b1, V.bl b2, V.bl b3, V.bl b4, V.bl b5, V.bl b6, V.bl b7, V.bl b8]) := by rw [e9, upd_same]; rfl
  clear e9
  refine ⟨_, rfl, .inl ⟨rfl, _, SqL.of q9⟩, l, _, .bl true, rfl, rfl, SqL.of q9, rfl, rfl, ?_⟩
  have hc : ([V.bl b0, V.bl b1, V.bl b2, V.bl b3, V.bl b4, V.bl b5, V.bl b6, V.bl b7, V.bl b8].countP fun z => eqV z (V.bl true)) = 1 := wh_count [b0, b1, b2, b3, b4, b5, b6, b7, b8] h1
  rw [hc]
  refine ⟨rfl, false, by simp, iteF ⟨rfl, true, rfl, iteF ?_⟩⟩
  have hj := wh_at [b0, b1, b2, b3, b4, b5, b6, b7, b8] h2
  have hm := wh_no [b0, b1, b2, b3, b4, b5, b6, b7, b8] h3
  refine ⟨_, rfl, .inl ⟨rfl, _, SqL.of q9⟩, l, _, .bl true, j, .bl true, rfl, rfl, SqL.of q9, rfl, rfl, hj, rfl, hm, by show 2 ≤ sizeLine; decide, fun t ht => ?_⟩
  exact h4 t _ (fun b o e => by rw [upd_ne (ne_of_none (s9 b o e) ht)]; exact s9 b o e) (none_of s9 ht) upd_same
theorem ok_law_do (T : Txt C mg) : FnOk P C.w C.K mg base (L2.CX P C.w) 7 T.f_law_do T.fd_law_do ["office", "call"] (spOf C 2 m_law_do) := by
  refine fn_ok (N := N_law_do) (body := b_law_do) T.F_law_do sc_law_do rfl fun cdv A outer s H E hr => ?_
  have tk : TakesK (cxOf (L2.CX P C.w) P C.w C.K mg base N_law_do "_law_do" (defScope s_law_do) T.f_law_do cdv A outer s H E) E := takes_of rfl rfl rfl rfl
  have pw : PassesOwn (model P C.w) (cxOf (L2.CX P C.w) P C.w C.K mg base N_law_do "_law_do" (defScope s_law_do) T.f_law_do cdv A outer s H E).A (cxOf (L2.CX P C.w) P C.w C.K mg base N_law_do "_law_do" (defScope s_law_do) T.f_law_do cdv A outer s H E).env (cxOf (L2.CX P C.w) P C.w C.K mg base N_law_do "_law_do" (defScope s_law_do) T.f_law_do cdv A outer s H E).xe := passes_of rfl
  exact (dss_one (ds_try (i := 2) rfl rfl rfl sc_law_do.nd rfl rfl ⟨by rfl, by decide, .inl T.n_WheelError⟩ (ok_law_which T) (hr.mono (by decide)) (by rfl) T.g_law_which T.F_law_which.kp T.b_law_which (whix_cons (c := "NoPrinter") (bs := [false, false, false, false, false, false, true, false, false]) (j := 6) T.c_NoPrinter T.h_NoPrinter T.w_NoPrinter rfl rfl rfl (by decide) (whix_cons (c := "NoRow") (bs := [false, false, true, false, false, false, false, false, false]) (j := 2) T.c_NoRow T.h_NoRow T.w_NoRow rfl rfl rfl (by decide) (whix_cons (c := "NoStand") (bs := [false, true, false, false, false, false, false, false, false]) (j := 1) T.c_NoStand T.h_NoStand T.w_NoStand rfl rfl rfl (by decide) (whix_cons (c := "NoWheels") (bs := [true, false, false, false, false, false, false, false, false]) (j := 0) T.c_NoWheels T.h_NoWheels T.w_NoWheels rfl rfl rfl (by decide) (whix_cons (c := "NoWord") (bs := [false, false, false, false, false, false, false, true, false]) (j := 7) T.c_NoWord T.h_NoWord T.w_NoWord rfl rfl rfl (by decide) (whix_cons (c := "Nothing") (bs := [false, false, false, false, false, false, false, false, true]) (j := 8) T.c_Nothing T.h_Nothing T.w_Nothing rfl rfl rfl (by decide) whix_nil)))))) (fun _ _ _ tk pw => (by exact (dss_cons (ds_if (by exact (dt_cmp (op_eqD hr.units) os_eq (by exact (de_ix ix_seq os_get (by exact (dv 1)) de_int (fun _ _ => rfl))) (by exact (de_str (by decide +kernel) (by decide +kernel))) (nomark _))) (dss_one (ds_ret (by exact (de_meth T.c_Office T.cl_Office (by exact (dv 0)) T.mt_Office_come (ok_Office_come T) (hr.mono (by decide)) T.b_Office_come tk (by exact (da_cons (by exact (de_ix ix_seq os_get (by exact (dv 1)) de_int (fun _ _ => rfl))) da_nil)) (lenS len0))))) dss_nil)
    (dss_cons (ds_if (by exact (dt_cmp (op_eqD hr.units) os_eq (by exact (de_ix ix_seq os_get (by exact (dv 1)) de_int (fun _ _ => rfl))) (by exact (de_str (by decide +kernel) (by decide +kernel))) (nomark _))) (dss_one (ds_ret (by exact (de_meth T.c_Office T.cl_Office (by exact (dv 0)) T.mt_Office_send (ok_Office_send T) (hr.mono (by decide)) T.b_Office_send tk (by exact (da_cons (by exact (de_ix ix_seq os_get (by exact (dv 1)) de_int (fun _ _ => rfl))) da_nil)) (lenS len0))))) dss_nil)
    (dss_one (ds_ret (by exact (de_if (by exact (dt_cmp (op_eqD hr.units) os_eq (by exact (de_ix ix_seq os_get (by exact (dv 1)) de_int (fun _ _ => rfl))) (by exact (de_str (by decide +kernel) (by decide +kernel))) (nomark _))) (by exact (de_meth T.c_Office T.cl_Office (by exact (dv 0)) T.mt_Office_slip (ok_Office_slip T) (hr.mono (by decide)) T.b_Office_slip tk (by exact (da_cons (by exact (de_ix ix_seq os_get (by exact (dv 1)) de_int (fun _ _ => rfl))) (da_cons (by exact (de_ix ix_seq os_get (by exact (dv 1)) de_int (fun _ _ => rfl))) da_nil))) (lenS (lenS len0)))) (by exact (de_meth0 T.c_Office T.cl_Office (by exact (dv 0)) T.mt_Office_back (ok_Office_back T) (hr.mono (by decide)) T.b_Office_back tk))))))))))))
theorem ok_Office_tapes (T : Txt C mg) : FnOk P C.w C.K mg base (L2.CX P C.w) 1 T.f_Office_tapes T.fd_Office_tapes ["self"] (spOf C 1 m_Office_tapes) := by
  refine fn_ok (N := N_Office_tapes) (body := b_Office_tapes) T.F_Office_tapes sc_Office_tapes rfl fun cdv A outer s H E hr => ?_
  have tk : TakesK (cxOf (L2.CX P C.w) P C.w C.K mg base N_Office_tapes "Office.tapes" (defScope s_Office_tapes) T.f_Office_tapes cdv A outer s H E) E := takes_of rfl rfl rfl rfl
  have pw : PassesOwn (model P C.w) (cxOf (L2.CX P C.w) P C.w C.K mg base N_Office_tapes "Office.tapes" (defScope s_Office_tapes) T.f_Office_tapes cdv A outer s H E).A (cxOf (L2.CX P C.w) P C.w C.K mg base N_Office_tapes "Office.tapes" (defScope s_Office_tapes) T.f_Office_tapes cdv A outer s H E).env (cxOf (L2.CX P C.w) P C.w C.K mg base N_Office_tapes "Office.tapes" (defScope s_Office_tapes) T.f_Office_tapes cdv A outer s H E).xe := passes_of rfl
  exact (dss_one (ds_ret (by exact (de_callTy (or_list rfl) bs_list (by rfl) T.z_list (by decide +kernel) (by exact (da_cons (by exact (de_fld T.c_Office T.cl_Office T.na_Office_all_tapes (by exact (dv 0)))) da_nil))))))
theorem ok_law_same (T : Txt C mg) : FnOk P C.w C.K mg base (L2.CX P C.w) 3 T.f_law_same T.fd_law_same ["office", "model"] (spOf C 2 m_law_same) := by
  refine fn_ok (N := N_law_same) (body := b_law_same) T.F_law_same sc_law_same rfl fun cdv A outer s H E hr => ?_
  have tk : TakesK (cxOf (L2.CX P C.w) P C.w C.K mg base N_law_same "_law_same" (defScope s_law_same) T.f_law_same cdv A outer s H E) E := takes_of rfl rfl rfl rfl
  have pw : PassesOwn (model P C.w) (cxOf (L2.CX P C.w) P C.w C.K mg base N_law_same "_law_same" (defScope s_law_same) T.f_law_same cdv A outer s H E).A (cxOf (L2.CX P C.w) P C.w C.K mg base N_law_same "_law_same" (defScope s_law_same) T.f_law_same cdv A outer s H E).env (cxOf (L2.CX P C.w) P C.w C.K mg base N_law_same "_law_same" (defScope s_law_same) T.f_law_same cdv A outer s H E).xe := passes_of rfl
  exact (dss_cons (ds_if (by exact (dt_w (dw_or (by exact (dt_cmp (op_neD hr.units) os_ne (by exact (de_meth0 T.c_Office T.cl_Office (by exact (dv 0)) T.mt_Office_stands (ok_Office_stands T) (hr.mono (by decide)) T.b_Office_stands tk)) (by exact (de_lcV (own := [("one", 2)]) rfl rfl sc_law_same.nd (by exact (dv 1)) (by exact blkOk_by (N := N_law_same) (sc := defScope s_law_same) (own := [("one", 2)]) (by decide +kernel)) (tx_name (by decide)) (fun _ _ _ _ _ => (by exact pg_name (i := 2) sc_law_same.nd rfl (by first | exact .inl rfl | exact .inr rfl))) (fun _ _ _ _ _ => (by exact dts_nil)) (fun _ _ _ _ _ => (by exact de_noX (by exact (de_ix ix_seq os_get (by exact (dv 2)) de_int (fun _ _ => rfl))))))) (nomark _))) (dw_or1 (by exact (dt_cmp (op_neD hr.units) os_ne (by exact (de_meth0 T.c_Office T.cl_Office (by exact (dv 0)) T.mt_Office_tapes (ok_Office_tapes T) (hr.mono (by decide)) T.b_Office_tapes tk)) (by exact (de_lcV (own := [("one", 2)]) rfl rfl sc_law_same.nd (by exact (dv 1)) (by exact blkOk_by (N := N_law_same) (sc := defScope s_law_same) (own := [("one", 2)]) (by decide +kernel)) (tx_name (by decide)) (fun _ _ _ _ _ => (by exact pg_name (i := 2) sc_law_same.nd rfl (by first | exact .inl rfl | exact .inr rfl))) (fun _ _ _ _ _ => (by exact dts_nil)) (fun _ _ _ _ _ => (by exact de_noX (by exact (de_ix ix_seq os_get (by exact (dv 2)) de_int (fun _ _ => rfl))))))) (nomark _))))))) (dss_one (ds_ret de_bl)) dss_nil)
    (dss_one (ds_ret (by exact (de_cmp (op_eqD hr.units) os_eq (by exact (de_meth0 T.c_Office T.cl_Office (by exact (dv 0)) T.mt_Office_in_step_k12 (ok_Office_in_step_k12 T) (hr.mono (by decide)) T.b_Office_in_step_k12 tk)) (by exact (de_callB (cr_all rfl) bs_all (by rfl) T.z_all (by decide +kernel) (by exact (da_cons (by exact (de_lcV (own := [("one", 2)]) rfl rfl sc_law_same.nd (by exact (dv 1)) (by exact blkOk_by (N := N_law_same) (sc := defScope s_law_same) (own := [("one", 2)]) (by decide +kernel)) (tx_name (by decide)) (fun _ _ _ _ _ => (by exact pg_name (i := 2) sc_law_same.nd rfl (by first | exact .inl rfl | exact .inr rfl))) (fun _ _ _ _ _ => (by exact dts_nil)) (fun _ _ _ _ _ => (by exact de_noX (by exact (de_cmp (op_eqD hr.units) os_eq (by exact (de_sl or_sl ss_sl (by exact (de_ix ix_seq os_get (by exact (dv 2)) de_int (fun _ _ => rfl))) do_no (do_some de_int))) (by exact (de_sl or_sl ss_sl (by exact (de_ix ix_seq os_get (by exact (de_ix ix_seq os_get (by exact (dv 1)) de_int (fun _ _ => rfl))) de_int (fun _ _ => rfl))) do_no (do_some de_int))) (nomark _))))))) da_nil)))) (nomark _))))))
theorem ok_law_k12 (T : Txt C mg) : FnOk P C.w C.K mg base (L2.CX P C.w) 8 T.f_law_k12 T.fd_law_k12 ["script"] (spOf C 1 m_law_k12) := by
  refine fn_ok (N := N_law_k12) (body := b_law_k12) T.F_law_k12 sc_law_k12 rfl fun cdv A outer s H E hr => ?_
  have tk : TakesK (cxOf (L2.CX P C.w) P C.w C.K mg base N_law_k12 "law" (defScope s_law_k12) T.f_law_k12 cdv A outer s H E) E := takes_of rfl rfl rfl rfl
  have pw : PassesOwn (model P C.w) (cxOf (L2.CX P C.w) P C.w C.K mg base N_law_k12 "law" (defScope s_law_k12) T.f_law_k12 cdv A outer s H E).A (cxOf (L2.CX P C.w) P C.w C.K mg base N_law_k12 "law" (defScope s_law_k12) T.f_law_k12 cdv A outer s H E).env (cxOf (L2.CX P C.w) P C.w C.K mg base N_law_k12 "law" (defScope s_law_k12) T.f_law_k12 cdv A outer s H E).xe := passes_of rfl
  exact (dss_cons (ds_set (i := 1) sc_law_k12.nd rfl (by first | exact .inl rfl | exact .inr rfl) (de_newL da_nil))
    (dss_cons (ds_set (i := 2) sc_law_k12.nd rfl (by first | exact .inl rfl | exact .inr rfl) (by exact (de_call (ok_law_draw T) (hr.mono (by decide)) (by rfl) T.g_law_draw T.F_law_draw.kp T.b_law_draw tk (by exact (da_cons (by exact (dv 0)) (da_cons (by exact (dv 1)) (da_cons de_int da_nil)))) (lenS (lenS (lenS len0))))))
    (dss_cons (ds_set (i := 3) sc_law_k12.nd rfl (by first | exact .inl rfl | exact .inr rfl) (by exact (de_call (ok_law_wheels_k01 T) (hr.mono (by decide)) (by rfl) T.g_law_wheels_k01 T.F_law_wheels_k01.kp T.b_law_wheels_k01 tk (by exact (da_cons (by exact (dv 0)) (da_cons (by exact (dv 1)) (da_cons de_int da_nil)))) (lenS (lenS (lenS len0))))))
    (dss_cons (ds_par (by rfl) sc_law_k12.nd rfl rfl (by decide) rfl rfl (by exact (de_make T.c_Office T.mk_Office (ok_Office_init T) (hr.mono (by decide)) (by rfl) T.n_Office T.b_Office_init tk (by exact (da_cons (by exact (dv 3)) da_nil)) (lenS len0))) (by exact (de_make T.c_Office T.mk_Office (ok_Office_init T) (hr.mono (by decide)) (by rfl) T.n_Office T.b_Office_init tk (by exact (da_cons (by exact (dv 3)) da_nil)) (lenS len0))) (by rfl))
    (dss_cons (ds_par (by rfl) sc_law_k12.nd rfl rfl (by decide) rfl rfl (de_newL da_nil) (de_newL da_nil) (by rfl))
    (dss_cons (ds_for pw rfl (by exact di_rng1 (by rfl) T.z_range (by exact (dv 2))) (dg_name (i := 8) sc_law_k12.nd rfl (by first | exact .inl rfl | exact .inr rfl)) (dss_cons (ds_set (i := 9) sc_law_k12.nd rfl (by first | exact .inl rfl | exact .inr rfl) (by exact (de_call (ok_law_call T) (hr.mono (by decide)) (by rfl) T.g_law_call T.F_law_call.kp T.b_law_call tk (by exact (da_cons (by exact (dv 0)) (da_cons (by exact (dv 1)) (da_cons (by exact (dv 3)) (da_cons (by exact (dv 6)) da_nil))))) (lenS (lenS (lenS (lenS len0)))))))
    (dss_cons (ds_set (i := 10) sc_law_k12.nd rfl (by first | exact .inl rfl | exact .inr rfl) (by exact (de_call (ok_law_own T) (hr.mono (by decide)) (by rfl) T.g_law_own T.F_law_own.kp T.b_law_own tk (by exact (da_cons (by exact (dv 6)) (da_cons (by exact (dv 7)) (da_cons (by exact (dv 3)) (da_cons (by exact (dv 9)) da_nil))))) (lenS (lenS (lenS (lenS len0)))))))
    (dss_cons (ds_if (by exact (dt_w (dw_or (by exact (dt_cmp (op_neD hr.units) os_ne (by exact (de_call (ok_law_do T) (hr.mono (by decide)) (by rfl) T.g_law_do T.F_law_do.kp T.b_law_do tk (by exact (da_cons (by exact (dv 4)) (da_cons (by exact (dv 9)) da_nil))) (lenS (lenS len0)))) (by exact (dv 10)) (nomark _))) (dw_or1 (by exact (dt_not (by exact (dt_val (by exact (de_call (ok_law_same T) (hr.mono (by decide)) (by rfl) T.g_law_same T.F_law_same.kp T.b_law_same tk (by exact (da_cons (by exact (dv 4)) (da_cons (by exact (dv 6)) da_nil))) (lenS (lenS len0)))))))))))) (dss_one (ds_ret de_bl)) dss_nil)
    (dss_cons (ds_set (i := 11) sc_law_k12.nd rfl (by first | exact .inl rfl | exact .inr rfl) (de_newL (by exact (da_cons (by exact (de_tup (by exact (da_cons (by exact (de_str (by decide +kernel) (by decide +kernel))) (da_cons (by exact (de_tup (by exact (da_cons de_int (da_cons (by exact (de_str (by decide +kernel) (by decide +kernel))) da_nil))))) da_nil))))) (da_cons (by exact (de_tup (by exact (da_cons (by exact (de_str (by decide +kernel) (by decide +kernel))) (da_cons de_non da_nil))))) (da_cons (by exact (de_tup (by exact (da_cons (by exact (de_str (by decide +kernel) (by decide +kernel))) (da_cons (by exact (de_str (by decide +kernel) (by decide +kernel))) da_nil))))) (da_cons (by exact (de_tup (by exact (da_cons (by exact (de_str (by decide +kernel) (by decide +kernel))) (da_cons de_non da_nil))))) (da_cons (by exact (de_tup (by exact (da_cons (by exact (de_str (by decide +kernel) (by decide +kernel))) (da_cons (by exact (de_callB call_len bs_len (by rfl) T.z_len PySem.boot_len (by exact (da_cons (by exact (dv 6)) da_nil)))) (da_cons (by exact (de_str (by decide +kernel) (by decide +kernel))) da_nil)))))) da_nil))))))))
    (dss_cons (ds_expr (by exact (PE.imp (pe_bm PySem.F.plainAttrs_list PySem.F.slot_list_append PySem.F.type_list_append mt_append (by exact (dv 11)) (by exact (da_cons (by exact (de_tup (by exact (da_cons (by exact (de_str (by decide +kernel) (by decide +kernel))) (da_cons de_int (da_cons (by exact (de_str (by decide +kernel) (by decide +kernel))) da_nil)))))) da_nil))) (mt_of ms_app))))
    (dss_cons (ds_set (i := 9) sc_law_k12.nd rfl (by first | exact .inl rfl | exact .inr rfl) (by exact (de_call (ok_law_pick T) (hr.mono (by decide)) (by rfl) T.g_law_pick T.F_law_pick.kp T.b_law_pick tk (by exact (da_cons (by exact (dv 0)) (da_cons (by exact (dv 1)) (da_cons (by exact (de_sl or_sl ss_sl (by exact (dv 11)) do_no (do_some (by exact (de_op or_add os_add de_int (by exact (de_callTy call_int1 bs_int (by rfl) T.z_int (by decide +kernel) (by exact (da_cons (by exact (de_cmp (op_neD hr.units) os_neY (by exact (dv 6)) (by exact (de_lst da_nil)) (nomark _))) da_nil))))))))) da_nil)))) (lenS (lenS (lenS len0))))))
    (dss_one (ds_if (by exact (dt_cmp (op_neD hr.units) os_ne (by exact (de_call (ok_law_do T) (hr.mono (by decide)) (by rfl) T.g_law_do T.F_law_do.kp T.b_law_do tk (by exact (da_cons (by exact (dv 4)) (da_cons (by exact (dv 9)) da_nil))) (lenS (lenS len0)))) (by exact (de_tup (by exact (da_cons (by exact (de_str (by decide +kernel) (by decide +kernel))) (da_cons (by exact (de_dsubT (hu_of hr) (by exact (de_dct3 (by exact (by exact (de_str (by decide +kernel) (by decide +kernel)))) de_int (by exact (by exact (de_str (by decide +kernel) (by decide +kernel)))) de_int (by exact (by exact (de_str (by decide +kernel) (by decide +kernel)))) (by exact (by exact (de_op or_add os_add de_int (by exact (de_callTy call_int1 bs_int (by rfl) T.z_int (by decide +kernel) (by exact (da_cons (by exact (de_cmp (op_eqD hr.units) os_eq (by exact (de_ix ix_seq os_get (by exact (dv 9)) (by exact (de_un un_neg us_neg de_int)) (fun _ _ => rfl))) (by exact (de_str (by decide +kernel) (by decide +kernel))) (nomark _))) da_nil))))))))) (by exact (de_ix ix_seq os_get (by exact (dv 9)) de_int (fun _ _ => rfl))) (fun _ _ => rfl))) da_nil))))) (nomark _))) (dss_one (ds_ret de_bl)) dss_nil)))))))))
    (dss_cons (ds_while (n := 100000) pw (by exact (dt_cmp (op_neD hr.units) os_neY (by exact (dv 7)) (by exact (de_lst da_nil)) (nomark _))) (dss_one (ds_if (by exact (dt_w (dw_or (by exact (dt_cmp (op_neD hr.units) os_ne (by exact (de_call (ok_law_do T) (hr.mono (by decide)) (by rfl) T.g_law_do T.F_law_do.kp T.b_law_do tk (by exact (da_cons (by exact (dv 4)) (da_cons (by exact (de_tup (by exact (da_cons (by exact (de_str (by decide +kernel) (by decide +kernel))) da_nil)))) da_nil))) (lenS (lenS len0)))) (by exact (de_call (ok_law_own T) (hr.mono (by decide)) (by rfl) T.g_law_own T.F_law_own.kp T.b_law_own tk (by exact (da_cons (by exact (dv 6)) (da_cons (by exact (dv 7)) (da_cons (by exact (dv 3)) (da_cons (by exact (de_tup (by exact (da_cons (by exact (de_str (by decide +kernel) (by decide +kernel))) da_nil)))) da_nil))))) (lenS (lenS (lenS (lenS len0)))))) (nomark _))) (dw_or1 (by exact (dt_not (by exact (dt_val (by exact (de_call (ok_law_same T) (hr.mono (by decide)) (by rfl) T.g_law_same T.F_law_same.kp T.b_law_same tk (by exact (da_cons (by exact (dv 4)) (da_cons (by exact (dv 6)) da_nil))) (lenS (lenS len0)))))))))))) (dss_one (ds_ret de_bl)) dss_nil)))
    (dss_one (ds_ret (by exact (de_and (by exact (de_cmp (op_eqD hr.units) os_eq (by exact (de_call (ok_law_do T) (hr.mono (by decide)) (by rfl) T.g_law_do T.F_law_do.kp T.b_law_do tk (by exact (da_cons (by exact (dv 4)) (da_cons (by exact (de_tup (by exact (da_cons (by exact (de_str (by decide +kernel) (by decide +kernel))) da_nil)))) da_nil))) (lenS (lenS len0)))) (by exact (de_tup (by exact (da_cons (by exact (de_str (by decide +kernel) (by decide +kernel))) (da_cons de_int da_nil))))) (nomark _))) (de_and (by exact (de_cmp (op_eqD hr.units) os_eq (by exact (de_meth0 T.c_Office T.cl_Office (by exact (dv 5)) T.mt_Office_stands (ok_Office_stands T) (hr.mono (by decide)) T.b_Office_stands tk)) (by exact (de_lst da_nil)) (nomark _))) (de_one (by exact (de_cmp (op_eqD hr.units) os_eq (by exact (de_meth0 T.c_Office T.cl_Office (by exact (dv 5)) T.mt_Office_in_step_k12 (ok_Office_in_step_k12 T) (hr.mono (by decide)) T.b_Office_in_step_k12 tk)) de_bl (nomark _))))))))))))))))
end
end LW.K12
namespace LW
@[simp ↓] theorem bind_match {α β : Type} {r : R α} {f : α → Mem → R β} : r.bind f = match r with | .ok a m => f a m | .exc c m => .exc c m | .bad => .bad := rfl
@[simp] theorem inR_nat {n : Nat} (h : n < 10000000000) : inR (n : Int) = true := inR_of (by omega) (by omega)
/-! ### loops over plain data -/
theorem forL_cons {t : Tg} {b : Sm} {d : D} {ds : List D} {g : Env} {m : Mem} : forL t b (d :: ds) g m = (t d g m).bind fun g1 m1 => (b g1 m1).bind fun o m2 => match o with
    | .nx g2 => forL t b ds g2 m2
    | .ct g2 => forL t b ds g2 m2
    | .bk g2 => .ok (.nx g2) m2
    | .rt d => .ok (.rt d) m2 := rfl
/-- a loop that runs through -/
theorem forL_inv {t : Tg} {b : Sm} {ds : List D} (I : Nat → Env → Mem → Prop)
    (step : ∀ i d g m, ds[i]? = some d → I i g m → ∃ g1 m1, t d g m = .ok g1 m1 ∧ ∃ o m2, b g1 m1 = .ok o m2 ∧ ∃ g2, (o = .nx g2 ∨ o = .ct g2) ∧ I (i + 1) g2 m2) {g : Env} {m : Mem} (h0 : I 0 g m) : ∃ g' m', forL t b ds g m = .ok (.nx g') m' ∧ I ds.length g' m' := by
  suffices H : ∀ (es : List D) (i : Nat) (g : Env) (m : Mem), ds.drop i = es → i ≤ ds.length → I i g m → ∃ g' m', forL t b es g m = .ok (.nx g') m' ∧ I ds.length g' m' from H ds 0 g m rfl (Nat.zero_le _) h0
  intro es
  induction es with
  | nil =>
    intro i g m e hi h
    have : i = ds.length := by
      have := congrArg List.length e
      simp at this
      omega
    subst this
    exact ⟨g, m, rfl, h⟩
  | cons d es ih =>
    intro i g m e hi h
    have hlt : i < ds.length := by
      have := congrArg List.length e
      simp at this
      omega
    have hd : ds[i]? = some d := by
      have := List.getElem?_drop (xs := ds) (i := i) (j := 0)
      rw [e] at this
      simpa using this.symm
    obtain ⟨g1, m1, e1, o, m2, e2, g2, ho, h2⟩ := step i d g m hd h
    have e3 : ds.drop (i + 1) = es := by
      rw [← List.drop_drop, e]
      rfl
    obtain ⟨g', m', e4, h4⟩ := ih (i + 1) g2 m2 e3 hlt h2
    refine ⟨g', m', ?_, h4⟩
    rw [forL_cons, e1, R.bind_ok, e2, R.bind_ok]
    rcases ho with rfl | rfl <;> exact e4
/-- a comprehension without a draw -/
theorem lcL_map {t : Tg} {e : Ex} {g : Env} {m : Mem} {f : D → D} : ∀ {ds : List D}, (∀ d ∈ ds, ∃ g1, t d g m = .ok g1 m ∧ e g1 m = .ok (f d) m) → lcL t yesT e g ds m = .ok (ds.map f) m
  | [], _ => rfl
  | d :: ds, h => by
    obtain ⟨g1, e1, e2⟩ := h d (by simp)
    simp only [lcL, e1, R.bind_ok, yesT, if_true, e2]
    rw [lcL_map fun d' hd' => h d' (List.mem_cons_of_mem _ hd')]
    rfl
/-- with a filter -/
theorem lcL_filter {t : Tg} {c : Ts} {e : Ex} {g : Env} {m : Mem} {p : D → Bool} {f : D → D} : ∀ {ds : List D}, (∀ d ∈ ds, ∃ g1, t d g m = .ok g1 m ∧ c g1 m = .ok (p d) m ∧ (p d = true → e g1 m = .ok (f d) m)) → lcL t c e g ds m = .ok ((ds.filter p).map f) m
  | [], _ => rfl
  | d :: ds, h => by
    obtain ⟨g1, e1, e2, e3⟩ := h d (by simp)
    have ih := lcL_filter (ds := ds) (t := t) (c := c) (e := e) (g := g) (m := m) (p := p) (f := f) fun d' hd' => h d' (List.mem_cons_of_mem _ hd')
    simp only [lcL, e1, R.bind_ok, e2]
    cases q : p d with
    | true => simp [q, e3 q, ih]
    | false => simp [q, ih]
/-! ### shapes -/
@[simp] theorem shL_ints (k : Nat) : ∀ ns : List Int, D.shL k (ns.map D.int) = true
  | [] => rfl
  | n :: ns => by cases k <;> simp [D.shL, D.sh, shL_ints]
@[simp] theorem shL_map_int {α : Type} (k : Nat) (f : α → Int) : ∀ l : List α, D.shL k (l.map fun x => D.int (f x)) = true
  | [] => rfl
  | n :: ns => by cases k <;> simp [D.shL, D.sh, shL_map_int]
@[simp] theorem shL_map_str {α : Type} (k : Nat) (f : α → List Nat) : ∀ l : List α, D.shL k (l.map fun x => D.str (f x)) = true
  | [] => rfl
  | n :: ns => by cases k <;> simp [D.shL, D.sh, shL_map_str]
@[simp] theorem sh_non (k : Nat) : D.sh k .non = true := by cases k <;> rfl
@[simp] theorem sh_bl (k : Nat) (b : Bool) : D.sh k (.bl b) = true := by cases k <;> rfl
@[simp] theorem sh_int (k : Nat) (i : Int) : D.sh k (.int i) = true := by cases k <;> rfl
@[simp] theorem sh_str (k : Nat) (s : List Nat) : D.sh k (.str s) = true := by cases k <;> rfl
@[simp] theorem sh_tup (k : Nat) (ds : List D) : D.sh (k + 1) (.tup ds) = D.shL k ds := rfl
@[simp] theorem sh_lst (k : Nat) (ds : List D) : D.sh (k + 1) (.lst ds) = D.shL k ds := rfl
@[simp] theorem sh_tup9 (ds : List D) : D.sh 9 (.tup ds) = D.shL 8 ds := rfl
@[simp] theorem sh_lst9 (ds : List D) : D.sh 9 (.lst ds) = D.shL 8 ds := rfl
@[simp] theorem shL_nil (k : Nat) : D.shL k [] = true := by cases k <;> rfl
@[simp] theorem shL_cons (k : Nat) (d : D) (ds : List D) : D.shL k (d :: ds) = (D.sh k d && D.shL k ds) := by cases k <;> rfl
@[simp] theorem eqv_non : D.eqv .non .non = true := by simp [D.eqv]
@[simp] theorem eqv_int (i j : Int) : D.eqv (.int i) (.int j) = (i == j) := by simp [D.eqv]
@[simp] theorem eqv_str (i j : List Nat) : D.eqv (.str i) (.str j) = (i == j) := by simp [D.eqv]
@[simp] theorem eqv_tup (i j : List D) : D.eqv (.tup i) (.tup j) = D.eqvL i j := by simp [D.eqv]
@[simp] theorem eqv_lst (i j : List D) : D.eqv (.lst i) (.lst j) = D.eqvL i j := by simp [D.eqv]
@[simp] theorem eqvL_nil : D.eqvL [] [] = true := by simp [D.eqvL]
@[simp] theorem eqvL_cons (x y : D) (xs ys : List D) : D.eqvL (x :: xs) (y :: ys) = (D.eqv x y && D.eqvL xs ys) := by simp [D.eqvL]
mutual
theorem eqv_self : ∀ d : D, ∀ k, D.sh k d = true → D.eqv d d = true
  | .non, _, _ => by simp [D.eqv]
  | .bl _, _, _ => by simp [D.eqv]
  | .int _, _, _ => by simp [D.eqv]
  | .str _, _, _ => by simp [D.eqv]
  | .tup ds, k, h => by
    cases k with
    | zero => simp [D.sh] at h
    | succ k => simp only [sh_tup] at h; simp [eqvL_self ds k h]
  | .lst ds, k, h => by
    cases k with
    | zero => simp [D.sh] at h
    | succ k => simp only [sh_lst] at h; simp [eqvL_self ds k h]
  | .dct _ _, k, h => by cases k <;> simp [D.sh] at h
  | .gdz _ _, k, h => by cases k <;> simp [D.sh] at h
  | .scr _, k, h => by cases k <;> simp [D.sh] at h
  | .ref _, k, h => by cases k <;> simp [D.sh] at h
  | .ty _, k, h => by cases k <;> simp [D.sh] at h
  | .fn _, k, h => by cases k <;> simp [D.sh] at h
  | .exc _, k, h => by cases k <;> simp [D.sh] at h
theorem eqvL_self : ∀ ds : List D, ∀ k, D.shL k ds = true → D.eqvL ds ds = true
  | [], _, _ => by simp
  | d :: ds, k, h => by
    simp only [shL_cons, Bool.and_eq_true] at h
    simp [eqv_self d k h.1, eqvL_self ds k h.2]
end

/-! ### the script, draws -/
def twn (t : Nat) : MO := .lst (List.replicate t (.int 0))
theorem twn_more (t : Nat) : MO.lst (List.replicate t (D.int 0) ++ [.int 0]) = twn (t + 1) := by
  unfold twn
  rw [List.replicate_succ', ]
def cellN (ns : List Int) (k : Nat) : Int := if k < ns.length then ns.getD k 0 else if ns = [] then 0 else ns.getD (k % ns.length) 0 * 31 + k
def dr (ns : List Int) (k : Nat) (many : Int) : Int := ((cellN ns k * 1103515245 + 7919 * k + 12345) % 2147483647) ^ 5 % 2147483647 % 999983 % many
theorem dr_lo (ns : List Int) (k : Nat) {many : Int} (h : 0 < many) : 0 ≤ dr ns k many := Int.emod_nonneg _ (by omega)
theorem dr_hi (ns : List Int) (k : Nat) {many : Int} (h : 0 < many) : dr ns k many < many := Int.emod_lt_of_pos _ h
theorem ixD_nat {n k : Nat} (h : k < n) : ixD n (k : Int) = some k := by
  unfold ixD
  rw [if_pos (by omega), if_pos (by omega)]
  simp
theorem ixD_int {n : Nat} {i : Int} (h0 : 0 ≤ i) (h : i < n) : ixD n i = some i.toNat := by
  unfold ixD
  rw [if_pos h0, if_pos h]
theorem cell_spec (ns : List Int) (k : Nat) (m : Mem) : m_law_cell_at [.scr ns, .int k] m = .ok (.int (cellN ns k)) m := by
  by_cases h : k < ns.length
  · have h' : (k : Int) < (ns.length : Int) := by omega
    simp [m_law_cell_at, b_law_cell_at, fnS, gcR, h', cellN, h, ixD_nat]
  · have h' : ¬ (k : Int) < (ns.length : Int) := by omega
    by_cases hne : ns = []
    · subst hne
      have h2 : ¬ (k : Int) < 0 := by omega
      simp [m_law_cell_at, b_law_cell_at, fnS, gcR, cellN, lim, h2]
    · have hz : 0 < ns.length := by cases ns <;> simp_all
      have hp : (0 : Int) < (ns.length : Int) := by omega
      have hlt : k % ns.length < ns.length := Nat.mod_lt _ hz
      have e1 : ixD ns.length ((k : Int) % (ns.length : Int)) = some (k % ns.length) := by rw [show (k : Int) % (ns.length : Int) = ((k % ns.length : Nat) : Int) by simp]; exact ixD_nat hlt
      have hne2 : D.eqvL (ns.map D.int) [] = false := by cases ns <;> simp_all [D.eqvL]
      simp [m_law_cell_at, b_law_cell_at, fnS, gcR, h', cellN, h, lim, hne, hne2, hz, e1, big_of (show -10000000000 < (31 : Int) by decide) (by decide), hlt]
theorem mixed_spec (ns : List Int) (k : Nat) (many : Int) (h : 0 < many) (m : Mem) : m_law_mixed [.scr ns, .int k, .int many] m = .ok (.int (dr ns k many)) m := by
  have b1 : (0 : Int) ≤ (cellN ns k * 1103515245 + 7919 * k + 12345) % 2147483647 := Int.emod_nonneg _ (by decide)
  have b2 : (cellN ns k * 1103515245 + 7919 * k + 12345) % 2147483647 < 2147483647 := Int.emod_lt_of_pos _ (by decide)
  have b3 : ((cellN ns k * 1103515245 + 7919 * k + 12345) % 2147483647).natAbs < 10000000000 := by omega
  simp [m_law_mixed, b_law_mixed, fnS, cell_spec, big_of (show -10000000000 < (1103515245 : Int) by decide) (by decide), big_of (show -10000000000 < (7919 : Int) by decide) (by decide), gcR, h, powOk_of (show (0 : Int) ≤ 5 by decide) (by decide) b3, dr]
/-! ### statement by statement -/
def Rt (s : Sm) (g : Env) (m : Mem) (d : D) : Prop := ∃ m1, s g m = .ok (.rt d) m1
theorem Rt_seq {a b : Sm} {g g1 : Env} {m m1 : Mem} {d : D} (h : a g m = .ok (.nx g1) m1) (h2 : Rt b g1 m1 d) : Rt (seqS a b) g m d := by
  obtain ⟨m2, e⟩ := h2
  exact ⟨m2, by rw [seqS_eq, h, R.bind_ok]; exact e⟩
theorem Rt_end {s : Sm} {g : Env} {m m1 : Mem} {d : D} (h : s g m = .ok (.rt d) m1) : Rt s g m d := ⟨m1, h⟩
theorem law_end {k : Nat} {b : Sm} {ns : List Int} (h : Rt b (some (.scr ns) :: List.replicate (k - 1) none) [] (.bl true)) : ∃ m', fnS k b [.scr ns] [] = .ok (.bl true) m' := by
  obtain ⟨m1, e⟩ := h
  simp only [fnS, List.map_cons, List.map_nil, List.length_cons, List.length_nil, List.cons_append, List.nil_append, Nat.zero_add]
  rw [e]
  simp only [gcR, List.length_nil, List.take_zero, List.all_nil, Bool.and_true, D.cl]
  by_cases h0 : m1.length ≤ 0
  · exact ⟨m1, by rw [if_pos h0]⟩
  · exact ⟨[], by rw [if_neg h0]; rfl⟩
/-- for over concrete data: through -/
theorem for_nx {it : Ar} {t : Tg} {b : Sm} {g g' : Env} {m m1 m' : Mem} {ds : List D} (h : it g m = .ok ds m1) (h2 : forL t b ds g m1 = .ok (.nx g') m') : forS it t b g m = .ok (.nx g') m' := by
  simp only [forS, h, R.bind_ok, h2]
end LW
namespace LW
@[simp] theorem clL_ints (n : Nat) : ∀ k, D.clL n (List.replicate k (D.int 0)) = true
  | 0 => rfl
  | k + 1 => by simp [List.replicate_succ, D.clL, D.cl, clL_ints]
@[simp] theorem cl_twn (n t : Nat) : MO.cl n (twn t) = true := by simp [MO.cl, twn]
/-- what lies behind the town: closed -/
def Cl (r : Mem) : Prop := ∀ x ∈ r, MO.cl (r.length + 1) x = true
@[simp] theorem Cl_nil : Cl [] := fun x h => by simp at h
theorem draw_spec {ns : List Int} {t : Nat} {r : Mem} {many : Int} (h : 0 < many) (ht : t < 1000000) : m_law_draw [.scr ns, .ref 0, .int many] (twn t :: r) = .ok (.int (dr ns (t + 1) many)) (twn (t + 1) :: r) := by
  have e : ((List.replicate t (D.int 0) ++ [D.int 0]).length : Int) = ((t + 1 : Nat) : Int) := by simp
  have l : t < lim := by unfold lim; omega
  have hm := mixed_spec ns (t + 1) many h (twn (t + 1) :: r)
  have e2 : MO.lst (List.replicate t (D.int 0) ++ [D.int 0]) = twn (t + 1) := twn_more t
  simp only [m_law_draw, b_law_draw, fnS]
  simp [twn, l] 
  rw [show ((t : Int) + 1) = ((t + 1 : Nat) : Int) by omega, e2, hm]
  simp [gcR, twn]
theorem pick_spec {ns : List Int} {t : Nat} {r : Mem} {xs : List D} (h : xs ≠ []) (ht : t < 1000000) : ∃ x ∈ xs, m_law_pick [.scr ns, .ref 0, .lst xs] (twn t :: r) = .ok x (twn (t + 1) :: r) := by
  have hp : (0 : Int) < (xs.length : Int) := by cases xs <;> simp_all <;> omega
  have l := dr_lo ns (t + 1) hp
  have u := dr_hi ns (t + 1) hp
  have hd := draw_spec (ns := ns) (r := r) hp ht
  have hlt : (dr ns (t + 1) xs.length).toNat < xs.length := by omega
  have ix := ixD_int l u
  refine ⟨xs[(dr ns (t + 1) xs.length).toNat], List.getElem_mem _, ?_⟩
  simp [m_law_pick, b_law_pick, fnS, hd, ix, gcR, hlt]
theorem eraseIdx_map {α β : Type} (f : α → β) : ∀ (l : List α) (i : Nat), (l.map f).eraseIdx i = (l.eraseIdx i).map f
  | [], i => by simp
  | a :: l, 0 => by simp
  | a :: l, i + 1 => by simp [eraseIdx_map f l i]
theorem erase_perm {α : Type} : ∀ {l : List α} {i : Nat} (h : i < l.length), (l[i] :: l.eraseIdx i).Perm l
  | [], i, h => by simp at h
  | a :: l, 0, h => by simp
  | a :: l, i + 1, h => by
    have ih := erase_perm (l := l) (i := i) (by simpa using h)
    simp only [List.getElem_cons_succ, List.eraseIdx_cons_succ]
    exact (List.Perm.swap a _ _).trans (ih.cons a)
end LW
namespace LW
abbrev SGN : List Nat := c_SIGNS
structure Whl (a b : List Nat) (n : Int) : Prop where
  lo : 2 ≤ a.length
  hi : a.length ≤ 30
  same : b.length = a.length
  na : a.Nodup
  nb : b.Nodup
  sa : ∀ c ∈ a, c ∈ SGN
  sb : ∀ c ∈ b, c ∈ SGN
  n1 : 1 ≤ n
  n3 : n ≤ 3
abbrev whD (a b : List Nat) (n : Int) : D := .tup [.str a, .str b, .int n]
@[simp] theorem is_whole_spec (i lo hi : Int) (m : Mem) : m_is_whole [.int i, .int lo, .int hi] m = .ok (.bl (decide (lo ≤ i) && decide (i ≤ hi))) m := by
  by_cases h : lo ≤ i
  · simp [m_is_whole, b_is_whole, fnS, gcR, h]
  · simp [m_is_whole, b_is_whole, fnS, gcR, h]
theorem dedup_nodup {l : List Nat} (h : l.Nodup) : dedup l = l := by
  induction l with
  | nil => rfl
  | cons x r ih =>
    obtain ⟨h1, h2⟩ := List.nodup_cons.mp h
    rw [dedup, ih h2]
    congr 1
    exact List.filter_eq_self.mpr fun y hy => by simp; intro e; subst e; exact h1 hy
theorem all_signs {s : List Nat} (h : ∀ c ∈ s, c ∈ SGN) : (s.map fun c => D.bl (decide (c ∈ SGN))).all (fun d => match d with | .bl b => b | _ => false) = true := by
  simp only [List.all_eq_true, List.mem_map]
  rintro d ⟨c, hc, rfl⟩
  simpa using h c hc
theorem are_signs_spec {s : List Nat} {lo hi : Int} (h1 : lo ≤ s.length) (h2 : (s.length : Int) ≤ hi) (h3 : s.length ≤ 1000) (hs : ∀ c ∈ s, c ∈ SGN) (m : Mem) : m_are_signs [.str s, .int lo, .int hi] m = .ok (.bl true) m := by
  have hl : s.length ≤ lim := by unfold lim; omega
  have e : ∀ g : Env, g.length = 4 → lcL (nmG 3) yesT (noX (opE inD (vE 3) (cE (.str SGN)))) g (s.map fun c => .str [c]) m = .ok ((s.map fun c => D.str [c]).map fun d => match d with | .str [c] => D.bl (decide (c ∈ SGN)) | _ => .non) m := by
    intro g hg
    refine lcL_map fun d hd => ?_
    obtain ⟨c, hc, rfl⟩ := List.mem_map.mp hd
    refine ⟨_, rfl, ?_⟩
    have : (g.set 3 (some (D.str [c])))[3]? = some (some (.str [c])) := by rw [List.getElem?_set_self (by omega)]
    simp [this]
  have e2 : ((s.map fun c => D.str [c]).map fun d => match d with | .str [c] => D.bl (decide (c ∈ SGN)) | _ => .non) = s.map fun c => D.bl (decide (c ∈ SGN)) := by rw [List.map_map]; rfl
  have a1 := all_signs hs
  have a2 : (s.map fun c => D.bl (decide (c ∈ SGN))).all (fun d => match d with | .bl _ => true | _ => false) = true := by
    simp only [List.all_eq_true, List.mem_map]
    rintro d ⟨c, hc, rfl⟩
    rfl
  have e' := e [some (.str s), some (.int lo), some (.int hi), none] rfl
  rw [e2] at e'
  simp only [SGN] at e' a1 a2 hs
  simp [m_are_signs, b_are_signs, fnS, h1, h2, hl, gcR, e', a1, a2]
  try exact hs
theorem is_wheel_spec {s : List Nat} (h1 : 2 ≤ s.length) (h2 : s.length ≤ 30) (hn : s.Nodup) (hs : ∀ c ∈ s, c ∈ SGN) (m : Mem) : m_is_wheel [.str s] m = .ok (.bl true) m := by
  have e := are_signs_spec (s := s) (lo := 2) (hi := 30) (by omega) (by omega) (by omega) hs m
  have h4 : s.length < 4000 := by omega
  simp [m_is_wheel, b_is_wheel, fnS, e, h4, dedup_nodup hn, gcR]
theorem is_wheels_spec {a b : List Nat} {n : Int} (h : Whl a b n) (m : Mem) : m_is_wheels [whD a b n] m = .ok (.bl true) m := by
  have e1 := is_wheel_spec h.lo h.hi h.na h.sa m
  have e2 := is_wheel_spec (s := b) (by rw [h.same]; exact h.lo) (by rw [h.same]; exact h.hi) h.nb h.sb m
  simp [m_is_wheels, b_is_wheels, fnS, e1, e2, gcR, ixD, h.same, h.n1, h.n3]
theorem need_wheels_spec {a b : List Nat} {n : Int} (h : Whl a b n) (m : Mem) : m_need_wheels [whD a b n] m = .ok .non m := by
  simp [m_need_wheels, b_need_wheels, fnS, is_wheels_spec h m, gcR]
@[simp] theorem places_of_spec (a b : List Nat) (n : Int) (m : Mem) : m_places_of [whD a b n] m = .ok (.int a.length) m := by
  simp [m_places_of, b_places_of, fnS, gcR, ixD]
end LW
namespace LW
@[simp] theorem cutD_from {α : Type} (xs : List α) (p : Nat) : cutD xs (some (p : Int)) none = xs.drop p := by
  unfold cutD sIxD
  have h : ¬ ((p : Int) < 0) := by omega
  simp only [h, if_false, Int.toNat_natCast]
  by_cases hp : p ≤ xs.length
  · rw [Nat.min_eq_left hp, List.take_of_length_le (by simp)]
  · rw [Nat.min_eq_right (by omega)]
    simp
    omega
@[simp] theorem cutD_to {α : Type} (xs : List α) (p : Nat) : cutD xs none (some (p : Int)) = xs.take p := by
  unfold cutD sIxD
  have h : ¬ ((p : Int) < 0) := by omega
  simp only [h, if_false, Int.toNat_natCast, List.drop_zero, Nat.sub_zero]
  by_cases hp : p ≤ xs.length
  · rw [Nat.min_eq_left hp]
  · rw [Nat.min_eq_right (by omega), List.take_of_length_le (Nat.le_refl _), List.take_of_length_le (by omega)]
@[simp] theorem cut3_to2 {α : Type} (x y z : α) : cutD [x, y, z] none (some 2) = [x, y] := rfl
@[simp] theorem cut3_from2 {α : Type} (x y z : α) : cutD [x, y, z] (some 2) none = [z] := rfl
/-! ### sorted signs -/
@[simp] theorem strsOf_map {α : Type} (f : α → List Nat) : ∀ l : List α, strsOf (l.map fun c => D.str (f c)) = some (l.map f)
  | [] => rfl
  | x :: r => by simp [strsOf_map f r]
@[simp] theorem joinL_one {α : Type} (f : α → Nat) : ∀ l : List α, joinL [] (l.map fun c => [f c]) = l.map f
  | [] => rfl
  | [x] => rfl
  | x :: y :: r => by
    have := joinL_one f (y :: r)
    simp only [List.map_cons] at this ⊢
    simp [joinL, this]
@[simp] theorem sum_ones {α : Type} (f : α → Nat) : ∀ l : List α, ((l.map fun c => [f c]).map List.length).sum = l.length
  | [] => rfl
  | x :: r => by
    have := sum_ones f r
    simp only [List.map_cons, List.sum_cons, List.length_cons, List.length_nil] at this ⊢
    omega
/-! ### two signs exchanged -/
end LW
namespace LW
@[simp] theorem ix_1_0 : ixD 1 0 = some 0 := rfl
@[simp] theorem ix_2_0 : ixD 2 0 = some 0 := rfl
@[simp] theorem ix_2_1 : ixD 2 1 = some 1 := rfl
@[simp] theorem ix_3_0 : ixD 3 0 = some 0 := rfl
@[simp] theorem ix_3_1 : ixD 3 1 = some 1 := rfl
@[simp] theorem ix_3_2 : ixD 3 2 = some 2 := rfl
@[simp] theorem ix_4_0 : ixD 4 0 = some 0 := rfl
@[simp] theorem ix_4_1 : ixD 4 1 = some 1 := rfl
@[simp] theorem ix_4_2 : ixD 4 2 = some 2 := rfl
@[simp] theorem ix_4_3 : ixD 4 3 = some 3 := rfl
/-- a stand: place, whether the figures' wheel, idle -/
structure Std where
  p : Nat
  f : Bool
  i : Nat
deriving DecidableEq
@[simp] def wc (f : Bool) : Nat := if f then 102 else 108
abbrev stD (s : Std) : D := .tup [.int s.p, .str [wc s.f], .int s.i]
/-- one pulse -/
def pul (a b : List Nat) (n : Int) (s : Std) (c : Nat) : Std × List Nat :=
  if c = 115 then (if s.p = 0 ∧ (a.length : Int) * n ≤ s.i then (s, []) else (⟨(s.p + 1) % a.length, s.f, s.i + 1⟩, []))
  else if c = 112 then (⟨s.p, s.f, 0⟩, [(if s.f then b else a).getD s.p 0])
  else (⟨s.p, decide (c = 102), 0⟩, [])
def IsPul (c : Nat) : Prop := c = 115 ∨ c = 112 ∨ c = 108 ∨ c = 102
theorem pul_lt {a b : List Nat} {n : Int} {s : Std} {c : Nat} (h : s.p < a.length) : (pul a b n s c).1.p < a.length := by
  unfold pul
  split
  · split
    · exact h
    · exact Nat.mod_lt _ (by omega)
  · split
    · exact h
    · exact h
theorem pul_len {a b : List Nat} {n : Int} {s : Std} {c : Nat} : (pul a b n s c).2.length ≤ 1 := by
  unfold pul
  split
  · split <;> simp
  · split <;> simp
theorem is_caught_spec {a b : List Nat} {n : Int} (h : Whl a b n) (s : Std) (m : Mem) : m_is_caught [whD a b n, stD s] m = .ok (.bl (decide (s.p = 0 ∧ (a.length : Int) * n ≤ s.i))) m := by
  have g1 := big_of (i := (a.length : Int)) (by omega) (by have := h.hi; omega)
  by_cases h0 : s.p = 0
  · simp [m_is_caught, b_is_caught, fnS, h0, g1, gcR]
  · have hq : ((s.p : Int) == 0) = false := by simp; omega
    simp [m_is_caught, b_is_caught, fnS, h0, hq, gcR]
theorem get_sign {x : List Nat} {p : Nat} (h : p < x.length) (m : Mem) : LW.getD m (.str x) (.int p) = some (.str [x.getD p 0]) := by
  simp [ixD_nat h, List.getElem?_eq_getElem h]
theorem pulsed_spec {a b : List Nat} {n : Int} (h : Whl a b n) {s : Std} (hp : s.p < a.length) {c : Nat} (hc : IsPul c) (m : Mem) : m_pulsed [whD a b n, stD s, .str [c]] m = .ok (.tup [stD (pul a b n s c).1, .str (pul a b n s c).2]) m := by
  have l2 : 2 ≤ lim := by unfold lim; omega
  have l3 : 3 ≤ lim := by unfold lim; omega
  have la : (0 : Int) < (a.length : Int) := by omega
  have la' : 0 < a.length := by omega
  have hb : s.p < b.length := by rw [h.same]; exact hp
  have e1 := is_caught_spec h s m
  have g0 := get_sign hp m
  have g1 := get_sign hb m
  rcases hc with rfl | rfl | rfl | rfl
  · by_cases q : s.p = 0 ∧ (a.length : Int) * n ≤ s.i
    · simp [m_pulsed, b_pulsed, fnS, e1, q, pul, l2, gcR]
    · simp [m_pulsed, b_pulsed, fnS, e1, q, pul, l2, l3, gcR, la']
  · cases hf : s.f
    · simp [m_pulsed, b_pulsed, fnS, pul, l2, l3, gcR, hf, ixD_nat hp, List.getElem?_eq_getElem hp]
    · simp [m_pulsed, b_pulsed, fnS, pul, l2, l3, gcR, hf, ixD_nat hb, List.getElem?_eq_getElem hb]
  · simp [m_pulsed, b_pulsed, fnS, pul, l2, l3, gcR]
  · simp [m_pulsed, b_pulsed, fnS, pul, l2, l3, gcR]
/-- a row -/
def run (a b : List Nat) (n : Int) : Std → List Nat → Std × List Nat
  | s, [] => (s, [])
  | s, c :: r => ((run a b n (pul a b n s c).1 r).1, (pul a b n s c).2 ++ (run a b n (pul a b n s c).1 r).2)
theorem run_len {a b : List Nat} {n : Int} : ∀ (r : List Nat) (s : Std), (run a b n s r).2.length ≤ r.length
  | [], s => by simp [run]
  | c :: r, s => by
    have h1 := run_len (a := a) (b := b) (n := n) r (pul a b n s c).1
    have h2 := pul_len (a := a) (b := b) (n := n) (s := s) (c := c)
    simp only [run, List.length_append, List.length_cons]
    omega
theorem run_lt {a b : List Nat} {n : Int} : ∀ (r : List Nat) (s : Std), s.p < a.length → (run a b n s r).1.p < a.length
  | [], s, h => h
  | c :: r, s, h => run_lt r _ (pul_lt h)
theorem run_append {a b : List Nat} {n : Int} : ∀ (r q : List Nat) (s : Std), run a b n s (r ++ q) = ((run a b n (run a b n s r).1 q).1, (run a b n s r).2 ++ (run a b n (run a b n s r).1 q).2)
  | [], q, s => by simp [run]
  | c :: r, q, s => by simp [run, run_append r q]
theorem rowed_loop {a b : List Nat} {n : Int} (h : Whl a b n) {m : Mem} {r2 : Option D} : ∀ (row : List Nat) (s : Std) (t : List Nat) (x y : Option D), s.p < a.length → (∀ c ∈ row, IsPul c) → t.length + row.length ≤ 10000 →
    ∃ x' y', forL (nmG 4) (seqS (asgS (tupG (consG (nmG 1) (consG (nmG 5) nilG))) (callE m_pulsed (consA (vE 0) (consA (vE 1) (consA (vE 4) nilA))))) (asgS (nmG 3) (opE addD (vE 3) (vE 5)))) (row.map fun c => .str [c]) [some (whD a b n), some (stD s), r2, some (.str t), x, y] m
      = .ok (.nx [some (whD a b n), some (stD (run a b n s row).1), r2, some (.str (t ++ (run a b n s row).2)), x', y']) m
  | [], s, t, x, y, _, _, _ => ⟨x, y, by simp [forL, run]⟩
  | c :: row, s, t, x, y, hp, hc, hl => by
    simp only [List.length_cons] at hl
    have pl := pul_len (a := a) (b := b) (n := n) (s := s) (c := c)
    obtain ⟨x', y', e⟩ := rowed_loop h (m := m) (r2 := r2) row (pul a b n s c).1 (t ++ (pul a b n s c).2) (some (.str [c])) (some (.str (pul a b n s c).2)) (pul_lt hp) (fun d hd => hc d (List.mem_cons_of_mem _ hd)) (by simp; omega)
    refine ⟨x', y', ?_⟩
    have l : t.length + (pul a b n s c).2.length ≤ lim := by unfold lim; omega
    have pe := pulsed_spec h hp (hc c (by simp)) m
    rw [List.map_cons, forL_cons]
    simp [pe, l]
    rw [e]
    simp [run]
theorem rowed_spec {a b : List Nat} {n : Int} (h : Whl a b n) {s : Std} (hp : s.p < a.length) {row : List Nat} (hr : ∀ c ∈ row, IsPul c) (hl : row.length ≤ 10000) (m : Mem) : m_rowed [whD a b n, stD s, .str row] m = .ok (.tup [stD (run a b n s row).1, .str (run a b n s row).2]) m := by
  obtain ⟨x, y, e⟩ := rowed_loop h (m := m) (r2 := some (.str row)) row s [] none none hp hr (by simpa using hl)
  have l2 : 2 ≤ lim := by unfold lim; omega
  simp only [List.nil_append] at e
  simp [m_rowed, b_rowed, fnS, e, gcR, l2]
end LW
namespace LW
theorem pul_mem {c : Nat} (h : IsPul c) : c ∈ c_PULSES := by
  rcases h with rfl | rfl | rfl | rfl <;> decide
theorem is_row_spec {s : List Nat} {hi : Int} (h2 : (s.length : Int) ≤ hi) (h3 : s.length ≤ 10000) (hs : ∀ c ∈ s, IsPul c) (m : Mem) : m_is_row [.str s, .int hi] m = .ok (.bl true) m := by
  have hl : s.length ≤ lim := by unfold lim; omega
  have e : ∀ g : Env, g.length = 3 → lcL (nmG 2) yesT (noX (opE inD (vE 2) (cE (.str c_PULSES)))) g (s.map fun c => .str [c]) m = .ok ((s.map fun c => D.str [c]).map fun d => match d with | .str [c] => D.bl (decide (c ∈ c_PULSES)) | _ => .non) m := by
    intro g hg
    refine lcL_map fun d hd => ?_
    obtain ⟨c, hc, rfl⟩ := List.mem_map.mp hd
    refine ⟨_, rfl, ?_⟩
    have : (g.set 2 (some (D.str [c])))[2]? = some (some (.str [c])) := by rw [List.getElem?_set_self (by omega)]
    simp [this]
  have e2 : ((s.map fun c => D.str [c]).map fun d => match d with | .str [c] => D.bl (decide (c ∈ c_PULSES)) | _ => .non) = s.map fun c => D.bl (decide (c ∈ c_PULSES)) := by rw [List.map_map]; rfl
  have a1 : (s.map fun c => D.bl (decide (c ∈ c_PULSES))).all (fun d => match d with | .bl b => b | _ => false) = true := by
    simp only [List.all_eq_true, List.mem_map]
    rintro d ⟨c, hc, rfl⟩
    simpa using pul_mem (hs c hc)
  have a2 : (s.map fun c => D.bl (decide (c ∈ c_PULSES))).all (fun d => match d with | .bl _ => true | _ => false) = true := by
    simp only [List.all_eq_true, List.mem_map]
    rintro d ⟨c, hc, rfl⟩
    rfl
  have e' := e [some (.str s), some (.int hi), none] rfl
  rw [e2] at e'
  have a1' : ∀ c ∈ s, c ∈ c_PULSES := fun c hc => pul_mem (hs c hc)
  simp [m_is_row, b_is_row, fnS, h2, hl, gcR, e', a1, a2]
  try exact a1'
theorem need_row_spec {s : List Nat} {hi : Int} (h2 : (s.length : Int) ≤ hi) (h3 : s.length ≤ 10000) (hs : ∀ c ∈ s, IsPul c) (m : Mem) : m_need_row [.str s, .int hi] m = .ok .non m := by
  simp [m_need_row, b_need_row, fnS, is_row_spec h2 h3 hs m, gcR]
def st0 : Std := ⟨0, false, 0⟩
abbrev shw (a b : List Nat) (n : Int) (row : List Nat) : List Nat := (run a b n st0 row).2
end LW
namespace LW
@[simp] theorem cutD_from1 {α : Type} (xs : List α) (p : Nat) : cutD xs (some ((p : Int) + 1)) none = xs.drop (p + 1) := cutD_from xs (p + 1)
@[simp] theorem cutD_to1 {α : Type} (xs : List α) (p : Nat) : cutD xs none (some ((p : Int) + 1)) = xs.take (p + 1) := cutD_to xs (p + 1)
/-- one pulse left out -/
abbrev cutAt (row : List Nat) (k : Nat) : List Nat := row.take k ++ row.drop (k + 1)
/-- thinning from a place on -/
def thin (a b : List Nat) (n : Int) (text : List Nat) : Nat → List Nat → Nat → List Nat
  | 0, made, _ => made
  | f + 1, made, k => if k < made.length then (if shw a b n (cutAt made k) = text then thin a b n text f (cutAt made k) k else thin a b n text f made (k + 1)) else made
/-- the thinned row -/
def thn (a b : List Nat) (n : Int) (row : List Nat) : List Nat := thin a b n (shw a b n row) 61 row 0
end LW
namespace LW
/-! ### slips -/
def wd (w : Bool) : List Nat := if w then [116, 119, 105, 99, 101] else [108, 111, 115, 116]
abbrev slD1 (p : Nat × Bool) : D := .tup [.int p.1, .str (wd p.2)]
abbrev slpD (l : List (Nat × Bool)) : D := .tpx (l.map slD1)
/-- how often a pulse comes -/
def oft (l : List (Nat × Bool)) (i : Nat) : Nat := match l.find? (fun p => decide (p.1 = i)) with | none => 1 | some p => if p.2 then 2 else 0
theorem oft_le (l : List (Nat × Bool)) (i : Nat) : oft l i ≤ 2 := by
  unfold oft
  split
  · omega
  · split <;> omega
theorem pairsOf_slips : ∀ l : List (Nat × Bool), pairsOf (l.map slD1) = some (l.map fun p => ((p.1 : Int), D.str (wd p.2)))
  | [] => rfl
  | p :: l => by simp [pairsOf, pairsOf_slips l]
theorem dfind_slips (i : Nat) : ∀ l : List (Nat × Bool), dfind (i : Int) (l.map fun p => D.int p.1) (l.map fun p => D.str (wd p.2)) = (l.find? fun p => decide (p.1 = i)).map fun p => D.str (wd p.2)
  | [] => rfl
  | p :: l => by
    simp only [List.map_cons, dfind]
    by_cases h : p.1 = i
    · simp [h]
    · have h' : ¬ (p.1 : Int) = (i : Int) := by omega
      simp [h, h', dfind_slips i l]
/-- the row as it comes -/
def slp (row : List Nat) (l : List (Nat × Bool)) : List Nat := ((List.range row.length).map fun i => List.replicate (oft l i) (row.getD i 0)).flatten
theorem joinL_flat : ∀ ps : List (List Nat), joinL [] ps = ps.flatten
  | [] => rfl
  | [p] => by simp [joinL]
  | p :: q :: r => by
    have := joinL_flat (q :: r)
    simp only [joinL, this, List.append_nil, List.flatten_cons]
theorem flat_rep1 (c k : Nat) : (List.replicate k [c]).flatten = List.replicate k c := by
  induction k with
  | zero => rfl
  | succ k ih => simp [List.replicate_succ, ih]
theorem zip_row (row : List Nat) (f : Nat → D) : zipD (row.map fun c => D.str [c]) ((List.range row.length).map f) = (List.range row.length).map fun i => D.tup [.str [row.getD i 0], f i] := by
  apply List.ext_getElem?
  intro i
  unfold zipD
  rw [List.getElem?_zipWith, List.getElem?_map, List.getElem?_map, List.getElem?_map]
  by_cases h : i < row.length
  · rw [List.getElem?_range h, List.getElem?_eq_getElem h]
    simp [h]
  · rw [List.getElem?_eq_none (by omega), List.getElem?_eq_none (by simp; omega)]
    rfl
theorem slipped_spec {row : List Nat} {l : List (Nat × Bool)} (hl : row.length ≤ 1000) (hn : (l.map (·.1)).Nodup) (m : Mem) : m_slipped [.str row, slpD l] m = .ok (.str (slp row l)) m := by
  have lm : row.length ≤ lim := by unfold lim; omega
  have nd : ((l.map fun p => ((p.1 : Int), D.str (wd p.2))).map (·.1)).Nodup := by
    have e : (l.map fun p => ((p.1 : Int), D.str (wd p.2))).map (·.1) = (l.map (·.1)).map fun (k : Nat) => (k : Int) := by rw [List.map_map, List.map_map]; rfl
    rw [e, List.nodup_iff_pairwise_ne, List.pairwise_map]
    exact (List.nodup_iff_pairwise_ne.mp hn).imp fun hab e => hab (by omega)
  have e1 : dictB m [slpD l] = some (.dct (l.map fun p => .int p.1) (l.map fun p => .str (wd p.2))) := by
    unfold dictB slpD
    simp only [pairsOf_slips]
    rw [if_pos nd]
    simp [List.map_map, Function.comp_def]
  have e2 : lcL (nmG 4) yesT (noX (dget2E (cE (.str [108, 111, 115, 116])) (cE (.int 0)) (cE (.str [116, 119, 105, 99, 101])) (cE (.int 2)) (dopE get1D (vE 2) (vE 4)) (cE (.int 1)))) [some (.str row), some (slpD l), some (.dct (l.map fun p => .int p.1) (l.map fun p => .str (wd p.2))), none, none, none, none] ((List.range row.length).map fun (k : Nat) => D.int k) m
      = .ok (((List.range row.length).map fun (k : Nat) => D.int k).map fun d => match d with | .int i => .int (oft l i.toNat) | _ => .non) m := by
    refine lcL_map fun d hd => ?_
    obtain ⟨k, hk, rfl⟩ := List.mem_map.mp hd
    refine ⟨_, rfl, ?_⟩
    have hd2 := dfind_slips k l
    cases q : l.find? (fun p => decide (p.1 = k)) with
    | none => simp [get1D, hd2, q, oft]
    | some p =>
      cases hp : p.2
      · have hw : wd p.2 = [108, 111, 115, 116] := by rw [hp]; rfl
        simp [get1D, hd2, q, oft, hp, hw]
        try simp [wd]
      · have hw : wd p.2 = [116, 119, 105, 99, 101] := by rw [hp]; rfl
        simp [get1D, hd2, q, oft, hp, hw]
        try simp [wd]
  rw [List.map_map] at e2
  have e3 : ∀ x4, lcL (tupG (consG (nmG 5) (consG (nmG 6) nilG))) yesT (noX (opE mulD (vE 5) (vE 6))) [some (.str row), some (slpD l), some (.dct (l.map fun p => .int p.1) (l.map fun p => .str (wd p.2))), some (.lst ((List.range row.length).map fun (k : Nat) => D.int (oft l k))), x4, none, none]
      ((List.range row.length).map fun i => D.tup [.str [row.getD i 0], .int (oft l i)]) m = .ok (((List.range row.length).map fun i => D.tup [.str [row.getD i 0], .int (oft l i)]).map fun d => match d with | .tup [.str [c], .int j] => .str (List.replicate j.toNat c) | _ => .non) m := by
    intro x4
    refine lcL_map fun d hd => ?_
    obtain ⟨k, hk, rfl⟩ := List.mem_map.mp hd
    refine ⟨_, rfl, ?_⟩
    have ho := oft_le l k
    have rp := repOk_of (n := 1) (j := (oft l k : Int)) (by omega) (by omega) (by omega)
    simp [rp, flat_rep1]
  have e4 : ((List.range row.length).map fun i => D.tup [.str [row.getD i 0], .int (oft l i)]).map (fun d => match d with | .tup [.str [c], .int j] => D.str (List.replicate j.toNat c) | _ => .non) = (List.range row.length).map fun i => D.str (List.replicate (oft l i) (row.getD i 0)) := by
    rw [List.map_map]
    rfl
  have hin : inR (row.length : Int) = true := inR_nat (by omega)
  have ez := zip_row row (fun i => D.int (oft l i))
  have ej : joinD m (.str []) (.lst ((List.range row.length).map fun i => D.str (List.replicate (oft l i) (row.getD i 0)))) = some (.str (slp row l)) := by
    unfold joinD
    have s1 := strsOf_map (fun i : Nat => List.replicate (oft l i) (row.getD i 0)) (List.range row.length)
    simp only [seqOf, lstOf, s1, joinL_flat]
    rw [if_pos]
    · rfl
    · have hb : ∀ is : List Nat, ((is.map fun i => List.replicate (oft l i) (row.getD i 0)).map List.length).sum ≤ 2 * is.length := fun is => by
        induction is with
        | nil => simp
        | cons x r ih =>
          have ho := oft_le l x
          simp only [List.map_cons, List.sum_cons, List.length_cons, List.length_replicate] at ih ⊢
          omega
      have := hb (List.range row.length)
      simp only [List.length_map, List.length_range, List.length_nil, Nat.mul_zero, Nat.add_zero] at this ⊢
      unfold lim
      omega
  have e5 : (List.range row.length).map ((fun d => match d with | .int i => D.int (oft l i.toNat) | _ => .non) ∘ fun (k : Nat) => D.int k) = (List.range row.length).map fun (k : Nat) => D.int (oft l k) := rfl
  rw [e5] at e2
  have e3' := e3 none
  rw [e4] at e3'
  simp only [m_slipped, b_slipped, fnS]
  simp [e1, hin, lm, e2, ez, e3', ej, gcR, -List.getD_eq_getElem?_getD]
end LW
namespace LW
/-! ### prints -/
/-- the stand ahead of the k-th pulse -/
abbrev std (a b : List Nat) (n : Int) (row : List Nat) (k : Nat) : Std := (run a b n st0 (row.take k)).1
/-- what is told of a print -/
def prt (a b : List Nat) (n : Int) (row : List Nat) (k : Nat) : D := .tup [.int k, .int (std a b n row k).p, .str [wc (std a b n row k).f], .str [(if (std a b n row k).f then b else a).getD (std a b n row k).p 0]]
def prs (a b : List Nat) (n : Int) (row : List Nat) (k : Nat) : List D := ((List.range k).filter fun i => row.getD i 0 == 112).map (prt a b n row)
theorem take_succ' {row : List Nat} {k : Nat} (h : k < row.length) : row.take (k + 1) = row.take k ++ [row.getD k 0] := by
  rw [List.take_add_one, List.getElem?_eq_getElem h, List.getD_eq_getElem?_getD, List.getElem?_eq_getElem h]
  rfl
theorem row_pul {row : List Nat} (hr : ∀ c ∈ row, IsPul c) {i : Nat} (hi : i < row.length) : IsPul (row.getD i 0) := hr _ (by rw [List.getD_eq_getElem?_getD, List.getElem?_eq_getElem hi]; exact List.getElem_mem hi)
theorem clL_all {n : Nat} : ∀ {ds : List D}, (∀ d ∈ ds, D.cl n d = true) → D.clL n ds = true
  | [], _ => rfl
  | d :: ds, h => by simp [D.clL, h d (by simp), clL_all fun e he => h e (List.mem_cons_of_mem _ he)]
end LW
namespace LW
end LW
namespace LW
theorem slp_pul {row : List Nat} (hr : ∀ c ∈ row, IsPul c) (l : List (Nat × Bool)) : ∀ c ∈ slp row l, IsPul c := fun c hc => by
  unfold slp at hc
  obtain ⟨x, hx, hc⟩ := List.mem_flatten.mp hc
  obtain ⟨i, hi, rfl⟩ := List.mem_map.mp hx
  rw [List.eq_of_mem_replicate hc]
  exact row_pul hr (List.mem_range.mp hi)
theorem slp_len (row : List Nat) (l : List (Nat × Bool)) : (slp row l).length ≤ 2 * row.length := by
  unfold slp
  have hb : ∀ is : List Nat, ((is.map fun i => List.replicate (oft l i) (row.getD i 0)).flatten).length ≤ 2 * is.length := fun is => by
    induction is with
    | nil => simp
    | cons x r ih =>
      have ho := oft_le l x
      simp only [List.map_cons, List.flatten_cons, List.length_append, List.length_replicate, List.length_cons] at ih ⊢
      omega
  have := hb (List.range row.length)
  simpa using this
end LW
namespace LW
/-! ### k29's own reckoning -/
end LW
namespace LW
end LW
namespace LW
@[simp] theorem eqv_bl (a b : Bool) : D.eqv (.bl a) (.bl b) = (a == b) := by simp [D.eqv]
/-! ### loops and blocks, by what they are for -/
/-- a block that ends with a value or runs through -/
def Wp (s : Sm) (g : Env) (m : Mem) (Q : Out → Mem → Prop) : Prop := ∃ o m1, s g m = .ok o m1 ∧ Q o m1
theorem Wp_of {s : Sm} {g : Env} {m m1 : Mem} {o : Out} {Q : Out → Mem → Prop} (h : s g m = .ok o m1) (q : Q o m1) : Wp s g m Q := ⟨o, m1, h, q⟩
theorem Wp_seq {a b : Sm} {g g1 : Env} {m m1 : Mem} {Q : Out → Mem → Prop} (h : a g m = .ok (.nx g1) m1) (h2 : Wp b g1 m1 Q) : Wp (seqS a b) g m Q := by
  obtain ⟨o, m2, e, q⟩ := h2
  exact ⟨o, m2, by rw [seqS_eq, h, R.bind_ok]; exact e, q⟩
/-- a loop: each turn goes on, or ends the block -/
theorem forL_wp {t : Tg} {b : Sm} {ds : List D} {Q : Out → Mem → Prop} (I : Nat → Env → Mem → Prop)
    (step : ∀ i d g m, ds[i]? = some d → I i g m → ∃ g1 m1, t d g m = .ok g1 m1 ∧ ∃ o m2, b g1 m1 = .ok o m2 ∧ match o with | .nx g2 => I (i + 1) g2 m2 | .ct g2 => I (i + 1) g2 m2 | .bk g2 => Q (.nx g2) m2 | .rt d => Q (.rt d) m2)
    (fin : ∀ g m, I ds.length g m → Q (.nx g) m) {g : Env} {m : Mem} (h0 : I 0 g m) : ∃ o m', forL t b ds g m = .ok o m' ∧ Q o m' := by
  suffices H : ∀ (es : List D) (i : Nat) (g : Env) (m : Mem), ds.drop i = es → i ≤ ds.length → I i g m → ∃ o m', forL t b es g m = .ok o m' ∧ Q o m' from H ds 0 g m rfl (Nat.zero_le _) h0
  intro es
  induction es with
  | nil =>
    intro i g m e hi h
    have : i = ds.length := by
      have := congrArg List.length e
      simp at this
      omega
    subst this
    exact ⟨.nx g, m, rfl, fin g m h⟩
  | cons d es ih =>
    intro i g m e hi h
    have hlt : i < ds.length := by
      have := congrArg List.length e
      simp at this
      omega
    have hd : ds[i]? = some d := by
      have := List.getElem?_drop (xs := ds) (i := i) (j := 0)
      rw [e] at this
      simpa using this.symm
    obtain ⟨g1, m1, e1, o, m2, e2, ho⟩ := step i d g m hd h
    have e3 : ds.drop (i + 1) = es := by
      rw [← List.drop_drop, e]
      rfl
    cases o with
    | nx g2 =>
      obtain ⟨o', m', e4, h4⟩ := ih (i + 1) g2 m2 e3 hlt ho
      exact ⟨o', m', by rw [forL_cons, e1, R.bind_ok, e2, R.bind_ok]; exact e4, h4⟩
    | ct g2 =>
      obtain ⟨o', m', e4, h4⟩ := ih (i + 1) g2 m2 e3 hlt ho
      exact ⟨o', m', by rw [forL_cons, e1, R.bind_ok, e2, R.bind_ok]; exact e4, h4⟩
    | bk g2 => exact ⟨.nx g2, m2, by rw [forL_cons, e1, R.bind_ok, e2, R.bind_ok], ho⟩
    | rt x => exact ⟨.rt x, m2, by rw [forL_cons, e1, R.bind_ok, e2, R.bind_ok], ho⟩
/-- for, then the rest; no turn ends the block -/
theorem Rt_for {it : Ar} {t : Tg} {b c : Sm} {g : Env} {m m1 : Mem} {ds : List D} {d : D} (I : Nat → Env → Mem → Prop) (hit : it g m = .ok ds m1) (h0 : I 0 g m1)
    (step : ∀ i d g m, ds[i]? = some d → I i g m → ∃ g1 m1, t d g m = .ok g1 m1 ∧ ∃ g2 m2, b g1 m1 = .ok (.nx g2) m2 ∧ I (i + 1) g2 m2) (fin : ∀ g m, I ds.length g m → Rt c g m d) : Rt (seqS (forS it t b) c) g m d := by
  obtain ⟨g', m', e, h⟩ := forL_inv I (fun i d g m hd h => by
    obtain ⟨g1, m1, e1, g2, m2, e2, h2⟩ := step i d g m hd h
    exact ⟨g1, m1, e1, .nx g2, m2, e2, g2, .inl rfl, h2⟩) h0
  exact Rt_seq (for_nx hit e) (fin g' m' h)
/-- what is wanted behind a turn -/
def stQ (J : Env → Mem → Prop) (Q : Out → Mem → Prop) : Out → Mem → Prop := fun o m => match o with | .nx g => J g m | .ct g => J g m | .bk g => Q (.nx g) m | .rt d => Q (.rt d) m
def sqQ (b : Sm) (Q : Out → Mem → Prop) : Out → Mem → Prop := fun o m => match o with | .nx g => Wp b g m Q | o => Q o m
theorem Wp_bind {a b : Sm} {g : Env} {m : Mem} {Q : Out → Mem → Prop} (h : Wp a g m (sqQ b Q)) : Wp (seqS a b) g m Q := by
  obtain ⟨o, m1, e, q⟩ := h
  cases o with
  | nx g1 =>
    obtain ⟨o2, m2, e2, q2⟩ := q
    exact ⟨o2, m2, by rw [seqS_eq, e, R.bind_ok]; exact e2, q2⟩
  | rt d => exact ⟨.rt d, m1, by rw [seqS_eq, e, R.bind_ok], q⟩
  | bk g1 => exact ⟨.bk g1, m1, by rw [seqS_eq, e, R.bind_ok], q⟩
  | ct g1 => exact ⟨.ct g1, m1, by rw [seqS_eq, e, R.bind_ok], q⟩
theorem Wp.imp {s : Sm} {g : Env} {m : Mem} {Q Q' : Out → Mem → Prop} (h : Wp s g m Q) (f : ∀ o m, Q o m → Q' o m) : Wp s g m Q' := by
  obtain ⟨o, m1, e, q⟩ := h
  exact ⟨o, m1, e, f _ _ q⟩
/-- for: each turn goes on, or ends the block -/
theorem Wp_for {it : Ar} {t : Tg} {b : Sm} {g : Env} {m m1 : Mem} {ds : List D} {Q : Out → Mem → Prop} (I : Nat → Env → Mem → Prop) (hit : it g m = .ok ds m1) (h0 : I 0 g m1)
    (step : ∀ i d g m, ds[i]? = some d → I i g m → ∃ g1 m1, t d g m = .ok g1 m1 ∧ Wp b g1 m1 (stQ (I (i + 1)) Q)) (fin : ∀ g m, I ds.length g m → Q (.nx g) m) : Wp (forS it t b) g m Q := by
  obtain ⟨o, m', e, h⟩ := forL_wp (b := b) (t := t) (Q := Q) I (fun i d g m hd h => by
    obtain ⟨g1, m1, e1, o, m2, e2, q⟩ := step i d g m hd h
    refine ⟨g1, m1, e1, o, m2, e2, ?_⟩
    cases o <;> exact q) fin h0
  exact ⟨o, m', by simp only [forS, hit, R.bind_ok]; exact e, h⟩
/-- while, with a measure -/
theorem whileL_wp {c : Ts} {b : Sm} {Q : Out → Mem → Prop} (I : Nat → Env → Mem → Prop)
    (step : ∀ n g m, I n g m → ∃ x m1, c g m = .ok x m1 ∧ if x then Wp b g m1 (stQ (fun g2 m2 => ∃ n', n' < n ∧ I n' g2 m2) Q) else Q (.nx g) m1) : ∀ (n N : Nat) (g : Env) (m : Mem), n < N → I n g m → ∃ o m', whileL c b N g m = .ok o m' ∧ Q o m' := by
  intro n
  induction n using Nat.strongRecOn with
  | ind n ih =>
    intro N g m hN h
    cases N with
    | zero => omega
    | succ N =>
      obtain ⟨x, m1, e, hx⟩ := step n g m h
      cases x with
      | false => exact ⟨.nx g, m1, by simp only [whileL, e, R.bind_ok]; rfl, by simpa using hx⟩
      | true =>
        simp only [if_true] at hx
        obtain ⟨o, m2, e2, q⟩ := hx
        cases o with
        | nx g2 =>
          obtain ⟨n', hn, h2⟩ := q
          obtain ⟨o', m', e3, q3⟩ := ih n' hn N g2 m2 (by omega) h2
          exact ⟨o', m', by simp only [whileL, e, R.bind_ok, e2, if_true]; exact e3, q3⟩
        | ct g2 =>
          obtain ⟨n', hn, h2⟩ := q
          obtain ⟨o', m', e3, q3⟩ := ih n' hn N g2 m2 (by omega) h2
          exact ⟨o', m', by simp only [whileL, e, R.bind_ok, e2, if_true]; exact e3, q3⟩
        | bk g2 => exact ⟨.nx g2, m2, by simp only [whileL, e, R.bind_ok, e2, if_true], q⟩
        | rt d => exact ⟨.rt d, m2, by simp only [whileL, e, R.bind_ok, e2, if_true], q⟩
theorem Wp_while {N : Nat} {c : Ts} {b : Sm} {g : Env} {m : Mem} {Q : Out → Mem → Prop} (I : Nat → Env → Mem → Prop) (n : Nat) (hn : n < N) (h0 : I n g m)
    (step : ∀ n g m, I n g m → ∃ x m1, c g m = .ok x m1 ∧ if x then Wp b g m1 (stQ (fun g2 m2 => ∃ n', n' < n ∧ I n' g2 m2) Q) else Q (.nx g) m1) : Wp (whileS N c b) g m Q := by
  obtain ⟨o, m', e, h⟩ := whileL_wp I step n N g m hn h0
  exact ⟨o, m', e, h⟩
/-- a def by its block -/
theorem fn_wp {k : Nat} {b : Sm} {xs : List D} {m m' : Mem} {d : D} (h : Wp b (xs.map some ++ List.replicate (k - xs.length) none) m fun o m1 => (o = .rt d ∨ (d = .non ∧ ∃ g, o = .nx g)) ∧ gcR m.length d m1 = .ok d m') : fnS k b xs m = .ok d m' := by
  obtain ⟨o, m1, e, q, hg⟩ := h
  unfold fnS
  rw [e]
  rcases q with rfl | ⟨rfl, g, rfl⟩
  · exact hg
  · exact hg
theorem fn_wpE {k : Nat} {b : Sm} {xs : List D} {m : Mem} {K : D → Mem → Prop} (h : Wp b (xs.map some ++ List.replicate (k - xs.length) none) m fun o m1 => ∃ d m', (o = .rt d ∨ (d = .non ∧ ∃ g, o = .nx g)) ∧ gcR m.length d m1 = .ok d m' ∧ K d m') : ∃ d m', fnS k b xs m = .ok d m' ∧ K d m' := by
  obtain ⟨o, m1, e, d, m', q, hg, hk⟩ := h
  refine ⟨d, m', ?_, hk⟩
  unfold fnS
  rw [e]
  rcases q with rfl | ⟨rfl, g, rfl⟩
  · exact hg
  · exact hg
@[simp] theorem gc_same (d : D) (m : Mem) : gcR m.length d m = .ok d m := by unfold gcR; rw [if_pos (Nat.le_refl _)]
@[simp] theorem gcx_same (c : String) (m : Mem) : gcX m.length c m = .exc c m := by unfold gcX; rw [if_pos (Nat.le_refl _)]
/-! ### what are no wheels -/
@[simp] theorem ix_3n (i : Nat) (h : i < 3) : ixD 3 (i : Int) = some i := ixD_nat h
/-! ### what are no rows -/
@[simp] theorem rep_flat1 (c k : Nat) : (List.replicate k [c]).flatten = List.replicate k c := flat_rep1 c k
end LW
namespace LW
/-! ### the other laws' own wheels, stands, rows -/
def sg40 : List Nat := [97, 98, 99, 100, 101, 102, 103, 104, 105, 106, 107, 108, 109, 110, 111, 112, 113, 114, 115, 116, 117, 118, 119, 120, 121, 122, 48, 49, 50, 51, 52, 53, 54, 55, 56, 57, 32, 46, 44, 45]
theorem wheels40_spec {ns : List Int} {t most : Nat} (h2 : 2 ≤ most) (hk : most ≤ 30) (ht : t < 800000) :
    ∃ (a b : List Nat) (n : Int) (t' : Nat), m_law_wheels_k01 [.scr ns, .ref 0, .int most] [twn t] = .ok (whD a b n) [twn t'] ∧ t' ≤ t + 70 ∧ a.length ≤ most ∧ Whl a b n := by
  have hp : (0 : Int) < (most : Int) - 1 := by omega
  have d1 := draw_spec (ns := ns) (t := t) (r := []) hp (by omega)
  have lo := dr_lo ns (t + 1) hp
  have hi := dr_hi ns (t + 1) hp
  generalize dr ns (t + 1) ((most : Int) - 1) = j at *
  obtain ⟨k, hk2⟩ : ∃ k : Nat, 2 + j = (k : Int) := ⟨(2 + j).toNat, by omega⟩
  have hk3 : 2 ≤ k ∧ k ≤ most := by omega
  have key : ∃ d m', m_law_wheels_k01 [.scr ns, .ref 0, .int most] [twn t] = .ok d m' ∧ ∃ (a b : List Nat) (n : Int) (t' : Nat), d = whD a b n ∧ m' = [twn t'] ∧ t' ≤ t + 70 ∧ a.length ≤ most ∧ Whl a b n := by
    refine fn_wpE ?_
    have l0 : 0 ≤ lim := Nat.zero_le _
    have i2 : inR 2 = true := inR_of (by decide) (by decide)
    have ik : inR (k : Int) = true := inR_nat (by omega)
    unfold b_law_wheels_k01
    refine Wp_seq (by simp; exact ⟨rfl, rfl⟩) ?_
    refine Wp_seq (by simp [d1, hk2]; exact ⟨rfl, rfl⟩) ?_
    refine Wp_seq (by simp [l0]; exact ⟨rfl, rfl⟩) ?_
    refine Wp_bind (Wp_for (m1 := [twn (t + 1), .lst []]) (ds := [.int 0, .int 1]) (fun i g m => ∃ (x6 x7 x8 x9 : Option D) (ws : List (List Nat)) (t1 : Nat) (rest : Mem), ws.length = i ∧ rest.length = i ∧ t1 ≤ t + 1 + 31 * i ∧ (∀ w ∈ ws, w.length = k ∧ w.Nodup ∧ ∀ c ∈ w, c ∈ SGN) ∧
      g = [some (.scr ns), some (.ref 0), some (.int most), some (.str sg40), some (.int k), some (.ref 1), x6, x7, x8, x9] ∧ m = twn t1 :: .lst (ws.map fun w => .str w) :: rest) (by simp [i2]; rfl) ?h0 ?step ?fin)
    case h0 => exact ⟨none, none, none, none, [], t + 1, [], rfl, rfl, by omega, by simp, rfl, rfl⟩
    case step =>
      rintro i d g m hd ⟨x6, x7, x8, x9, ws, t1, rest, hw, hrest, ht1, hall, rfl, rfl⟩
      have hi : i < 2 := (List.getElem?_eq_some_iff.mp hd).1
      have d2 := draw_spec (ns := ns) (t := t1) (r := .lst (ws.map fun w => .str w) :: rest) (many := 2) (by decide) (by omega)
      refine ⟨_, _, rfl, ?_⟩
      obtain ⟨left, hleft, hll, hls⟩ : ∃ left : List Nat, (if dr ns (t1 + 1) 2 == 0 then sg40 else sg40.take (k + 3)) = left ∧ k ≤ left.length ∧ left.Sublist sg40 := by
        refine ⟨_, rfl, ?_, ?_⟩
        · split
          · simp [sg40]; omega
          · simp [sg40]; omega
        · split
          · exact List.Sublist.refl _
          · exact List.take_sublist _ _
      have hnl : left.Nodup := hls.nodup (by decide)
      have hsl : ∀ c ∈ left, c ∈ SGN := fun c hc => hls.subset hc
      have hlen : left.length ≤ 40 := hls.length_le
      refine Wp_seq (g1 := [some (.scr ns), some (.ref 0), some (.int most), some (.str sg40), some (.int k), some (.ref 1), some d, some (.ref (rest.length + 2)), x8, x9]) (m1 := twn (t1 + 1) :: .lst (ws.map fun w => .str w) :: (rest ++ [MO.lst (left.map fun c => .str [c])])) ?_ ?_
      · have c1 : cutD sg40 none (some ((k : Int) + 3)) = sg40.take (k + 3) := cutD_to sg40 (k + 3)
        rw [← hleft]
        by_cases q : dr ns (t1 + 1) 2 = 0
        · simp [d2, q]
        · simp [d2, q, c1]
      refine Wp_seq (by simp; exact ⟨rfl, rfl⟩) ?_
      refine Wp_bind (Wp_for (m1 := twn (t1 + 1) :: .lst (ws.map fun w => .str w) :: (rest ++ [MO.lst (left.map fun c => .str [c])])) (ds := (List.range k).map fun (k : Nat) => D.int k) (fun i2 g m => ∃ (x9 : Option D) (made lft : List Nat), made.length = i2 ∧ (made ++ lft).Perm left ∧
        g = [some (.scr ns), some (.ref 0), some (.int most), some (.str sg40), some (.int k), some (.ref 1), some d, some (.ref (rest.length + 2)), some (.str made), x9] ∧ m = twn (t1 + 1 + i2) :: .lst (ws.map fun w => .str w) :: (rest ++ [MO.lst (lft.map fun c => .str [c])])) (by simp [ik]) ?h1 ?step1 ?fin1)
      case h1 => exact ⟨x9, [], left, rfl, by simp, rfl, rfl⟩
      case step1 =>
        rintro i2 d2 g m hd2 ⟨x9, made, lft, hl, hpm, rfl, rfl⟩
        have hi3 : i2 < k := by
          have := (List.getElem?_eq_some_iff.mp hd2).1
          simpa using this
        have hlen2 : made.length + lft.length = left.length := by have := hpm.length_eq; simpa using this
        have hpos : (0 : Int) < ((lft.map fun c => D.str [c]).length : Int) := by simp; omega
        have lo := dr_lo ns (t1 + 1 + i2 + 1) hpos
        have hi2 := dr_hi ns (t1 + 1 + i2 + 1) hpos
        have hdr := draw_spec (ns := ns) (r := .lst (ws.map fun w => .str w) :: (rest ++ [MO.lst (lft.map fun c => .str [c])])) (t := t1 + 1 + i2) hpos (by omega)
        generalize hj : (dr ns (t1 + 1 + i2 + 1) ((lft.map fun c => D.str [c]).length : Int)) = j at *
        have hlt : j.toNat < lft.length := by simp at hi2; omega
        have ix : ixD lft.length j = some j.toNat := ixD_int lo (by simpa using hi2)
        refine ⟨_, _, rfl, Wp_of (o := .nx [some (.scr ns), some (.ref 0), some (.int most), some (.str sg40), some (.int k), some (.ref 1), some d, some (.ref (rest.length + 2)), some (.str (made ++ [lft[j.toNat]])), some d2]) (m1 := twn (t1 + 1 + i2 + 1) :: .lst (ws.map fun w => .str w) :: (rest ++ [MO.lst ((lft.eraseIdx j.toNat).map fun c => .str [c])])) ?_ ⟨_, _, _, ?_, ?_, rfl, rfl⟩⟩
        · have lm : made.length + 1 ≤ lim := by unfold lim; omega
          have ll : lft.length ≤ lim := by unfold lim; omega
          simp at hdr
          simp [hdr, ix, hlt, lm, ll, eraseIdx_map]
        · simp [hl]
        · have p1 : (lft[j.toNat] :: lft.eraseIdx j.toNat).Perm lft := erase_perm hlt
          have p2 : (made ++ [lft[j.toNat]] ++ lft.eraseIdx j.toNat).Perm (made ++ lft) := by
            rw [List.append_assoc]
            exact List.Perm.append_left made (by simpa using p1)
          exact p2.trans hpm
      case fin1 =>
        rintro g m ⟨x9, made, lft, hl, hpm, rfl, rfl⟩
        rw [List.length_map, List.length_range] at hl
        have nd : (made ++ lft).Nodup := hpm.nodup_iff.mpr hnl
        have lw : ws.length < lim := by unfold lim; omega
        refine Wp_of (o := .nx [some (.scr ns), some (.ref 0), some (.int most), some (.str sg40), some (.int k), some (.ref 1), some d, some (.ref (rest.length + 2)), some (.str made), x9]) (m1 := twn (t1 + 1 + k) :: .lst ((ws ++ [made]).map fun w => .str w) :: (rest ++ [MO.lst (lft.map fun c => .str [c])])) (by simp [lw]) ⟨_, _, _, _, ws ++ [made], t1 + 1 + k, rest ++ [MO.lst (lft.map fun c => .str [c])], by simp [hw], by simp [hrest], by omega, ?_, rfl, by simp⟩
        intro w hw2
        rcases List.mem_append.mp hw2 with q | q
        · exact hall w q
        · rw [List.mem_singleton.mp q]
          exact ⟨hl, (List.nodup_append.mp nd).1, fun c hc => hsl c (hpm.mem_iff.mp (List.mem_append_left _ hc))⟩
    case fin =>
      rintro g m ⟨x6, x7, x8, x9, ws, t1, rest, hw, hrest, ht1, hall, rfl, rfl⟩
      rcases ws with _ | ⟨a, _ | ⟨b, _ | ⟨_, _⟩⟩⟩ <;> simp at hw
      simp only [List.length_cons, List.length_nil] at ht1 hrest
      have d3 := draw_spec (ns := ns) (t := t1) (r := .lst [.str a, .str b] :: rest) (many := 3) (by decide) (by omega)
      have lo3 := dr_lo ns (t1 + 1) (show (0 : Int) < 3 by decide)
      have hi3 := dr_hi ns (t1 + 1) (show (0 : Int) < 3 by decide)
      have ha := hall a (by simp)
      have hb := hall b (by simp)
      have c3 : 3 ≤ lim := by unfold lim; omega
      refine Wp_of (o := .rt (whD a b (1 + dr ns (t1 + 1) 3))) (m1 := twn (t1 + 1) :: .lst [.str a, .str b] :: rest) (by simp [d3, c3]) ⟨_, [twn (t1 + 1)], .inl rfl, by simp [gcR, D.cl, D.clL], a, b, _, t1 + 1, rfl, rfl, by omega, by omega, ⟨by omega, by omega, by omega, ha.2.1, hb.2.1, ha.2.2, hb.2.2, by omega, by omega⟩⟩
  obtain ⟨d, m', e, a, b, n, t', rfl, rfl, r⟩ := key
  exact ⟨a, b, n, t', e, r⟩
end LW
namespace LW
theorem pick_str {ns : List Int} {t : Nat} {r : Mem} {s : List Nat} (h : s ≠ []) (ht : t < 1000000) : ∃ c ∈ s, m_law_pick [.scr ns, .ref 0, .str s] (twn t :: r) = .ok (.str [c]) (twn (t + 1) :: r) := by
  have hp : (0 : Int) < (s.length : Int) := by cases s <;> simp_all <;> omega
  have l := dr_lo ns (t + 1) hp
  have u := dr_hi ns (t + 1) hp
  have hd := draw_spec (ns := ns) (r := r) hp ht
  have hlt : (dr ns (t + 1) s.length).toNat < s.length := by omega
  have ix := ixD_int l u
  refine ⟨s[(dr ns (t + 1) s.length).toNat], List.getElem_mem _, ?_⟩
  simp [m_law_pick, b_law_pick, fnS, hd, ix, gcR, hlt]
/-- a draw as a number below -/
theorem draw_nat {ns : List Int} {t : Nat} {r : Mem} {many : Nat} (h : 0 < many) (ht : t < 1000000) : ∃ k : Nat, k < many ∧ m_law_draw [.scr ns, .ref 0, .int many] (twn t :: r) = .ok (.int k) (twn (t + 1) :: r) := by
  have hp : (0 : Int) < (many : Int) := by omega
  have l := dr_lo ns (t + 1) hp
  have u := dr_hi ns (t + 1) hp
  have hd := draw_spec (ns := ns) (r := r) hp ht
  refine ⟨(dr ns (t + 1) many).toNat, by omega, ?_⟩
  rw [hd, show (((dr ns (t + 1) many).toNat : Nat) : Int) = dr ns (t + 1) many by omega]
theorem go_loop {a b : List Nat} {n : Int} (h : Whl a b n) {s : Std} (hp : s.p < a.length) {c : Nat} (hc : IsPul c) (m : Mem) : m_law_pulse_k02 [whD a b n, stD s, .str [c]] m = .ok (.tup [stD (pul a b n s c).1, .str (pul a b n s c).2]) m := by
  have l2 : 2 ≤ lim := by unfold lim; omega
  have l3 : 3 ≤ lim := by unfold lim; omega
  have la' : 0 < a.length := by omega
  have hb : s.p < b.length := by rw [h.same]; exact hp
  have g1 := big_of (i := (a.length : Int)) (by omega) (by have := h.hi; omega)
  have gp : (s.p + 1) % a.length = if s.p + 1 < a.length then s.p + 1 else 0 := by
    split
    · rw [Nat.mod_eq_of_lt (by assumption)]
    · rw [show s.p + 1 = a.length by omega, Nat.mod_self]
  rcases hc with rfl | rfl | rfl | rfl
  · by_cases h0 : s.p = 0
    · have q1 : ((1 : Int) < (a.length : Int)) := by have := h.lo; omega
      have q2 : (1 : Nat) % a.length = 1 := Nat.mod_eq_of_lt (by have := h.lo; omega)
      by_cases q : (a.length : Int) * n ≤ s.i
      · simp [m_law_pulse_k02, b_law_pulse_k02, fnS, h0, q, g1, pul, l2, gcR]
      · simp [m_law_pulse_k02, b_law_pulse_k02, fnS, h0, q, g1, pul, l2, l3, gcR, q1, q2]
    · have hq : ((s.p : Int) == 0) = false := by simp; omega
      by_cases q : s.p + 1 < a.length
      · have q' : (s.p : Int) + 1 < (a.length : Int) := by omega
        simp [m_law_pulse_k02, b_law_pulse_k02, fnS, h0, hq, pul, l2, l3, gcR, q', gp, q]
      · have q' : ¬ (s.p : Int) + 1 < (a.length : Int) := by omega
        simp [m_law_pulse_k02, b_law_pulse_k02, fnS, h0, hq, pul, l2, l3, gcR, q', gp, q]
  · cases hf : s.f
    · simp [m_law_pulse_k02, b_law_pulse_k02, fnS, pul, l2, l3, gcR, hf, ixD_nat hp, List.getElem?_eq_getElem hp]
    · simp [m_law_pulse_k02, b_law_pulse_k02, fnS, pul, l2, l3, gcR, hf, ixD_nat hb, List.getElem?_eq_getElem hb]
  · simp [m_law_pulse_k02, b_law_pulse_k02, fnS, pul, l2, l3, gcR]
  · simp [m_law_pulse_k02, b_law_pulse_k02, fnS, pul, l2, l3, gcR]
theorem run_take_succ {a b : List Nat} {n : Int} {s : Std} {row : List Nat} {i : Nat} (h : i < row.length) : run a b n s (row.take (i + 1)) = ((pul a b n (run a b n s (row.take i)).1 (row.getD i 0)).1, (run a b n s (row.take i)).2 ++ (pul a b n (run a b n s (row.take i)).1 (row.getD i 0)).2) := by
  rw [take_succ' h, run_append]
  simp [run]
theorem law_go_spec {a b : List Nat} {n : Int} (h : Whl a b n) {s : Std} (hp : s.p < a.length) {row : List Nat} (hr : ∀ c ∈ row, IsPul c) (hl : row.length ≤ 10000) (m : Mem) : m_law_go [whD a b n, stD s, .str row] m = .ok (.tup [stD (run a b n s row).1, .str (run a b n s row).2]) m := by
  refine fn_wp ?_
  unfold b_law_go
  have l2 : 2 ≤ lim := by unfold lim; omega
  refine Wp_seq (by simp; exact ⟨rfl, rfl⟩) ?_
  refine Wp_bind (Wp_for (m1 := m) (ds := row.map fun c => .str [c]) (fun i g m' => ∃ x4 x5, g = [some (whD a b n), some (stD (run a b n s (row.take i)).1), some (.str row), some (.str (run a b n s (row.take i)).2), x4, x5] ∧ m' = m) (by simp) ⟨none, none, rfl, rfl⟩ ?step ?fin)
  case step =>
    rintro i d g m' hd ⟨x4, x5, rfl, rfl⟩
    have hi : i < row.length := by
      have := (List.getElem?_eq_some_iff.mp hd).1
      simpa using this
    have hde : d = .str [row.getD i 0] := by
      rw [List.getElem?_map, List.getElem?_eq_getElem hi] at hd
      rw [List.getD_eq_getElem?_getD, List.getElem?_eq_getElem hi]
      exact (Option.some.inj hd).symm
    subst hde
    have pe := go_loop h (run_lt (b := b) (n := n) (row.take i) s hp) (row_pul hr hi) m'
    have rl := run_len (a := a) (b := b) (n := n) (row.take i) s
    have pl := pul_len (a := a) (b := b) (n := n) (s := (run a b n s (row.take i)).1) (c := row.getD i 0)
    have l : (run a b n s (row.take i)).2.length + (pul a b n (run a b n s (row.take i)).1 (row.getD i 0)).2.length ≤ lim := by
      rw [List.length_take] at rl
      unfold lim
      omega
    refine ⟨_, _, rfl, Wp_of (o := .nx [some (whD a b n), some (stD (pul a b n (run a b n s (row.take i)).1 (row.getD i 0)).1), some (.str row), some (.str ((run a b n s (row.take i)).2 ++ (pul a b n (run a b n s (row.take i)).1 (row.getD i 0)).2)), some (.str [row.getD i 0]), some (.str (pul a b n (run a b n s (row.take i)).1 (row.getD i 0)).2)]) (m1 := m') ?_ ⟨_, _, by rw [run_take_succ hi], rfl⟩⟩
    simp [pe, l, -List.getD_eq_getElem?_getD]
  case fin =>
    rintro g m' ⟨x4, x5, rfl, rfl⟩
    rw [List.length_map, List.take_length]
    exact Wp_of (o := .rt _) (m1 := m') (by simp [l2]) ⟨.inl rfl, gc_same _ _⟩
/-- a good stand: within what is handed in -/
def Std.ok (a : List Nat) (n : Int) (s : Std) : Prop := s.p < a.length ∧ (s.i : Int) ≤ a.length * (n + 1)
theorem is_stand_spec {a b : List Nat} {n : Int} (h : Whl a b n) (s : Std) (m : Mem) : m_is_stand [whD a b n, stD s] m = .ok (.bl (decide (s.p < a.length ∧ (s.i : Int) ≤ a.length * (n + 1)))) m := by
  have g1 := big_of (i := (a.length : Int)) (by omega) (by have := h.hi; omega)
  have l2 : 2 ≤ lim := by unfold lim; omega
  by_cases h1 : s.p < a.length
  · have h1' : (s.p : Int) ≤ (a.length : Int) - 1 := by omega
    cases hf : s.f <;> simp [m_is_stand, b_is_stand, fnS, h1, h1', g1, l2, hf]
  · have h1' : ¬ (s.p : Int) ≤ (a.length : Int) - 1 := by omega
    simp [m_is_stand, b_is_stand, fnS, h1, h1']
theorem need_stand_spec {a b : List Nat} {n : Int} (h : Whl a b n) {s : Std} (hs : s.ok a n) (m : Mem) : m_need_stand [whD a b n, stD s] m = .ok .non m := by
  have e := is_stand_spec h s m
  rw [decide_eq_true (show s.p < a.length ∧ (s.i : Int) ≤ a.length * (n + 1) from hs)] at e
  simp [m_need_stand, b_need_stand, fnS, need_wheels_spec h m, e]
theorem stand_k02_spec {ns : List Int} {t : Nat} {r : Mem} {a b : List Nat} {n : Int} (h : Whl a b n) (ht : t < 900000) : ∃ s : Std, s.ok a n ∧ m_law_stand_k02 [.scr ns, .ref 0, whD a b n] (twn t :: r) = .ok (stD s) (twn (t + 4) :: r) := by
  have g1 := big_of (i := (a.length : Int)) (by omega) (by have := h.hi; omega)
  have hlo := h.lo
  have hn1 := h.n1
  have c3 : 3 ≤ lim := by unfold lim; omega
  obtain ⟨q, hq⟩ : ∃ q : Nat, (q : Int) = a.length * (n + 1) + 1 := ⟨(a.length * (n + 1) + 1).toNat, by
    have : 0 ≤ (a.length : Int) * (n + 1) := Int.mul_nonneg (by omega) (by omega)
    omega⟩
  have hge : (a.length : Int) * 2 ≤ a.length * (n + 1) := Int.mul_le_mul_of_nonneg_left (by omega) (by omega)
  obtain ⟨x, hx, e1⟩ := pick_spec (ns := ns) (t := t) (r := r) (xs := [.int 1, .int ((a.length : Int) + 1), .int (a.length * (n + 1) + 1)]) (by simp) (by omega)
  obtain ⟨k, rfl, hk0, hk1⟩ : ∃ k : Nat, x = .int k ∧ 0 < k ∧ k ≤ q := by
    simp only [List.mem_cons, List.not_mem_nil, or_false] at hx
    rcases hx with rfl | rfl | rfl
    · exact ⟨1, rfl, by omega, by omega⟩
    · exact ⟨a.length + 1, rfl, by omega, by omega⟩
    · exact ⟨q, by rw [hq], by omega, by omega⟩
  obtain ⟨i, hi, e2⟩ := draw_nat (ns := ns) (t := t + 1) (r := r) hk0 (by omega)
  obtain ⟨p, hp, e3⟩ := draw_nat (ns := ns) (t := t + 1 + 1) (r := r) (many := a.length) (by omega) (by omega)
  obtain ⟨c, hc, e4⟩ := pick_str (ns := ns) (t := t + 1 + 1 + 1) (r := r) (s := [108, 102]) (by simp) (by omega)
  obtain ⟨f, rfl⟩ : ∃ f, c = wc f := by
    simp only [List.mem_cons, List.not_mem_nil, or_false] at hc
    rcases hc with rfl | rfl
    · exact ⟨false, rfl⟩
    · exact ⟨true, rfl⟩
  refine ⟨⟨p, f, i⟩, ⟨hp, by show (i : Int) ≤ _; omega⟩, ?_⟩
  simp only [wc] at e4
  simp [m_law_stand_k02, b_law_stand_k02, fnS, g1, c3, e1, e2, e3, e4, gcR]
end LW
namespace LW
theorem pul_app {x y : List Nat} (hx : ∀ c ∈ x, IsPul c) (hy : ∀ c ∈ y, IsPul c) : ∀ c ∈ x ++ y, IsPul c := fun c hc => (List.mem_append.mp hc).elim (hx c) (hy c)
theorem pul_rep {c : Nat} (hc : IsPul c) (k : Nat) : ∀ d ∈ List.replicate k c, IsPul d := fun d hd => by rw [List.eq_of_mem_replicate hd]; exact hc
end LW
/-! PuR: a search level by level, in plain Lean. -/
namespace LW
structure Sea (S : Type) where
  goal : S → Bool
  hit : S → Nat → Bool
  nxt : S → Nat → Option S
def pls : List Nat := [115, 112, 108, 102]
section
variable {S : Type} [DecidableEq S] (B : Sea S)
def bfP (row : List Nat) (s : S) : List Nat → List S → List (List Nat × S) → Sum (List Nat) (List S × List (List Nat × S))
  | [], K, L => .inr (K, L)
  | c :: cs, K, L => if B.hit s c = true then .inl (row ++ [c]) else match B.nxt s c with
    | none => bfP row s cs K L
    | some s' => if s' ∈ K then bfP row s cs K L else bfP row s cs (K ++ [s']) (L ++ [(row ++ [c], s')])
def bfR : List (List Nat × S) → List S → List (List Nat × S) → Sum (List Nat) (List S × List (List Nat × S))
  | [], K, L => .inr (K, L)
  | x :: rs, K, L => if B.goal x.2 = true then .inl x.1 else match bfP B x.1 x.2 pls K L with
    | .inl r => .inl r
    | .inr (K', L') => bfR rs K' L'
/-- where a row leads, none where it is hit or can't go on -/
def go : S → List Nat → Option S
  | s, [] => some s
  | s, c :: r => if B.hit s c = true then none else (B.nxt s c).bind fun s' => go s' r
variable {B}
theorem go_append : ∀ (r q : List Nat) (s : S), go B s (r ++ q) = (go B s r).bind fun s' => go B s' q
  | [], q, s => rfl
  | c :: r, q, s => by
    simp only [List.cons_append, go]
    split
    · rfl
    · cases B.nxt s c with
      | none => rfl
      | some s' => exact go_append r q s'
theorem go_last {r : List Nat} {c : Nat} {s t u : S} (h : go B s r = some t) (hh : B.hit t c = false) (hn : B.nxt t c = some u) : go B s (r ++ [c]) = some u := by
  rw [go_append, h]
  simp [go, hh, hn]
theorem go_snoc {r : List Nat} {c : Nat} {s u : S} (h : go B s (r ++ [c]) = some u) : ∃ t, go B s r = some t ∧ B.hit t c = false ∧ B.nxt t c = some u := by
  rw [go_append] at h
  cases q : go B s r with
  | none => rw [q] at h; cases h
  | some t =>
    rw [q] at h
    simp only [Option.bind_some, go] at h
    cases hh : B.hit t c with
    | true => rw [hh] at h; simp at h
    | false =>
      rw [hh] at h
      simp only [Bool.false_eq_true, if_false] at h
      cases hn : B.nxt t c with
      | none => rw [hn] at h; cases h
      | some w =>
        rw [hn] at h
        cases h
        exact ⟨t, rfl, hh, hn⟩
/-- looked at through and through: nothing is found there, all that follows is known -/
def Exp (B : Sea S) (K : List S) (s : S) : Prop := B.goal s = false ∧ ∀ c ∈ pls, B.hit s c = false ∧ ∀ t, B.nxt s c = some t → t ∈ K
theorem Exp.mono {K K' : List S} {s : S} (h : Exp B K s) (hk : ∀ x ∈ K, x ∈ K') : Exp B K' s := ⟨h.1, fun c hc => ⟨(h.2 c hc).1, fun t ht => hk t ((h.2 c hc).2 t ht)⟩⟩
theorem bfP_r {row : List Nat} {s : S} : ∀ (cs : List Nat) (K : List S) (L : List (List Nat × S)) (K' : List S) (L' : List (List Nat × S)), bfP B row s cs K L = .inr (K', L') →
    (∀ x ∈ K, x ∈ K') ∧ (∀ x ∈ L', x ∈ L ∨ ∃ c ∈ cs, x.1 = row ++ [c] ∧ B.hit s c = false ∧ B.nxt s c = some x.2) ∧ (∀ x ∈ L, x ∈ L') ∧ (∀ y ∈ K', y ∈ K ∨ ∃ r, (r, y) ∈ L') ∧ (∀ c ∈ cs, B.hit s c = false ∧ ∀ t, B.nxt s c = some t → t ∈ K') ∧ (K.Nodup → K'.Nodup) ∧ K'.length + L.length = K.length + L'.length
  | [], K, L, K', L', h => by
    cases h
    exact ⟨fun _ h => h, fun _ h => .inl h, fun _ h => h, fun _ h => .inl h, fun c hc => by simp at hc, fun h => h, rfl⟩
  | c :: cs, K, L, K', L', h => by
    rw [bfP] at h
    split at h
    · cases h
    · rename_i hh
      have hh : B.hit s c = false := by simpa using hh
      cases hn : B.nxt s c with
      | none =>
        rw [hn] at h
        obtain ⟨h1, h2, h3, h4, h5, h6, h7⟩ := bfP_r cs K L K' L' h
        refine ⟨h1, fun x hx => (h2 x hx).imp id fun ⟨d, hd, q⟩ => ⟨d, List.mem_cons_of_mem _ hd, q⟩, h3, h4, fun d hd => ?_, h6, h7⟩
        rcases List.mem_cons.mp hd with rfl | hd
        · exact ⟨hh, fun t ht => by rw [hn] at ht; cases ht⟩
        · exact h5 d hd
      | some s' =>
        rw [hn] at h
        dsimp only at h
        split at h
        · rename_i hk
          obtain ⟨h1, h2, h3, h4, h5, h6, h7⟩ := bfP_r cs K L K' L' h
          refine ⟨h1, fun x hx => (h2 x hx).imp id fun ⟨d, hd, q⟩ => ⟨d, List.mem_cons_of_mem _ hd, q⟩, h3, h4, fun d hd => ?_, h6, h7⟩
          rcases List.mem_cons.mp hd with rfl | hd
          · exact ⟨hh, fun t ht => by rw [hn] at ht; cases ht; exact h1 _ hk⟩
          · exact h5 d hd
        · rename_i hk
          obtain ⟨h1, h2, h3, h4, h5, h6, h7⟩ := bfP_r cs (K ++ [s']) (L ++ [(row ++ [c], s')]) K' L' h
          refine ⟨fun x hx => h1 x (List.mem_append_left _ hx), fun x hx => ?_, fun x hx => h3 x (List.mem_append_left _ hx), fun y hy => ?_, fun d hd => ?_, fun nd => h6 ?_, by simp at h7; omega⟩
          · rcases h2 x hx with q | ⟨d, hd, q⟩
            · rcases List.mem_append.mp q with q | q
              · exact .inl q
              · rw [List.mem_singleton.mp q]
                exact .inr ⟨c, List.mem_cons_self, rfl, hh, hn⟩
            · exact .inr ⟨d, List.mem_cons_of_mem _ hd, q⟩
          · rcases h4 y hy with q | q
            · rcases List.mem_append.mp q with q | q
              · exact .inl q
              · rw [List.mem_singleton.mp q]
                exact .inr ⟨row ++ [c], h3 _ (List.mem_append_right _ (List.mem_singleton.mpr rfl))⟩
            · exact .inr q
          · rcases List.mem_cons.mp hd with rfl | hd
            · exact ⟨hh, fun t ht => by rw [hn] at ht; cases ht; exact h1 _ (List.mem_append_right _ (List.mem_singleton.mpr rfl))⟩
            · exact h5 d hd
          · rw [List.nodup_append]
            refine ⟨nd, by simp, fun x hx y hy => ?_⟩
            rw [List.mem_singleton.mp hy]
            exact fun e => hk (e ▸ hx)
theorem bfR_r : ∀ (rows : List (List Nat × S)) (K : List S) (L : List (List Nat × S)) (K' : List S) (L' : List (List Nat × S)), bfR B rows K L = .inr (K', L') →
    (∀ x ∈ K, x ∈ K') ∧ (∀ x ∈ L', x ∈ L ∨ ∃ y ∈ rows, ∃ c ∈ pls, x.1 = y.1 ++ [c] ∧ B.hit y.2 c = false ∧ B.nxt y.2 c = some x.2) ∧ (∀ x ∈ L, x ∈ L') ∧ (∀ y ∈ K', y ∈ K ∨ ∃ r, (r, y) ∈ L') ∧ (∀ y ∈ rows, Exp B K' y.2) ∧ (K.Nodup → K'.Nodup) ∧ K'.length + L.length = K.length + L'.length
  | [], K, L, K', L', h => by
    cases h
    exact ⟨fun _ h => h, fun _ h => .inl h, fun _ h => h, fun _ h => .inl h, fun c hc => by simp at hc, fun h => h, rfl⟩
  | x :: rs, K, L, K', L', h => by
    rw [bfR] at h
    split at h
    · cases h
    · rename_i hg
      have hg : B.goal x.2 = false := by simpa using hg
      split at h
      · cases h
      · rename_i K1 L1 hp
        obtain ⟨a1, a2, a3, a4, a5, a6, a7⟩ := bfP_r pls K L K1 L1 hp
        obtain ⟨b1, b2, b3, b4, b5, b6, b7⟩ := bfR_r rs K1 L1 K' L' h
        refine ⟨fun y hy => b1 y (a1 y hy), fun y hy => ?_, fun y hy => b3 y (a3 y hy), fun y hy => ?_, fun y hy => ?_, fun nd => b6 (a6 nd), by omega⟩
        · rcases b2 y hy with q | ⟨z, hz, q⟩
          · rcases a2 y q with q | ⟨c, hc, q⟩
            · exact .inl q
            · exact .inr ⟨x, List.mem_cons_self, c, hc, q⟩
          · exact .inr ⟨z, List.mem_cons_of_mem _ hz, q⟩
        · rcases b4 y hy with q | q
          · rcases a4 y q with q | ⟨r, q⟩
            · exact .inl q
            · exact .inr ⟨r, b3 _ q⟩
          · exact .inr q
        · rcases List.mem_cons.mp hy with rfl | hy
          · exact ⟨hg, fun c hc => ⟨(a5 c hc).1, fun t ht => b1 t ((a5 c hc).2 t ht)⟩⟩
          · exact b5 y hy
abbrev Pls (r : List Nat) : Prop := ∀ c ∈ r, c ∈ pls
/-- ahead of level n -/
structure BInv (B : Sea S) (s0 : S) (n : Nat) (K : List S) (rows : List (List Nat × S)) : Prop where
  rw : ∀ x ∈ rows, x.1.length = n ∧ Pls x.1 ∧ go B s0 x.1 = some x.2
  ex : ∀ s ∈ K, (∃ r, (r, s) ∈ rows) ∨ Exp B K s
  cv : ∀ r s, Pls r → r.length ≤ n → go B s0 r = some s → s ∈ K
  no : ∀ r s, Pls r → r.length < n → go B s0 r = some s → B.goal s = false ∧ ∀ c ∈ pls, B.hit s c = false
  re : ∀ s ∈ K, ∃ r, Pls r ∧ go B s0 r = some s
  nd : K.Nodup
theorem BInv.start (s0 : S) : BInv B s0 0 [s0] [([], s0)] where
  rw := fun x hx => by rw [List.mem_singleton.mp hx]; exact ⟨rfl, by simp [Pls], rfl⟩
  ex := fun s hs => by rw [List.mem_singleton.mp hs]; exact .inl ⟨[], List.mem_singleton.mpr rfl⟩
  cv := fun r s _ hl h => by
    have : r = [] := List.eq_nil_of_length_eq_zero (by omega)
    subst this
    cases h
    exact List.mem_singleton.mpr rfl
  no := fun r s _ hl _ => by omega
  re := fun s hs => by rw [List.mem_singleton.mp hs]; exact ⟨[], by simp [Pls], rfl⟩
  nd := by simp
theorem snoc_of {r : List Nat} {n : Nat} (h : r.length = n + 1) : ∃ q c, r = q ++ [c] ∧ q.length = n := by
  rcases List.eq_nil_or_concat r with rfl | ⟨q, c, rfl⟩
  · simp at h
  · exact ⟨q, c, by simp, by simpa using h⟩
theorem BInv.step {s0 : S} {n : Nat} {K K' : List S} {rows L' : List (List Nat × S)} (h : BInv B s0 n K rows) (e : bfR B rows K [] = .inr (K', L')) : BInv B s0 (n + 1) K' L' := by
  obtain ⟨a1, a2, a3, a4, a5, a6, a7⟩ := bfR_r rows K [] K' L' e
  have exK : ∀ s ∈ K, Exp B K' s := fun s hs => by
    rcases h.ex s hs with ⟨r, hr⟩ | q
    · exact a5 _ hr
    · exact q.mono a1
  have rw' : ∀ x ∈ L', x.1.length = n + 1 ∧ Pls x.1 ∧ go B s0 x.1 = some x.2 := fun x hx => by
    rcases a2 x hx with q | ⟨y, hy, c, hc, e1, e2, e3⟩
    · simp at q
    · obtain ⟨r1, r2, r3⟩ := h.rw y hy
      rw [e1]
      refine ⟨by simp [r1], fun d hd => ?_, go_last r3 e2 e3⟩
      rcases List.mem_append.mp hd with q | q
      · exact r2 d q
      · rw [List.mem_singleton.mp q]; exact hc
  refine ⟨rw', fun s hs => ?_, fun r s hp hl hg => ?_, fun r s hp hl hg => ?_, fun s hs => ?_, a6 h.nd⟩
  · rcases a4 s hs with q | q
    · exact .inr (exK s q)
    · exact .inl q
  · by_cases hn : r.length ≤ n
    · exact a1 s (h.cv r s hp hn hg)
    · obtain ⟨q, c, rfl, hq⟩ := snoc_of (show r.length = n + 1 by omega)
      obtain ⟨t, g1, g2, g3⟩ := go_snoc hg
      have ht := h.cv q t (fun d hd => hp d (List.mem_append_left _ hd)) (by omega) g1
      exact ((exK t ht).2 c (hp c (List.mem_append_right _ (List.mem_singleton.mpr rfl)))).2 s g3
  · have hs := h.cv r s hp (by omega) hg
    exact ⟨(exK s hs).1, fun c hc => ((exK s hs).2 c hc).1⟩
  · rcases a4 s hs with q | ⟨r, q⟩
    · exact h.re s q
    · exact ⟨r, (rw' _ q).2.1, (rw' _ q).2.2⟩
end
end LW
/-! PuS: what is known, as a dict; two printers told apart. -/
namespace LW
/-! ### a dict of what is known -/
section
variable {S : Type} [DecidableEq S] {e : S → D}
end
/-- the memory of a search: what lies below, what is known, levels that are gone, the next level -/
def memS {S : Type} (r : Mem) (j : Nat) (e : S → D) (K : List S) (L : List D) : Mem := r ++ .gd (K.map e) (K.map fun _ => .bl true) :: (List.replicate j .gone ++ [.lst L])
section
variable {S : Type} {r : Mem} {j : Nat} {e : S → D} {K K' : List S} {L L' : List D}
@[simp] theorem memS_gd : (memS r j e K L)[r.length]? = some (.gd (K.map e) (K.map fun _ => .bl true)) := by simp [memS]
@[simp] theorem memS_l : (memS r j e K L)[r.length + 1 + j]? = some (.lst L) := by
  unfold memS
  rw [List.getElem?_append_right (by omega), show r.length + 1 + j - r.length = j + 1 by omega, List.getElem?_cons_succ, List.getElem?_append_right (by simp)]
  simp
@[simp] theorem memS_setg : (memS r j e K L).set r.length (.gd (K'.map e) (K'.map fun _ => .bl true)) = memS r j e K' L := by simp [memS]
@[simp] theorem memS_setl : (memS r j e K L).set (r.length + 1 + j) (.lst L') = memS r j e K L' := by
  unfold memS
  rw [List.set_append_right _ _ (by omega), show r.length + 1 + j - r.length = j + 1 by omega, List.set_cons_succ, List.set_append_right _ _ (by simp)]
  simp
end
/-! ### stands -/
theorem wc_inj {f g : Bool} : wc f = wc g ↔ f = g := by cases f <;> cases g <;> simp
/-! ### two printers -/
theorem pul_out {a b : List Nat} {n : Int} (s : Std) (c : Nat) : (pul a b n s c).2.length = if c = 112 then 1 else 0 := by
  unfold pul
  split
  · rename_i h
    subst h
    split <;> simp
  · split
    · rename_i h; simp [h]
    · rename_i h; simp [h]
structure Wl where
  a : List Nat
  b : List Nat
  n : Int
abbrev Wl.pul (w : Wl) (s : Std) (c : Nat) : Std × List Nat := LW.pul w.a w.b w.n s c
abbrev Wl.run (w : Wl) (s : Std) (r : List Nat) : Std × List Nat := LW.run w.a w.b w.n s r
abbrev Wl.D (w : Wl) : D := whD w.a w.b w.n
abbrev Wl.ok (w : Wl) : Prop := Whl w.a w.b w.n
theorem run_snoc (w : Wl) (s : Std) (r : List Nat) (c : Nat) : (w.run s (r ++ [c])).2 = (w.run s r).2 ++ (w.pul (w.run s r).1 c).2 := by
  simp [Wl.run, run_append, run]
/-- told apart by a row, as short as can be; or by none -/
def ApR (v w : Wl) (r : List Nat) : Prop := Pls r ∧ (v.run st0 r).2 ≠ (w.run st0 r).2 ∧ ∀ q, Pls q → q.length < r.length → (v.run st0 q).2 = (w.run st0 q).2
end LW
/-! PuT: apart_row does the search. -/
namespace LW
section
variable {S : Type} {r : Mem} {j : Nat} {e : S → D} {K : List S} {L : List D}
end
section
variable {v w : Wl} {r : Mem} {j : Nat} {rw : Option D}
theorem pul_pls {c : Nat} (h : IsPul c) : c ∈ pls := by
  rcases h with rfl | rfl | rfl | rfl <;> simp [pls]
theorem shL_of {k : Nat} : ∀ {ds : List D}, (∀ d ∈ ds, D.sh k d = true) → D.shL k ds = true
  | [], _ => by simp
  | d :: ds, h => by simp [h d (by simp), shL_of fun e he => h e (List.mem_cons_of_mem _ he)]
@[simp] theorem eqvL_nilr (d : D) (ds : List D) : D.eqvL (d :: ds) [] = false := by simp [D.eqvL]
end
end LW
namespace LW
/-- a bound for idle steps -/
def Wl.B (w : Wl) : Nat := (w.a.length * w.n).toNat
end LW
/-! PuV: where a row prints, apart from what stands there; changed wheels. -/
namespace LW
def stp (l : Nat) (n : Int) (s : Std) (c : Nat) : Std :=
  if c = 115 then (if s.p = 0 ∧ (l : Int) * n ≤ s.i then s else ⟨(s.p + 1) % l, s.f, s.i + 1⟩) else if c = 112 then ⟨s.p, s.f, 0⟩ else ⟨s.p, decide (c = 102), 0⟩
def stps (l : Nat) (n : Int) : Std → List Nat → Std
  | s, [] => s
  | s, c :: r => stps l n (stp l n s c) r
/-- the spots at which a row prints -/
def spo (l : Nat) (n : Int) : Std → List Nat → List (Nat × Bool)
  | _, [] => []
  | s, c :: r => (if c = 112 then [(s.p, s.f)] else []) ++ spo l n (stp l n s c) r
/-- the sign at a spot -/
def sgAt (a b : List Nat) (x : Nat × Bool) : Nat := (if x.2 then b else a).getD x.1 0
theorem pul_stp (a b : List Nat) (n : Int) (s : Std) (c : Nat) : pul a b n s c = (stp a.length n s c, if c = 112 then [sgAt a b (s.p, s.f)] else []) := by
  unfold pul stp sgAt
  by_cases h1 : c = 115
  · subst h1
    simp only [if_true, show ¬ (115 : Nat) = 112 by decide, if_false]
    split <;> rfl
  · rw [if_neg h1, if_neg h1]
    by_cases h2 : c = 112
    · simp [h2]
    · simp [h2]
theorem run_spo (a b : List Nat) (n : Int) : ∀ (r : List Nat) (s : Std), run a b n s r = (stps a.length n s r, (spo a.length n s r).map (sgAt a b))
  | [], s => rfl
  | c :: r, s => by
    simp only [run, run_spo a b n r, pul_stp, stps, spo, List.map_append]
    congr 2
    split <;> rfl
theorem spo_append (l : Nat) (n : Int) : ∀ (r q : List Nat) (s : Std), spo l n s (r ++ q) = spo l n s r ++ spo l n (stps l n s r) q
  | [], q, s => rfl
  | c :: r, q, s => by simp [spo, stps, spo_append l n r q]
theorem stps_append (l : Nat) (n : Int) : ∀ (r q : List Nat) (s : Std), stps l n s (r ++ q) = stps l n (stps l n s r) q
  | [], q, s => rfl
  | c :: r, q, s => by simp [stps, stps_append l n r q]
theorem shw_spo (a b : List Nat) (n : Int) (row : List Nat) : shw a b n row = (spo a.length n st0 row).map (sgAt a b) := by
  show (run a b n st0 row).2 = _
  rw [run_spo]
/-! ### wheels changed -/
/-! ### to a spot, and print there -/
theorem stps_s {l : Nat} {n : Int} (hn : 1 ≤ n) (f : Bool) : ∀ k, k < l → stps l n ⟨0, f, 0⟩ (List.replicate k 115) = ⟨k, f, k⟩
  | 0, _ => rfl
  | k + 1, h => by
    rw [List.replicate_succ', stps_append, stps_s hn f k (by omega)]
    simp only [stps, stp, if_true]
    rw [if_neg, Nat.mod_eq_of_lt h]
    rintro ⟨h1, h2⟩
    have h1 : k = 0 := h1
    have h2 : (l : Int) * n ≤ (k : Int) := h2
    have : (l : Int) * 1 ≤ l * n := Int.mul_le_mul_of_nonneg_left hn (by omega)
    omega
theorem spo_s {l : Nat} {n : Int} : ∀ (k : Nat) (s : Std), spo l n s (List.replicate k 115) = []
  | 0, s => rfl
  | k + 1, s => by
    rw [List.replicate_succ, spo, spo_s k]
    rfl
/-- the row that goes to a spot from the first stand and prints -/
def toSpot (k : Nat) (f : Bool) : List Nat := (if f then [102] else []) ++ List.replicate k 115 ++ [112]
theorem spo_to {l : Nat} {n : Int} (hn : 1 ≤ n) {k : Nat} (hk : k < l) (f : Bool) : spo l n st0 (toSpot k f) = [(k, f)] := by
  unfold toSpot
  rw [List.append_assoc, spo_append]
  have e1 : spo l n st0 (if f then [102] else []) = [] := by cases f <;> rfl
  have e2 : stps l n st0 (if f then [102] else []) = ⟨0, f, 0⟩ := by cases f <;> rfl
  rw [e1, e2, List.nil_append, spo_append, spo_s, stps_s hn f k hk]
  rfl
theorem toSpot_len (k : Nat) (f : Bool) : (toSpot k f).length ≤ k + 2 := by
  unfold toSpot
  cases f <;> simp <;> omega
theorem toSpot_pls (k : Nat) (f : Bool) : Pls (toSpot k f) := by
  intro c hc
  unfold toSpot at hc
  simp only [List.mem_append, List.mem_replicate, List.mem_singleton] at hc
  rcases hc with (hc | ⟨_, rfl⟩) | rfl
  · cases f with
    | false => simp at hc
    | true => simp at hc; subst hc; simp [pls]
  · simp [pls]
  · simp [pls]
theorem shw_to {a b : List Nat} {n : Int} (h : Whl a b n) {k : Nat} (hk : k < a.length) (f : Bool) : shw a b n (toSpot k f) = [sgAt a b (k, f)] := by
  rw [shw_spo, spo_to h.n1 hk]
  rfl
end LW
/-! PuW: the law's own search for a shortest row. -/
namespace LW
section
variable {v w : Wl} {r : Mem} {j n : Nat} {x2 x4 : Option D}
end
section
variable {v w : Wl} {r : Mem} {x2 : Option D}
end
end LW
/-! PvE: searched does the search. -/
namespace LW
section
variable {v : Wl} {text : List Nat} {r : Mem} {j : Nat} {x1 x4 : Option D}
end
end LW
/-! PuY: what a row and its tape tell: prints_of, left_open, learned. -/
namespace LW
def spD (x : Nat × Bool) : D := .tup [.int x.1, .str [if x.2 then 102 else 108]]
@[simp] theorem spD_key (x : Nat × Bool) : (spD x).tkey = true := by simp [spD, D.keyL, D.key]
section
variable {m : Mem} {k : Nat} {n : Int}
/-! ### left_open -/
end
/-! ### the book -/
section
variable {m : Mem} {x0 x1 x2 x3 x4 x8 x9 x10 x11 x12 : Option D}
end
end LW
/-! PuZ: learned, left_open, can_show over plain data. -/
namespace LW
def wl (f : Bool) : Nat := if f then 102 else 108
section
variable {m : Mem} {k : Nat} {x1 x2 x3 x4 x6 x7 x10 : Option D}
end
end LW
/-! PvB: the least row for a text. -/
namespace LW
def seg (k : Nat) (x y : Nat × Bool) : List Nat := List.replicate ((y.1 + k - x.1) % k) 115 ++ (if x.2 = y.2 then [] else [wl y.2]) ++ [112]
theorem seg_len {k : Nat} (hk : 0 < k) (x y : Nat × Bool) : (seg k x y).length ≤ k + 1 := by
  have := Nat.mod_lt (y.1 + k - x.1) hk
  unfold seg
  split <;> simp <;> omega
section
variable {m : Mem} {a b : List Nat} {n : Int}
def idx (w : List Nat) (c : Nat) : Nat := w.findIdx (· == c)
end
/-! ### the least of rows -/
def rlt (y z : List Nat) : Bool := if y.length = z.length then decide (y < z) else decide (y.length < z.length)
end LW
/-! PvC: least_row over plain data. -/
namespace LW
abbrev Rw := List ((Nat × Bool) × List Nat)
structure RwOk (k : Nat) (R : Rw) (B : Nat) : Prop where
  ne : R ≠ []
  few : R.length ≤ 2
  nd : (R.map (·.1)).Nodup
  pl : ∀ e ∈ R, e.1.1 < k
  ln : ∀ e ∈ R, e.2.length ≤ B
section
variable {M : Mem} {a b : List Nat} {n : Int} {x1 x3 : Option D}
end
/-! ### the outer walk -/
section
variable {a b : List Nat} {n : Int}
theorem idx_lt {w : List Nat} {c : Nat} (h : c ∈ w) : idx w c < w.length := List.findIdx_lt_length.mpr ⟨c, h, by simp⟩
end
end LW
/-! PuX: two different wheels are told apart by a short row. -/
namespace LW
theorem stps_k {l : Nat} {n : Nat} (hl : 0 < l) (f : Bool) : ∀ k, k ≤ l * n → stps l n ⟨0, f, 0⟩ (List.replicate k 115) = ⟨k % l, f, k⟩
  | 0, _ => by simp [stps]
  | k + 1, h => by
    rw [List.replicate_succ', stps_append, stps_k hl f k (by omega)]
    simp only [stps, stp, if_true]
    rw [if_neg]
    · congr 1
      exact Nat.mod_add_mod k l 1
    · rintro ⟨h1, h2⟩
      have h3 : ((l * n : Nat) : Int) ≤ (k : Int) := by simpa using h2
      omega
theorem stps_end {l : Nat} {n : Nat} (hl : 0 < l) (f : Bool) : stps l n ⟨0, f, 0⟩ (List.replicate (l * n + 1) 115) = ⟨0, f, (l * n : Nat)⟩ := by
  rw [List.replicate_succ', stps_append, stps_k hl f _ (Nat.le_refl _)]
  simp only [stps, stp, if_true]
  rw [if_pos]
  · simp
  · exact ⟨Nat.mul_mod_right l n, by simp⟩
theorem shw_s {a b : List Nat} {n : Int} (k : Nat) : shw a b n (List.replicate k 115 ++ [112]) = [sgAt a b ((stps a.length n st0 (List.replicate k 115)).p, (stps a.length n st0 (List.replicate k 115)).f)] := by
  rw [shw_spo, spo_append, spo_s]
  rfl
theorem sp_pls (k : Nat) : Pls (List.replicate k 115 ++ [112]) := by
  intro c hc
  simp only [List.mem_append, List.mem_replicate, List.mem_singleton] at hc
  rcases hc with ⟨_, rfl⟩ | rfl <;> simp [pls]
theorem nodup_getD {a : List Nat} (h : a.Nodup) {i j : Nat} (hi : i < a.length) (hj : j < a.length) (e : a.getD i 0 = a.getD j 0) : i = j := by
  rw [List.getD_eq_getElem?_getD, List.getD_eq_getElem?_getD, List.getElem?_eq_getElem hi, List.getElem?_eq_getElem hj] at e
  exact (List.getElem_inj h).mp e
def Tell (v w : Wl) (k : Nat) : Prop := ∃ q, Pls q ∧ q.length ≤ k ∧ shw v.a v.b v.n q ≠ shw w.a w.b w.n q
theorem Tell.symm {v w : Wl} {k : Nat} : Tell v w k → Tell w v k := fun ⟨q, h1, h2, h3⟩ => ⟨q, h1, h2, fun e => h3 e.symm⟩
theorem Tell.mono {v w : Wl} {k j : Nat} (h : k ≤ j) : Tell v w k → Tell v w j := fun ⟨q, h1, h2, h3⟩ => ⟨q, h1, by omega, h3⟩
theorem tell0 {v w : Wl} (hv : v.ok) (hw : w.ok) (h : v.a.getD 0 0 ≠ w.a.getD 0 0) : Tell v w 1 := by
  refine ⟨[112], sp_pls 0, by simp, ?_⟩
  have e1 := shw_s (a := v.a) (b := v.b) (n := v.n) 0
  have e2 := shw_s (a := w.a) (b := w.b) (n := w.n) 0
  intro e
  simp only [List.replicate_zero, List.nil_append] at e1 e2
  rw [e1, e2] at e
  simp only [stps, sgAt, st0, Bool.false_eq_true, if_false, List.cons.injEq, and_true] at e
  exact h e
theorem tell_len {v w : Wl} (hv : v.ok) (hw : w.ok) (h : v.a.length < w.a.length) : Tell v w (v.a.length + 1) := by
  by_cases h0 : v.a.getD 0 0 = w.a.getD 0 0
  case neg => exact (tell0 hv hw h0).mono (by omega)
  refine ⟨List.replicate v.a.length 115 ++ [112], sp_pls _, by simp, ?_⟩
  obtain ⟨nv, ev⟩ : ∃ k : Nat, v.n = k := ⟨v.n.toNat, by have := hv.n1; omega⟩
  obtain ⟨nw, ew⟩ : ∃ k : Nat, w.n = k := ⟨w.n.toNat, by have := hw.n1; omega⟩
  have hv1 := hv.n1; have hw1 := hw.n1; have hlo := hv.lo
  have b1 : v.a.length ≤ v.a.length * nv := Nat.le_mul_of_pos_right _ (by omega)
  have b2 : v.a.length ≤ w.a.length * nw := Nat.le_trans (by omega) (Nat.le_mul_of_pos_right w.a.length (by omega))
  rw [shw_s, shw_s, ev, ew, show st0 = ⟨0, false, 0⟩ from rfl, stps_k (by omega) false _ b1, stps_k (by omega) false _ b2, Nat.mod_self, Nat.mod_eq_of_lt h]
  simp only [sgAt, Bool.false_eq_true, if_false, ne_eq, List.cons.injEq, and_true]
  intro e
  rw [h0] at e
  have := nodup_getD hw.na (by omega) h e
  omega
theorem tell_n {v w : Wl} (hv : v.ok) (hw : w.ok) (h : v.a.length = w.a.length) (hn : v.n < w.n) : Tell v w (v.a.length * 3 + 2) := by
  by_cases h0 : v.a.getD 0 0 = w.a.getD 0 0
  case neg => exact (tell0 hv hw h0).mono (by omega)
  obtain ⟨nv, ev⟩ : ∃ k : Nat, v.n = k := ⟨v.n.toNat, by have := hv.n1; omega⟩
  obtain ⟨nw, ew⟩ : ∃ k : Nat, w.n = k := ⟨w.n.toNat, by have := hw.n1; omega⟩
  have hv1 := hv.n1; have hw1 := hw.n1; have hlo := hv.lo; have hv3 := hv.n3
  have b0 : v.a.length * nv ≤ v.a.length * 3 := Nat.mul_le_mul_left _ (by omega)
  have b1 : v.a.length * nv + v.a.length ≤ w.a.length * nw := by
    rw [← h]
    have := Nat.mul_le_mul_left v.a.length (show nv + 1 ≤ nw by omega)
    rw [Nat.mul_add] at this
    omega
  refine ⟨List.replicate (v.a.length * nv + 1) 115 ++ [112], sp_pls _, by simp; omega, ?_⟩
  rw [shw_s, shw_s, ev, ew, show st0 = ⟨0, false, 0⟩ from rfl, stps_end (by omega) false, stps_k (by omega) false _ (by omega)]
  have em : (v.a.length * nv + 1) % w.a.length = 1 := by rw [h, Nat.mul_add_mod]; exact Nat.mod_eq_of_lt (by omega)
  rw [em]
  simp only [sgAt, Bool.false_eq_true, if_false, ne_eq, List.cons.injEq, and_true]
  intro e
  rw [h0] at e
  have := nodup_getD hw.na (by omega) (by omega) e
  omega
theorem ext_getD {a b : List Nat} (h : a.length = b.length) (e : ∀ k, k < a.length → a.getD k 0 = b.getD k 0) : a = b := by
  refine List.ext_getElem h fun i h1 h2 => ?_
  have := e i h1
  rw [List.getD_eq_getElem?_getD, List.getD_eq_getElem?_getD, List.getElem?_eq_getElem h1, List.getElem?_eq_getElem h2] at this
  exact this
theorem tell_sp {v w : Wl} (hv : v.ok) (hw : w.ok) (h : v.a.length = w.a.length) {k : Nat} (hk : k < v.a.length) (f : Bool) (e : sgAt v.a v.b (k, f) ≠ sgAt w.a w.b (k, f)) : Tell v w (v.a.length + 2) := by
  refine ⟨toSpot k f, toSpot_pls k f, Nat.le_trans (toSpot_len k f) (by omega), ?_⟩
  rw [shw_to hv hk, shw_to hw (by omega)]
  simpa using e
theorem tell {v w : Wl} (hv : v.ok) (hw : w.ok) (h : v ≠ w) {k : Nat} (hk : v.a.length ≤ k) (hk2 : w.a.length ≤ k) : Tell v w (k * 3 + 2) := by
  by_cases h1 : v.a.length = w.a.length
  · by_cases h2 : v.n = w.n
    · by_cases h3 : v.a = w.a
      · by_cases h4 : v.b = w.b
        · exact absurd (by cases v; cases w; simp_all) h
        · have : ¬ ∀ k, k < v.b.length → v.b.getD k 0 = w.b.getD k 0 := fun z => h4 (ext_getD (by rw [hv.same, hw.same, h1]) z)
          obtain ⟨j, hj⟩ := Classical.not_forall.mp this
          rw [Classical.not_imp] at hj
          exact (tell_sp hv hw h1 (k := j) (by rw [← hv.same]; exact hj.1) true (by simpa [sgAt] using hj.2)).mono (by omega)
      · have : ¬ ∀ k, k < v.a.length → v.a.getD k 0 = w.a.getD k 0 := fun z => h3 (ext_getD h1 z)
        obtain ⟨j, hj⟩ := Classical.not_forall.mp this
        rw [Classical.not_imp] at hj
        exact (tell_sp hv hw h1 (k := j) hj.1 false (by simpa [sgAt] using hj.2)).mono (by omega)
    · rcases Int.lt_or_lt_of_ne h2 with h2 | h2
      · exact (tell_n hv hw h1 h2).mono (by omega)
      · exact (tell_n hw hv h1.symm h2).symm.mono (by omega)
  · rcases Nat.lt_or_lt_of_ne h1 with h1 | h1
    · exact (tell_len hv hw h1).mono (by omega)
    · exact (tell_len hw hv h1).symm.mono (by omega)
/-- a shortest row that tells two wheels apart is short -/
theorem ApR.short {v w : Wl} (hv : v.ok) (hw : w.ok) {k : Nat} (hk : v.a.length ≤ k) (hk2 : w.a.length ≤ k) {r : List Nat} (h : ApR v w r) : r.length ≤ k * 3 + 2 := by
  obtain ⟨q1, q2, q3⟩ := h
  have hne : v ≠ w := fun e => by subst e; exact q2 rfl
  obtain ⟨x, x1, x2, x3⟩ := tell hv hw hne hk hk2
  by_cases hq : x.length < r.length
  · exact absurd (q3 x x1 hq) x3
  · omega
theorem ApR.len {v w : Wl} {r q : List Nat} (h : ApR v w r) (h' : ApR v w q) : r.length = q.length := by
  rcases Nat.lt_trichotomy r.length q.length with l | l | l
  · exact absurd (h'.2.2 r h.1 l) h.2.1
  · exact l
  · exact absurd (h.2.2 q h'.1 l) h'.2.1
end LW
/-! PvD: what the least row writes, from any place; texts drawn. -/
namespace LW
theorem stps_q {l : Nat} {n : Int} (hn : 1 ≤ n) (f : Bool) {q : Nat} (hq : q < l) : ∀ j, j ≤ l → stps l n ⟨q, f, 0⟩ (List.replicate j 115) = ⟨(q + j) % l, f, j⟩
  | 0, _ => by simp [stps, Nat.mod_eq_of_lt hq]
  | j + 1, h => by
    rw [List.replicate_succ', stps_append, stps_q hn f hq j (by omega)]
    simp only [stps, stp, if_true]
    rw [if_neg]
    · congr 1
      exact Nat.mod_add_mod (q + j) l 1
    · rintro ⟨_, h2⟩
      have h2 : (l : Int) * n ≤ (j : Int) := h2
      have : (l : Int) * 1 ≤ l * n := Int.mul_le_mul_of_nonneg_left hn (by omega)
      omega
theorem seg_run {l : Nat} {n : Int} (hn : 1 ≤ n) {x y : Nat × Bool} (hx : x.1 < l) (hy : y.1 < l) (d : Nat) :
    spo l n ⟨(x.1 + d) % l, x.2, 0⟩ (seg l x y) = [((y.1 + d) % l, y.2)] ∧ stps l n ⟨(x.1 + d) % l, x.2, 0⟩ (seg l x y) = ⟨(y.1 + d) % l, y.2, 0⟩ := by
  obtain ⟨p, f⟩ := x
  obtain ⟨q, g⟩ := y
  simp only at hx hy ⊢
  have hl : 0 < l := by omega
  have ml := Nat.mod_lt (q + l - p) hl
  have st := stps_q (l := l) (n := n) hn f (q := (p + d) % l) (Nat.mod_lt _ hl) ((q + l - p) % l) (by omega)
  have e : ((p + d) % l + (q + l - p) % l) % l = (q + d) % l := by
    rw [← Nat.add_mod]
    have : p + d + (q + l - p) = q + d + l := by omega
    rw [this, Nat.add_mod_right]
  rw [e] at st
  unfold seg
  by_cases hfg : f = g
  · subst hfg
    simp only [if_true, List.append_nil]
    rw [spo_append, stps_append, spo_s, st]
    exact ⟨rfl, by simp [stps, stp]⟩
  · simp only [if_neg hfg]
    rw [List.append_assoc, spo_append, stps_append, spo_s, st]
    cases g with
    | false => exact ⟨by simp [spo, stp, wl], by simp [stps, stp, wl]⟩
    | true => exact ⟨by simp [spo, stp, wl], by simp [stps, stp, wl]⟩
theorem seg_pul (k : Nat) (x y : Nat × Bool) : ∀ c ∈ seg k x y, IsPul c := by
  intro c hc
  unfold seg at hc
  simp only [List.mem_append, List.mem_replicate, List.mem_singleton] at hc
  rcases hc with (⟨_, rfl⟩ | hc) | rfl
  · exact .inl rfl
  · split at hc
    · cases hc
    · rw [List.mem_singleton.mp hc]
      cases y.2
      · exact .inr (.inr (.inl rfl))
      · exact .inr (.inr (.inr rfl))
  · exact .inr (.inl rfl)
structure Wr (a b : List Nat) (n : Int) (t : List Nat) (e : (Nat × Bool) × List Nat) (ss : List (Nat × Bool)) : Prop where
  pl : ∀ x ∈ ss, x.1 < a.length
  sg : ss.map (sgAt a b) = t
  pu : ∀ c ∈ e.2, IsPul c
  ln : e.2.length ≤ (a.length + 1) * t.length
  sp : ∀ d, spo a.length n ⟨d % a.length, false, 0⟩ e.2 = ss.map fun x => ((x.1 + d) % a.length, x.2)
  st : ∀ d, stps a.length n ⟨d % a.length, false, 0⟩ e.2 = ⟨(e.1.1 + d) % a.length, e.1.2, 0⟩
theorem idx_get {w : List Nat} {c : Nat} (h : c ∈ w) : w.getD (idx w c) 0 = c := by
  have hl := idx_lt h
  rw [List.getD_eq_getElem?_getD, List.getElem?_eq_getElem hl]
  have h2 : (w[w.findIdx (· == c)]'hl == c) = true := List.findIdx_getElem (xs := w) (p := fun x => x == c) (w := hl)
  exact eq_of_beq h2
section
variable {a b : List Nat} {n : Int}
/-! ### texts drawn -/
end
end LW
/-! PvF: searched tells a shortest row that shows just the text. -/
namespace LW
/-- a shortest row that shows just a text from a stand on -/
structure Sho (v : Wl) (s : Std) (t q : List Nat) : Prop where
  pu : Pls q
  sh : (v.run s q).2 = t
  le : ∀ q', Pls q' → (v.run s q').2 = t → q.length ≤ q'.length
theorem Sho.len {v : Wl} {s : Std} {t q q' : List Nat} (h : Sho v s t q) (h' : Sho v s t q') : q.length = q'.length := Nat.le_antisymm (h.le q' h'.pu h'.sh) (h'.le q h.pu h.sh)
theorem wl_pls (f : Bool) : wl f ∈ pls := by cases f <;> simp [wl, pls]
end LW
/-! PvG: stands drawn, odd stands, need_short, row_from, least_from. -/
namespace LW
section
variable {a b : List Nat} {n : Int} {m : Mem}
end
end LW
/-! PvH: best_stand. -/
namespace LW
mutual
theorem d_mono {k : Nat} : ∀ (d : D), D.cl k d = true → D.cl (k + 1) d = true
  | .tup ds, h => by simp only [D.cl] at h ⊢; exact dL_mono ds h
  | .tpx ds, h => by simp only [D.cl] at h ⊢; exact dL_mono ds h
  | .lst ds, h => by simp only [D.cl] at h ⊢; exact dL_mono ds h
  | .dct ks vs, h => by simp only [D.cl, Bool.and_eq_true] at h ⊢; exact ⟨dL_mono ks h.1, dL_mono vs h.2⟩
  | .gdz ks vs, h => by simp only [D.cl, Bool.and_eq_true] at h ⊢; exact ⟨dL_mono ks h.1, dL_mono vs h.2⟩
  | .ref j, h => by simp only [D.cl, decide_eq_true_eq] at h ⊢; omega
  | .non, _ => by simp [D.cl]
  | .bl _, _ => by simp [D.cl]
  | .int _, _ => by simp [D.cl]
  | .str _, _ => by simp [D.cl]
  | .scr _, _ => by simp [D.cl]
  | .ty _, _ => by simp [D.cl]
  | .fn _, _ => by simp [D.cl]
  | .exc _, _ => by simp [D.cl]
theorem dL_mono {k : Nat} : ∀ (ds : List D), D.clL k ds = true → D.clL (k + 1) ds = true
  | [], _ => by simp [D.clL]
  | d :: ds, h => by
    simp only [D.clL, Bool.and_eq_true] at h ⊢
    exact ⟨d_mono d h.1, dL_mono ds h.2⟩
end
theorem mo_mono {k : Nat} {x : MO} (h : MO.cl k x = true) : MO.cl (k + 1) x = true := by
  cases x with
  | lst ds => exact dL_mono ds h
  | dct ks vs => simp only [MO.cl, Bool.and_eq_true] at h ⊢; exact ⟨dL_mono ks h.1, dL_mono vs h.2⟩
  | ins c fs => exact dL_mono _ h
  | gd ks vs => simp only [MO.cl, Bool.and_eq_true] at h ⊢; exact ⟨dL_mono ks h.1, dL_mono vs h.2⟩
  | gone => rfl
section
variable {a b : List Nat} {n : Int} {m : Mem}
end
end LW
/-! PvI: the price of a list of spots; least rows from stands without idle steps; wheels turned, swapped; signs_near. -/
namespace LW
abbrev Sp := Nat × Bool
def cst (l : Nat) : Sp → List Sp → Nat
  | _, [] => 0
  | x, y :: ys => (seg l x y).length + cst l y ys
def segs (l : Nat) : Sp → List Sp → List Nat
  | _, [] => []
  | x, y :: ys => seg l x y ++ segs l y ys
theorem segs_len (l : Nat) : ∀ (ss : List Sp) (x : Sp), (segs l x ss).length = cst l x ss
  | [], _ => rfl
  | y :: ys, x => by rw [segs, cst, List.length_append, segs_len l ys y]
theorem segs_pul (l : Nat) : ∀ (ss : List Sp) (x : Sp), ∀ c ∈ segs l x ss, IsPul c
  | [], _ => by simp [segs]
  | y :: ys, x => by rw [segs]; exact pul_app (seg_pul _ _ _) (segs_pul l ys y)
theorem segs_spo {l : Nat} {n : Int} (hn : 1 ≤ n) : ∀ (ss : List Sp) (x : Sp), x.1 < l → (∀ y ∈ ss, y.1 < l) → spo l n ⟨x.1, x.2, 0⟩ (segs l x ss) = ss
  | [], _, _, _ => rfl
  | y :: ys, x, hx, hy => by
    have h1 := hy y List.mem_cons_self
    have r := seg_run (n := n) hn hx h1 0
    rw [Nat.add_zero, Nat.add_zero, Nat.mod_eq_of_lt hx, Nat.mod_eq_of_lt h1] at r
    rw [segs, spo_append, r.1, r.2, segs_spo hn ys y h1 fun z hz => hy z (List.mem_cons_of_mem _ hz)]
    rfl
theorem md {l p q : Nat} (hp : p < l) (hq : q < l) : (q + l - p) % l = if p ≤ q then q - p else q + l - p := by
  split
  · rw [show q + l - p = (q - p) + l by omega, Nat.add_mod_right, Nat.mod_eq_of_lt (by omega)]
  · rw [Nat.mod_eq_of_lt (by omega)]
/-! ### shortest rows by spots -/
section
variable {a b : List Nat} {n : Int}
theorem pul_pls2 {q : List Nat} (h : ∀ c ∈ q, IsPul c) : Pls q := fun c hc => pul_pls (h c hc)
theorem Sho.to (W : Whl a b n) {x : Sp} (hx : x.1 < a.length) {t q : List Nat} (h : Sho ⟨a, b, n⟩ ⟨x.1, x.2, 0⟩ t q) {ss : List Sp} (hs : ∀ y ∈ ss, y.1 < a.length) (e : ss.map (sgAt a b) = t) : q.length ≤ cst a.length x ss := by
  rw [← segs_len]
  refine h.le _ (pul_pls2 (segs_pul _ _ _)) ?_
  show (run a b n _ _).2 = t
  rw [run_spo, segs_spo W.n1 ss x hx hs, e]
end
end LW
/-! PvJ: all signs, sorted, by what they are; signs_near; texts drawn of all signs. -/
namespace LW
section
variable {a b : List Nat} {n : Int} {m : Mem}
theorem cl_snoc {r : Mem} {o : MO} (hr : ∀ x ∈ r, MO.cl r.length x = true) (ho : MO.cl (r.length + 1) o = true) : ∀ x ∈ r ++ [o], MO.cl (r ++ [o]).length x = true := fun x hx => by
  rw [List.length_append]
  rcases List.mem_append.mp hx with hx | hx
  · exact mo_mono (hr x hx)
  · rw [List.mem_singleton.mp hx]; exact ho
end
end LW
/-! PvK: senders: where one lies in the memory, what its methods do. -/
namespace LW
/-- a deed: the row, the stand behind it, what it showed -/
abbrev Deed := List Nat × Std × List Nat
def deD (d : Deed) : D := .tup [.str d.1, stD d.2.1, .str d.2.2]
abbrev seF (a b : List Nat) (k : Int) (s : Std) (r l : Nat) : List (String × D) := [("wheels", whD a b k), ("first", stD s), ("rows", .ref r), ("later", .ref l)]
/-- a sender at n, its lists at r and l -/
structure SenAt (m : Mem) (n r l : Nat) (a b : List Nat) (k : Int) (s : Std) (rows later : List Deed) : Prop where
  at_ : m[n]? = some (.ins "Sender" (seF a b k s r l))
  rw_ : m[r]? = some (.lst (rows.map deD))
  la_ : m[l]? = some (.lst (later.map deD))
  ne : r ≠ l
theorem SenAt.nl {m : Mem} {n r l : Nat} {a b : List Nat} {k : Int} {s : Std} {rows later : List Deed} (S : SenAt m n r l a b k s rows later) : n ≠ l := fun e => by
  have h1 := S.at_
  rw [e, S.la_] at h1
  cases h1
theorem lt_of {m : Mem} {n : Nat} {o : MO} (h : m[n]? = some o) : n < m.length := (List.getElem?_eq_some_iff.mp h).1
/-- elsewhere all is as it was -/
def Fra (m m' : Mem) (is : List Nat) : Prop := m.length ≤ m'.length ∧ ∀ i, i < m.length → i ∉ is → m'[i]? = m[i]?
theorem SenAt.fra {m m' : Mem} {n r l : Nat} {a b : List Nat} {k : Int} {s : Std} {rows later : List Deed} {is : List Nat} (S : SenAt m n r l a b k s rows later) (f : Fra m m' is) (h1 : n ∉ is) (h2 : r ∉ is) (h3 : l ∉ is) : SenAt m' n r l a b k s rows later :=
  ⟨by rw [f.2 n (lt_of S.at_) h1]; exact S.at_, by rw [f.2 r (lt_of S.rw_) h2]; exact S.rw_, by rw [f.2 l (lt_of S.la_) h3]; exact S.la_, S.ne⟩
theorem Fra.refl (m : Mem) (is : List Nat) : Fra m m is := ⟨Nat.le_refl _, fun _ _ _ => rfl⟩
theorem Fra.trans {m m1 m2 : Mem} {is js : List Nat} (a : Fra m m1 is) (b : Fra m1 m2 js) (h : ∀ j ∈ js, j < m.length → j ∈ is) : Fra m m2 is :=
  ⟨Nat.le_trans a.1 b.1, fun i hi hn => (b.2 i (Nat.lt_of_lt_of_le hi a.1) fun z => hn (h i z hi)).trans (a.2 i hi hn)⟩
abbrev Clo (m : Mem) : Prop := ∀ x ∈ m, MO.cl m.length x = true
def cur (s : Std) (rows : List Deed) : Std := match rows.getLast? with | none => s | some d => d.2.1
@[simp] theorem cur_nil (s : Std) : cur s [] = s := rfl
@[simp] theorem cur_snoc (s : Std) (rows : List Deed) (d : Deed) : cur s (rows ++ [d]) = d.2.1 := by simp [cur]
/-- what is named from a place below stays -/
theorem gc_keep {k : Nat} {d : D} {m : Mem} {i : Nat} {o : MO} (hi : i < k) (h : m[i]? = some o) (ho : MO.cl k o = false) : gcR k d m = .ok d m := by
  unfold gcR
  by_cases h1 : m.length ≤ k
  · rw [if_pos h1]
  · rw [if_neg h1]
    have : (m.take k).all (MO.cl k) = false := by
      rw [List.all_eq_false]
      refine ⟨o, ?_, by rw [ho]; simp⟩
      exact List.mem_of_getElem? (i := i) (by rw [List.getElem?_take_of_lt hi]; exact h)
    rw [this, Bool.and_false]
    rfl
section
variable {m : Mem} {n r l : Nat} {a b : List Nat} {k : Int} {s : Std} {rows later : List Deed}
theorem clo_set {m : Mem} (h : Clo m) {i : Nat} {x : MO} (hx : MO.cl m.length x = true) : Clo (m.set i x) := fun y hy => by
  rw [List.length_set]
  rcases List.mem_or_eq_of_mem_set hy with h1 | rfl
  · exact h y h1
  · exact hx
theorem clo_app {m : Mem} (h : Clo m) {x : MO} (hx : MO.cl (m.length + 1) x = true) : Clo (m ++ [x]) := cl_snoc h hx
theorem sho_bd {v : Wl} (hv : v.ok) : ∀ (t : List Nat), (∀ c ∈ t, c ∈ v.a ∨ c ∈ v.b) → ∀ s : Std, s.p < v.a.length → ∃ q, Pls q ∧ (v.run s q).2 = t ∧ q.length ≤ (v.a.length + 2) * t.length
  | [], _, s, _ => ⟨[], (fun c hc => nomatch hc), rfl, by simp⟩
  | c :: t, h, s, hs => by
    have hl := hv.lo
    obtain ⟨k, f, hk, hsg⟩ : ∃ k f, k < v.a.length ∧ sgAt v.a v.b (k, f) = c := by
      rcases h c List.mem_cons_self with hc | hc
      · exact ⟨idx v.a c, false, idx_lt hc, by simp only [sgAt, Bool.false_eq_true, if_false]; exact idx_get hc⟩
      · exact ⟨idx v.b c, true, by rw [← hv.same]; exact idx_lt hc, by simp only [sgAt, if_true]; exact idx_get hc⟩
    obtain ⟨r1, r2⟩ := seg_run (l := v.a.length) (n := v.n) hv.n1 (x := (s.p, f)) (y := (k, f)) hs hk 0
    simp only [Nat.add_zero, Nat.mod_eq_of_lt hs, Nat.mod_eq_of_lt hk] at r1 r2
    have st : stp v.a.length v.n s (wl f) = ⟨s.p, f, 0⟩ := by cases f <;> simp [stp, wl]
    obtain ⟨q, hq, hsh, hln⟩ := sho_bd hv t (fun d hd => h d (List.mem_cons_of_mem _ hd)) ⟨k, f, 0⟩ hk
    have sl := seg_len (k := v.a.length) (by omega) (s.p, f) (k, f)
    refine ⟨wl f :: (seg v.a.length (s.p, f) (k, f) ++ q), fun d hd => ?_, ?_, ?_⟩
    · rcases List.mem_cons.mp hd with rfl | hd
      · exact wl_pls f
      · rcases List.mem_append.mp hd with hd | hd
        · exact pul_pls (seg_pul _ _ _ d hd)
        · exact hq d hd
    · have e : v.run s (wl f :: (seg v.a.length (s.p, f) (k, f) ++ q)) = run v.a v.b v.n s (wl f :: (seg v.a.length (s.p, f) (k, f) ++ q)) := rfl
      rw [e, run_spo]
      have nw : ¬ wl f = 112 := by cases f <;> decide
      simp only [spo, st, if_neg nw, List.nil_append]
      rw [spo_append, r1, r2, List.map_append]
      have e2 : (v.run ⟨k, f, 0⟩ q).2 = (spo v.a.length v.n ⟨k, f, 0⟩ q).map (sgAt v.a v.b) := by
        show (run v.a v.b v.n ⟨k, f, 0⟩ q).2 = _
        rw [run_spo]
      rw [← e2, hsh]
      simp [hsg]
    · rw [List.length_cons, List.length_append, List.length_cons, Nat.mul_add]
      omega
theorem Sho.short {v : Wl} (hv : v.ok) {t q : List Nat} (ht : ∀ c ∈ t, c ∈ v.a ∨ c ∈ v.b) {s : Std} (hs : s.p < v.a.length) (h : Sho v s t q) : q.length ≤ (v.a.length + 2) * t.length := by
  obtain ⟨q', h1, h2, h3⟩ := sho_bd hv t ht s hs
  exact Nat.le_trans (h.le q' h1 h2) h3
/-! ### all pulses, the tape -/
end
end LW
/-! PvL: how long shortest rows are; their ends, their beginnings. -/
namespace LW
section
variable {a b : List Nat} {n : Int} {m : Mem}
open Classical in
theorem Sho.cat {v : Wl} {s : Std} {t1 t2 q1 q2 q : List Nat} (h1 : Pls q1) (e1 : (v.run s q1).2 = t1) (h2 : Sho v (v.run s q1).1 t2 q2) (h : Sho v s (t1 ++ t2) q) : q.length ≤ q1.length + q2.length := by
  rw [← List.length_append]
  refine h.le _ (fun c hc => (List.mem_append.mp hc).elim (h1 c) (h2.pu c)) ?_
  show (run v.a v.b v.n s (q1 ++ q2)).2 = _
  rw [run_append]
  have e2 := h2.sh
  change (run v.a v.b v.n s q1).2 = t1 at e1
  change (run v.a v.b v.n (run v.a v.b v.n s q1).1 q2).2 = t2 at e2
  rw [e1, e2]
theorem Sho.low {v : Wl} {s : Std} {t q : List Nat} (h : Sho v s t q) : t.length ≤ q.length := by
  have := run_len (a := v.a) (b := v.b) (n := v.n) q s
  have e : (run v.a v.b v.n s q).2 = t := h.sh
  rw [e] at this
  exact this
theorem Sho.last {v : Wl} {s : Std} {t q : List Nat} (h : Sho v s t q) (ht : t ≠ []) : ∃ q0, q = q0 ++ [112] := by
  rcases List.eq_nil_or_concat q with rfl | ⟨q0, c, rfl⟩
  · exact absurd h.sh.symm ht
  · rw [List.concat_eq_append] at h ⊢
    refine ⟨q0, ?_⟩
    by_cases hc : c = 112
    · rw [hc]
    · exfalso
      have e := run_snoc v s q0 c
      have hl := pul_out (a := v.a) (b := v.b) (n := v.n) (v.run s q0).1 c
      rw [if_neg hc] at hl
      have hz : (v.pul (v.run s q0).1 c).2 = [] := List.eq_nil_of_length_eq_zero hl
      rw [hz, List.append_nil, h.sh] at e
      have := h.le q0 (fun d hd => h.pu d (List.mem_append_left _ hd)) e.symm
      rw [List.length_append] at this
      simp at this
      omega
/-- behind a shortest row nothing is idle, or it is the stand itself -/
theorem Sho.behind {v : Wl} {s : Std} {t q : List Nat} (h : Sho v s t q) : (v.run s q).1.i = 0 ∨ q = [] := by
  by_cases ht : t = []
  · refine .inr ?_
    have := h.le [] (fun c hc => nomatch hc) (by rw [ht]; rfl)
    exact List.eq_nil_of_length_eq_zero (by simpa using this)
  · obtain ⟨q0, rfl⟩ := h.last ht
    refine .inl ?_
    show (run v.a v.b v.n s (q0 ++ [112])).1.i = 0
    rw [run_append]
    rfl
end
end LW
/-! PvN: steps until a printer is caught; the sure row, printers put together. -/
namespace LW
/-- caught -/
def cat (l : Nat) (n : Int) (p i : Nat) : Prop := p = 0 ∧ (l : Int) * n ≤ (i : Int)
theorem stp_s (l : Nat) (n : Int) (s : Std) : stp l n s 115 = if s.p = 0 ∧ (l : Int) * n ≤ (s.i : Int) then s else ⟨(s.p + 1) % l, s.f, s.i + 1⟩ := by simp [stp]
/-! ### is_one -/
theorem ded_two {α : Type} [DecidableEq α] : ∀ l : List α, (dedup l).length < 2 ↔ ∀ x ∈ l, ∀ y ∈ l, x = y
  | [] => by simp [dedup]
  | x :: r => by
    have mem : ∀ {c : α} {l : List α}, c ∈ dedup l ↔ c ∈ l := fun {c} l => by
      induction l with
      | nil => simp [dedup]
      | cons y l ih =>
        rw [dedup, List.mem_cons, List.mem_filter, ih, List.mem_cons]
        by_cases h : c = y
        · simp [h]
        · simp [h]
    rw [dedup, List.length_cons]
    constructor
    · intro h
      have h0 : ((dedup r).filter fun y => decide (y ≠ x)) = [] := List.eq_nil_of_length_eq_zero (by omega)
      have all : ∀ y ∈ r, y = x := fun y hy => by
        have := List.filter_eq_nil_iff.mp h0 y (mem.mpr hy)
        simpa using this
      intro u hu w hw
      have hu' : u = x := (List.mem_cons.mp hu).elim id (all u)
      have hw' : w = x := (List.mem_cons.mp hw).elim id (all w)
      rw [hu', hw']
    · intro h
      have : ((dedup r).filter fun y => decide (y ≠ x)) = [] := by
        rw [List.filter_eq_nil_iff]
        intro y hy
        have := h y (List.mem_cons_of_mem _ (mem.mp hy)) x List.mem_cons_self
        simp [this]
      rw [this]
      simp
section
variable {m : Mem}
end
section
variable {a b : List Nat} {n : Int} {m : Mem}
/-! ### put together -/
end
end LW
/-! PwN: printers together; no shorter row puts them together. -/
namespace LW
theorem lcL_fn {α : Type} {t : Tg} {e : Ex} {g : Env} {m : Mem} {F G : α → D} : ∀ {xs : List α}, (∀ x ∈ xs, ∃ g1, t (F x) g m = .ok g1 m ∧ e g1 m = .ok (G x) m) → lcL t yesT e g (xs.map F) m = .ok (xs.map G) m
  | [], _ => rfl
  | d :: ds, h => by
    obtain ⟨g1, e1, e2⟩ := h d (by simp)
    simp only [List.map_cons, lcL, e1, R.bind_ok, yesT, if_true, e2]
    rw [lcL_fn fun d' hd' => h d' (List.mem_cons_of_mem _ hd')]
    rfl
theorem allB_fn {α : Type} {m : Mem} {xs : List α} {G : α → Bool} : allB m [.lst (xs.map fun x => .bl (G x))] = some (.bl (xs.all G)) := by
  simp only [allB, lstOf]
  split
  · rw [List.all_map]; rfl
  · rename_i h
    refine absurd ?_ h
    simp only [List.all_eq_true, List.mem_map]
    rintro d ⟨c, hc, rfl⟩
    rfl
/-- at one place, by one wheel -/
def Tog (ss : List Std) : Prop := ∀ x ∈ ss, ∀ y ∈ ss, x.p = y.p ∧ x.f = y.f
instance (ss : List Std) : Decidable (Tog ss) := inferInstanceAs (Decidable (∀ x ∈ ss, ∀ y ∈ ss, x.p = y.p ∧ x.f = y.f))
abbrev ptD (s : Std) : D := .tup [.int s.p, .str [wc s.f]]
section
variable {m : Mem}
theorem tks_pairs : ∀ ss : List Std, tksOf (ss.map ptD) = some (ss.map fun s => [Sum.inl (s.p : Int), Sum.inr [wc s.f]])
  | [] => rfl
  | s :: ss => by simp [tksOf, tkL, tks_pairs ss]
theorem pr_inj {s q : Std} : ([Sum.inl (s.p : Int), Sum.inr [wc s.f]] : List (Int ⊕ List Nat)) = [Sum.inl (q.p : Int), Sum.inr [wc q.f]] ↔ s.p = q.p ∧ s.f = q.f := by
  constructor
  · intro h
    injection h with h1 h2
    injection h2 with h2 _
    injection h1 with h1
    injection h2 with h2
    injection h2 with h2 _
    exact ⟨by omega, wc_inj.mp h2⟩
  · rintro ⟨h1, h2⟩
    rw [h1, h2]
theorem is_one_pairs {ss : List Std} (hl : ss.length < 63) : m_is_one [.lst (ss.map ptD)] m = .ok (.bl (decide (Tog ss))) m := by
  have e : lenSetY m (.lst (ss.map ptD)) = some (.int (dedup (ss.map fun s => ([Sum.inl (s.p : Int), Sum.inr [wc s.f]] : List (Int ⊕ List Nat)))).length) := by
    cases ss with
    | nil => rfl
    | cons s ss =>
      have hx : lenSetX m (.lst ((s :: ss).map ptD)) = none := by simp [lenSetX, onesOf]
      unfold lenSetY
      rw [hx]
      simp only [lstOf, tks_pairs]
      rw [if_pos (by simpa using hl)]
  have d : decide (((dedup (ss.map fun s => ([Sum.inl (s.p : Int), Sum.inr [wc s.f]] : List (Int ⊕ List Nat)))).length : Int) < 2) = decide (Tog ss) := by
    rw [Bool.eq_iff_iff, decide_eq_true_eq, decide_eq_true_eq, show (2 : Int) = ((2 : Nat) : Int) from rfl, Int.ofNat_lt, ded_two]
    constructor
    · intro h x hx y hy
      exact pr_inj.mp (h _ (List.mem_map.mpr ⟨x, hx, rfl⟩) _ (List.mem_map.mpr ⟨y, hy, rfl⟩))
    · intro h u hu w hw
      obtain ⟨x, hx, rfl⟩ := List.mem_map.mp hu
      obtain ⟨y, hy, rfl⟩ := List.mem_map.mp hw
      exact pr_inj.mpr (h x hx y hy)
  obtain ⟨PD, hPD⟩ : ∃ PD, PD = ss.map ptD := ⟨_, rfl⟩
  rw [← hPD] at e ⊢
  simp [m_is_one, b_is_one, fnS, e, d, -wc, -decide_eq_decide]
end
/-! ### no shorter row -/
section
variable {l : Nat} {n : Int}
/-- of two printers to which the same steps came, the first has had no changes -/
def Rl (l : Nat) (n : Int) (x y : Std) : Prop := cat l n x.p x.i ∨ (x.p = y.p ∧ y.i ≤ x.i)
theorem Rl.step {x y : Std} (h : Rl l n x y) : Rl l n (stp l n x 115) (stp l n y 115) := by
  rw [stp_s, stp_s]
  by_cases hc : x.p = 0 ∧ (l : Int) * n ≤ (x.i : Int)
  · rw [if_pos hc]; exact .inl hc
  · rcases h with h | ⟨h1, h2⟩
    · exact absurd h hc
    · rw [if_neg hc, if_neg (fun z => hc ⟨by omega, by omega⟩)]
      exact .inr ⟨by simp [h1], by simp; omega⟩
end
end LW
/-! PwQ: offices with any number of printers. -/
namespace LW
/-- a printer: its stand, its tape, the slip to come -/
structure Prt where
  s : Std
  t : List Nat
  w : Option Bool
deriving DecidableEq
def wtD : Option Bool → D
  | none => .non
  | some w => .str (wd w)
abbrev sO (ps : List Prt) : List D := ps.map fun q => stD q.s
abbrev tO (ps : List Prt) : List D := ps.map fun q => .str q.t
abbrev wO (ps : List Prt) : List D := ps.map fun q => wtD q.w
abbrev PDeed := List Nat × List Prt
def pdD (q : PDeed) : D := .tup [.str q.1, .tup (sO q.2), .tup (tO q.2), .tup (wO q.2)]
abbrev offF (a b : List Nat) (k : Int) (S T U : List D) (p : Nat) : List (String × D) := [("wheels", whD a b k), ("all_stands", .tup S), ("all_tapes", .tup T), ("waits", .tup U), ("past", .ref p)]
structure OfAt (m : Mem) (o p : Nat) (a b : List Nat) (k : Int) (ps : List Prt) (past : List PDeed) : Prop where
  at_ : m[o]? = some (.ins "Office" (offF a b k (sO ps) (tO ps) (wO ps) p))
  pa_ : m[p]? = some (.lst (past.map pdD))
/-- the slips of a printer -/
def wsl : Option Bool → List (Nat × Bool)
  | none => []
  | some w => [(0, w)]
/-- a row comes to a printer -/
def snd1 (a b : List Nat) (k : Int) (row : List Nat) (q : Prt) : Prt := ⟨(run a b k q.s (slp row (wsl q.w))).1, q.t ++ (run a b k q.s (slp row (wsl q.w))).2, none⟩
def sndP (a b : List Nat) (k : Int) (row : List Nat) (ps : List Prt) : List Prt := if row = [] then ps else ps.map (snd1 a b k row)
section
variable {m : Mem} {o p : Nat} {a b : List Nat} {k : Int} {ps : List Prt} {past : List PDeed}
theorem OfAt.op (S : OfAt m o p a b k ps past) : o ≠ p := fun e => by
  have h1 := S.at_
  rw [e, S.pa_] at h1
  cases h1
theorem OfAt.fra {m' : Mem} {is : List Nat} (S : OfAt m o p a b k ps past) (f : Fra m m' is) (h1 : o ∉ is) (h2 : p ∉ is) : OfAt m' o p a b k ps past :=
  ⟨by rw [f.2 o (lt_of S.at_) h1]; exact S.at_, by rw [f.2 p (lt_of S.pa_) h2]; exact S.pa_⟩
theorem ofs_stands (S : OfAt m o p a b k ps past) : m_Office_stands [.ref o] m = .ok (.lst (sO ps)) m := by
  have h := S.at_
  obtain ⟨X, hX⟩ : ∃ X, X = sO ps := ⟨_, rfl⟩
  rw [← hX] at h ⊢
  simp [m_Office_stands, b_Office_stands, fnS, h, flook]
theorem ofs_tapes (S : OfAt m o p a b k ps past) : m_Office_tapes [.ref o] m = .ok (.lst (tO ps)) m := by
  have h := S.at_
  obtain ⟨X, hX⟩ : ∃ X, X = tO ps := ⟨_, rfl⟩
  rw [← hX] at h ⊢
  simp [m_Office_tapes, b_Office_tapes, fnS, h, flook]
theorem ofs_in_step (S : OfAt m o p a b k ps past) (hl : ps.length < 63) : m_Office_in_step_k12 [.ref o] m = .ok (.bl (decide (Tog (ps.map fun q => q.s)))) m := by
  have h := S.at_
  have one := is_one_pairs (m := m) (ss := ps.map fun q => q.s) (by simpa using hl)
  have l : (sO ps).length ≤ lim := by rw [List.length_map]; unfold lim; omega
  have c := lcL_fn (t := nmG 1) (e := noX (slE slD (vE 1) noO (someO (cE (.int 2))))) (g := [some (.ref o), none]) (m := m) (F := fun q : Prt => stD q.s) (G := fun q => ptD q.s) (xs := ps) (fun q _ => ⟨_, rfl, by simp [cutD, sIxD]⟩)
  rw [List.map_map] at one
  have one' : m_is_one [.lst (ps.map fun q => ptD q.s)] m = .ok (.bl (decide (Tog (ps.map fun q => q.s)))) m := one
  obtain ⟨Y, hY⟩ : ∃ Y, Y = ps.map fun q => ptD q.s := ⟨_, rfl⟩
  obtain ⟨X, hX⟩ : ∃ X, X = sO ps := ⟨_, rfl⟩
  rw [← hY] at c one'
  have hX' : ps.map (fun q => stD q.s) = X := hX.symm
  rw [hX'] at c
  rw [← hX] at h l
  simp [m_Office_in_step_k12, b_Office_in_step_k12, fnS, h, flook, l, c, one']
theorem sO_cl (q : Nat) (ps : List Prt) : D.clL q (sO ps) = true := clL_all fun d hd => by
  obtain ⟨x, _, rfl⟩ := List.mem_map.mp hd
  simp [D.cl, D.clL]
theorem tO_cl (q : Nat) (ps : List Prt) : D.clL q (tO ps) = true := clL_all fun d hd => by
  obtain ⟨x, _, rfl⟩ := List.mem_map.mp hd
  simp [D.cl, D.clL]
theorem wO_cl (q : Nat) (ps : List Prt) : D.clL q (wO ps) = true := clL_all fun d hd => by
  obtain ⟨x, _, rfl⟩ := List.mem_map.mp hd
  cases hx : x.w <;> simp [wtD, D.cl, D.clL]
theorem sO_sh (q : Nat) (ps : List Prt) : D.shL (q + 1) (sO ps) = true := shL_of fun d hd => by
  obtain ⟨x, _, rfl⟩ := List.mem_map.mp hd
  simp [D.shL]
theorem tO_sh (q : Nat) (ps : List Prt) : D.shL q (tO ps) = true := shL_of fun d hd => by
  obtain ⟨x, _, rfl⟩ := List.mem_map.mp hd
  simp [D.shL]
theorem wO_sh (q : Nat) (ps : List Prt) : D.shL q (wO ps) = true := shL_of fun d hd => by
  obtain ⟨x, _, rfl⟩ := List.mem_map.mp hd
  cases hx : x.w <;> simp [wtD, D.shL]
theorem pdD_sh (q : Nat) (past : List PDeed) : D.shL (q + 3) (past.map pdD) = true := shL_of fun d hd => by
  obtain ⟨x, _, rfl⟩ := List.mem_map.mp hd
  simp only [pdD, sh_tup, shL_cons, sh_str, shL_nil, Bool.and_true, Bool.true_and]
  rw [sO_sh, tO_sh, wO_sh]
  rfl
theorem pdD_cl (q : Nat) (past : List PDeed) : D.clL q (past.map pdD) = true := clL_all fun d hd => by
  obtain ⟨x, _, rfl⟩ := List.mem_map.mp hd
  simp only [pdD, D.cl, D.clL, sO_cl, tO_cl, wO_cl]
  rfl
theorem pd_emp (q : PDeed) (past : List PDeed) : D.eqvL ((past ++ [q]).map pdD) [] = false := by
  cases past <;> simp [D.eqvL]
theorem offO_cl {S T U : List D} {j : Nat} (h1 : D.clL j S = true) (h2 : D.clL j T = true) (h3 : D.clL j U = true) (hp : p < j) : MO.cl j (.ins "Office" (offF a b k S T U p)) = true := by
  simp [MO.cl, D.cl, D.clL, h1, h2, h3, hp]
theorem offP_cl (ps : List Prt) {j : Nat} (hp : p < j) : MO.cl j (.ins "Office" (offF a b k (sO ps) (tO ps) (wO ps) p)) = true := offO_cl (sO_cl _ _) (tO_cl _ _) (wO_cl _ _) hp
theorem ofs_back {q : PDeed} (S : OfAt m o p a b k ps (past ++ [q])) (cl : Clo m) : ∃ m', m_Office_back [.ref o] m = .ok (.str q.1) m' ∧ OfAt m' o p a b k q.2 past ∧ Fra m m' [o, p] ∧ Clo m' ∧ m'.length = m.length := by
  have h1 := S.at_
  have h2 := S.pa_
  have ne := S.op
  have lo := lt_of h1
  have lp := lt_of h2
  have sh := pdD_sh 5 (past ++ [q])
  have em := pd_emp q past
  obtain ⟨m1, hm1⟩ : ∃ m1 : Mem, m1 = m.set p (.lst (past.map pdD)) := ⟨_, rfl⟩
  have l1 : m1.length = m.length := by rw [hm1, List.length_set]
  have g1 : m1[o]? = some (.ins "Office" (offF a b k (sO ps) (tO ps) (wO ps) p)) := by rw [hm1, List.getElem?_set_ne (Ne.symm ne)]; exact h1
  have lo1 : o < m1.length := by rw [l1]; exact lo
  refine ⟨m1.set o (.ins "Office" (offF a b k (sO q.2) (tO q.2) (wO q.2) p)), ?_, ⟨List.getElem?_set_self lo1, ?_⟩, ⟨by simp [l1], fun i hi hin => ?_⟩, ?_, by simp [l1]⟩
  · have em' : (past ++ [q]).map pdD = past.map pdD ++ [pdD q] := by rw [List.map_append]; rfl
    rw [em'] at h2 sh em
    obtain ⟨X, hX⟩ : ∃ X, X = sO ps := ⟨_, rfl⟩
    obtain ⟨Y, hY⟩ : ∃ Y, Y = tO ps := ⟨_, rfl⟩
    obtain ⟨Z, hZ⟩ : ∃ Z, Z = wO ps := ⟨_, rfl⟩
    rw [← hX, ← hY, ← hZ] at h1 g1
    have pq : pdD q = .tup [.str q.1, .tup (sO q.2), .tup (tO q.2), .tup (wO q.2)] := rfl
    obtain ⟨X', hX'⟩ : ∃ X, X = sO q.2 := ⟨_, rfl⟩
    obtain ⟨Y', hY'⟩ : ∃ Y, Y = tO q.2 := ⟨_, rfl⟩
    obtain ⟨Z', hZ'⟩ : ∃ Z, Z = wO q.2 := ⟨_, rfl⟩
    rw [← hX', ← hY', ← hZ'] at pq ⊢
    refine fn_wp ?_
    unfold b_Office_back
    refine Wp_seq (by simp [h1, h2, flook, sh, em]; exact ⟨rfl, rfl⟩) ?_
    refine Wp_seq (g1 := [some (.ref o), some (.str q.1)]) (m1 := m1.set o (.ins "Office" (offF a b k X' Y' Z' p))) ?_ ?_
    · have pl : (past.map pdD ++ [pdD q])[(past.map pdD ++ [pdD q]).length - 1]? = some (pdD q) := by simp
      have dl : (past.map pdD ++ [pdD q]).dropLast = past.map pdD := by simp
      have s2 : ∀ x, (m1.set o x)[o]? = some x := fun x => List.getElem?_set_self lo1
      have e0 : mtE popM (fldE "Office" "past" (vE 0)) nilA [some (.ref o), none] m = .ok (pdD q) m1 := by
        simp [h1, h2, flook, hm1]
      simp only [asgS, e0, R.bind_ok]
      simp [pq, g1, fput, s2]
    · refine Wp_of (o := .rt (.str q.1)) (m1 := m1.set o (.ins "Office" (offF a b k X' Y' Z' p))) (by simp) ⟨.inl rfl, ?_⟩
      have : (m1.set o (.ins "Office" (offF a b k X' Y' Z' p))).length = m.length := by simp [l1]
      rw [← this]
      exact gc_same _ _
  · rw [List.getElem?_set_ne ne, hm1, List.getElem?_set_self lp]
  · simp only [List.mem_cons, List.not_mem_nil, or_false, not_or] at hin
    rw [List.getElem?_set_ne (Ne.symm hin.1), hm1, List.getElem?_set_ne (Ne.symm hin.2)]
  · have c1 : Clo m1 := by rw [hm1]; exact clo_set cl (by exact pdD_cl _ _)
    exact clo_set c1 (offP_cl _ (by rw [l1]; exact lp))
theorem ofs_nothing (S : OfAt m o p a b k ps []) : m_Office_back [.ref o] m = .exc "Nothing" m := by
  have h1 := S.at_
  have h2 := S.pa_
  obtain ⟨X, hX⟩ : ∃ X, X = sO ps := ⟨_, rfl⟩
  obtain ⟨Y, hY⟩ : ∃ Y, Y = tO ps := ⟨_, rfl⟩
  obtain ⟨Z, hZ⟩ : ∃ Z, Z = wO ps := ⟨_, rfl⟩
  rw [← hX, ← hY, ← hZ] at h1
  simp [m_Office_back, b_Office_back, fnS, h1, h2, flook]
theorem ofs_come (S : OfAt m o p a b k ps past) (W : Whl a b k) {s : Std} (hs : s.ok a k) (hl : ps.length ≤ 1000) (cl : Clo m) : ∃ m', m_Office_come [.ref o, stD s] m = .ok (.int ps.length) m' ∧ OfAt m' o p a b k (ps ++ [⟨s, [], none⟩]) past ∧ Fra m m' [o] ∧ Clo m' ∧ m'.length = m.length := by
  have h1 := S.at_
  have h2 := S.pa_
  have ne := S.op
  have lo := lt_of h1
  have lp := lt_of h2
  have l : ∀ q : Nat, q ≤ 2000 → q ≤ lim := fun q hq => by unfold lim; omega
  have e1 := need_stand_spec W hs m
  have s2 : ∀ x, (m.set o x)[o]? = some x := fun x => List.getElem?_set_self lo
  refine ⟨m.set o (.ins "Office" (offF a b k (sO (ps ++ [⟨s, [], none⟩])) (tO (ps ++ [⟨s, [], none⟩])) (wO (ps ++ [⟨s, [], none⟩])) p)), ?_, ⟨s2 _, by rw [List.getElem?_set_ne ne]; exact h2⟩, ⟨by simp, fun i hi hin => ?_⟩, clo_set cl (offP_cl _ lp), by simp⟩
  · have lX : (sO ps).length = ps.length := by simp
    have lY : (tO ps).length = ps.length := by simp
    have lZ : (wO ps).length = ps.length := by simp
    have eX : sO (ps ++ [⟨s, [], none⟩]) = sO ps ++ [stD s] := by simp [sO]
    have eY : tO (ps ++ [⟨s, [], none⟩]) = tO ps ++ [.str []] := by simp [tO]
    have eZ : wO (ps ++ [⟨s, [], none⟩]) = wO ps ++ [.non] := by simp [wO, wtD]
    rw [eX, eY, eZ]
    obtain ⟨X, hX⟩ : ∃ X, X = sO ps := ⟨_, rfl⟩
    obtain ⟨Y, hY⟩ : ∃ Y, Y = tO ps := ⟨_, rfl⟩
    obtain ⟨Z, hZ⟩ : ∃ Z, Z = wO ps := ⟨_, rfl⟩
    rw [← hX, ← hY, ← hZ] at h1 ⊢
    rw [← hX] at lX
    rw [← hY] at lY
    rw [← hZ] at lZ
    have k1 : X.length + 1 ≤ lim := l _ (by omega)
    have k2 : Y.length + 1 ≤ lim := l _ (by omega)
    have k3 : Z.length + 1 ≤ lim := l _ (by omega)
    refine fn_wp ?_
    unfold b_Office_come
    refine Wp_seq (by simp [h1, flook, e1, -wc]; exact ⟨rfl, rfl⟩) ?_
    refine Wp_seq (by simp [h1, flook, fput, l, k1, -wc]; exact ⟨rfl, rfl⟩) ?_
    refine Wp_seq (by simp [s2, flook, fput, l, k2, -wc]; exact ⟨rfl, rfl⟩) ?_
    refine Wp_seq (by simp [s2, flook, fput, l, k3, -wc]; exact ⟨rfl, rfl⟩) ?_
    refine Wp_of (o := .rt (.int ps.length)) (m1 := m.set o (.ins "Office" (offF a b k (X ++ [stD s]) (Y ++ [.str []]) (Z ++ [.non]) p))) (by simp [s2, flook, lX, -wc]) ⟨.inl rfl, ?_⟩
    have : (m.set o (.ins "Office" (offF a b k (X ++ [stD s]) (Y ++ [.str []]) (Z ++ [.non]) p))).length = m.length := by simp
    rw [← this]
    exact gc_same _ _
  · simp only [List.mem_cons, List.not_mem_nil, or_false] at hin
    rw [List.getElem?_set_ne (Ne.symm hin)]
/-- a slip told ahead -/
def setW (ps : List Prt) (i : Nat) (w : Bool) : List Prt := ps.take i ++ (match ps[i]? with | some q => [⟨q.s, q.t, some w⟩] | none => []) ++ ps.drop (i + 1)
theorem setW_map {β : Type} (f : Prt → β) {ps : List Prt} {i : Nat} (hi : i < ps.length) (w : Bool) : (setW ps i w).map f = (ps.map f).take i ++ [f ⟨ps[i].s, ps[i].t, some w⟩] ++ (ps.map f).drop (i + 1) := by
  unfold setW
  rw [List.getElem?_eq_getElem hi]
  simp [List.map_take, List.map_drop]
theorem take_get_drop {β : Type} : ∀ (xs : List β) (i : Nat) (hi : i < xs.length), xs.take i ++ [xs[i]] ++ xs.drop (i + 1) = xs
  | x :: xs, 0, _ => by simp
  | x :: xs, i + 1, h => by
    have := take_get_drop xs i (by simpa using h)
    simp only [List.take_succ_cons, List.getElem_cons_succ, List.drop_succ_cons, List.cons_append]
    rw [this]
theorem setW_s {ps : List Prt} {i : Nat} (hi : i < ps.length) (w : Bool) : sO (setW ps i w) = sO ps := by
  unfold sO
  rw [setW_map _ hi]
  have := take_get_drop (ps.map fun q => stD q.s) i (by simpa using hi)
  simpa using this
theorem setW_t {ps : List Prt} {i : Nat} (hi : i < ps.length) (w : Bool) : tO (setW ps i w) = tO ps := by
  unfold tO
  rw [setW_map _ hi]
  have := take_get_drop (ps.map fun q => D.str q.t) i (by simpa using hi)
  simpa using this
theorem setW_len {ps : List Prt} {i : Nat} (hi : i < ps.length) (w : Bool) : (setW ps i w).length = ps.length := by
  unfold setW
  rw [List.getElem?_eq_getElem hi]
  simp
  omega
theorem cut_hi {α : Type} (xs : List α) {i : Nat} (hi : i ≤ xs.length) : cutD xs none (some (i : Int)) = xs.take i := by
  unfold cutD sIxD
  simp only [List.drop_zero, Nat.sub_zero]
  rw [if_neg (by omega), Int.toNat_natCast, Nat.min_eq_left hi]
theorem ofs_slip (S : OfAt m o p a b k ps past) {i : Nat} (hi : i < ps.length) (w : Bool) (hl : ps.length ≤ 1000) (cl : Clo m) : ∃ m', m_Office_slip [.ref o, .int i, .str (wd w)] m = .ok .non m' ∧ OfAt m' o p a b k (setW ps i w) past ∧ Fra m m' [o] ∧ Clo m' ∧ m'.length = m.length := by
  have h1 := S.at_
  have h2 := S.pa_
  have ne := S.op
  have lo := lt_of h1
  have lp := lt_of h2
  have l : ∀ q : Nat, q ≤ 3000 → q ≤ lim := fun q hq => by unfold lim; omega
  have s2 : ∀ x, (m.set o x)[o]? = some x := fun x => List.getElem?_set_self lo
  refine ⟨m.set o (.ins "Office" (offF a b k (sO (setW ps i w)) (tO (setW ps i w)) (wO (setW ps i w)) p)), ?_, ⟨s2 _, by rw [List.getElem?_set_ne ne]; exact h2⟩, ⟨by simp, fun j hj hin => ?_⟩, clo_set cl (offP_cl _ lp), by simp⟩
  · have lX : (sO ps).length = ps.length := by simp
    have lZ : (wO ps).length = ps.length := by simp
    have eZ : wO (setW ps i w) = (wO ps).take i ++ [.str (wd w)] ++ (wO ps).drop (i + 1) := by unfold wO; rw [setW_map _ hi]; rfl
    rw [setW_s hi, setW_t hi, eZ]
    obtain ⟨X, hX⟩ : ∃ X, X = sO ps := ⟨_, rfl⟩
    obtain ⟨Y, hY⟩ : ∃ Y, Y = tO ps := ⟨_, rfl⟩
    obtain ⟨Z, hZ⟩ : ∃ Z, Z = wO ps := ⟨_, rfl⟩
    rw [← hX, ← hY, ← hZ] at h1 ⊢
    rw [← hX] at lX
    rw [← hZ] at lZ
    have wh := is_whole_spec (i : Int) 0 ((X.length : Int) - 1) m
    have c0 : (0 : Int) ≤ (i : Int) := by omega
    have c1 : (i : Int) ≤ (X.length : Int) - 1 := by omega
    rw [decide_eq_true c0, decide_eq_true c1] at wh
    have cu1 : cutD Z none (some (i : Int)) = Z.take i := cut_hi Z (by omega)
    have cu2 : cutD Z (some ((i : Int) + 1)) none = Z.drop (i + 1) := by
      unfold cutD sIxD
      simp only
      rw [if_neg (by omega), show ((i : Int) + 1).toNat = i + 1 by omega, Nat.min_eq_left (by omega), List.take_of_length_le (by simp)]
    have k1 : (Z.take i).length + 1 ≤ lim := l _ (by simp; omega)
    have k2 : ((Z.take i).length + 1) + (Z.drop (i + 1)).length ≤ lim := l _ (by simp; omega)
    have k1' : min i Z.length + 1 ≤ lim := by simpa using k1
    have k2' : min i Z.length + (1 + (Z.length - (i + 1))) ≤ lim := l _ (by omega)
    refine fn_wp ?_
    unfold b_Office_slip
    refine Wp_seq (by simp [h1, flook, wh]; exact ⟨rfl, rfl⟩) ?_
    refine Wp_seq (g1 := [some (.ref o), some (.int i), some (.str (wd w))]) (m1 := m) (by cases w <;> simp [wd]) ?_
    refine Wp_of (o := .nx [some (.ref o), some (.int i), some (.str (wd w))]) (m1 := m.set o (.ins "Office" (offF a b k X Y (Z.take i ++ [.str (wd w)] ++ Z.drop (i + 1)) p))) (by simp [h1, flook, fput, l, cu1, cu2, k1', k2', Nat.add_assoc] ) ⟨.inr ⟨rfl, _, rfl⟩, ?_⟩
    have : (m.set o (.ins "Office" (offF a b k X Y (Z.take i ++ [.str (wd w)] ++ Z.drop (i + 1)) p))).length = m.length := by simp
    rw [← this]
    exact gc_same _ _
  · simp only [List.mem_cons, List.not_mem_nil, or_false] at hin
    rw [List.getElem?_set_ne (Ne.symm hin)]
end
end LW
/-! PwR: rows sent to an office; an office made; what is refused. -/
namespace LW
theorem zipD_map {α : Type} (f g : α → D) : ∀ xs : List α, zipD (xs.map f) (xs.map g) = xs.map fun x => .tup [f x, g x]
  | [] => rfl
  | x :: xs => by
    have := zipD_map f g xs
    unfold zipD at this ⊢
    simp [this]
section
variable {m : Mem} {o p : Nat} {a b : List Nat} {k : Int} {ps : List Prt} {past : List PDeed}
theorem mulT_non {j : Nat} (h1 : 1 ≤ j) (h2 : j ≤ 1000) (m : Mem) : mulTD m (.tup [.non]) (.int j) = some (.tup (List.replicate j .non)) := by
  unfold mulTD
  simp only
  rw [if_pos ⟨by simp, by omega, by omega, by simp⟩]
  by_cases hj : j = 1
  · subst hj; rfl
  · rw [if_neg (by omega), Int.toNat_natCast]
    congr 2
    clear h1 h2 hj
    induction j with
    | zero => rfl
    | succ j ih => rw [List.replicate_succ, List.replicate_succ, List.flatten_cons, ih]; rfl
theorem wsl_nd (w : Option Bool) : ((wsl w).map (·.1)).Nodup := by cases w <;> simp [wsl]
theorem snd_len (row : List Nat) (q : Prt) : (snd1 a b k row q).t.length ≤ q.t.length + 2 * row.length := by
  have h1 := slp_len row (wsl q.w)
  have h2 := run_len (a := a) (b := b) (n := k) (slp row (wsl q.w)) q.s
  simp only [snd1, List.length_append]
  omega
theorem wO_snd {row : List Nat} : ∀ ps : List Prt, wO (ps.map (snd1 a b k row)) = List.replicate ps.length .non
  | [] => rfl
  | q :: qs => by
    have := wO_snd (row := row) qs
    unfold wO at this ⊢
    rw [List.map_cons, List.map_cons, this, List.length_cons, List.replicate_succ]
    rfl
theorem ofs_send (S : OfAt m o p a b k ps past) (W : Whl a b k) (hs : ∀ q ∈ ps, q.s.p < a.length) {row : List Nat} (hr : ∀ c ∈ row, IsPul c) (hl : row.length ≤ 400) (htl : ∀ q ∈ ps, q.t.length ≤ 100000) (hn : past.length < 1000) (h1' : 1 ≤ ps.length) (h2' : ps.length ≤ 1000) (cl : Clo m) :
    ∃ m', m_Office_send [.ref o, .str row] m = .ok .non m' ∧ OfAt m' o p a b k (sndP a b k row ps) (past ++ [(row, ps)]) ∧ Fra m m' [o, p] ∧ Clo m' ∧ m'.length = m.length := by
  have h1 := S.at_
  have h2 := S.pa_
  have ne := S.op
  have lo := lt_of h1
  have lp := lt_of h2
  have l : ∀ q : Nat, q ≤ 200000 → q ≤ lim := fun q hq => by unfold lim; omega
  have lm : past.length < lim := by unfold lim; omega
  obtain ⟨m1, hm1⟩ : ∃ m1 : Mem, m1 = m.set p (.lst ((past ++ [(row, ps)]).map pdD)) := ⟨_, rfl⟩
  have l1 : m1.length = m.length := by rw [hm1, List.length_set]
  have g1 : m1[o]? = some (.ins "Office" (offF a b k (sO ps) (tO ps) (wO ps) p)) := by rw [hm1, List.getElem?_set_ne (Ne.symm ne)]; exact h1
  have p1 : m1[p]? = some (.lst ((past ++ [(row, ps)]).map pdD)) := by rw [hm1, List.getElem?_set_self lp]
  have lo1 : o < m1.length := by rw [l1]; exact lo
  have c1 : Clo m1 := by rw [hm1]; exact clo_set cl (by exact pdD_cl _ _)
  have f1 : Fra m m1 [o, p] := ⟨by omega, fun i hi hin => by
    simp only [List.mem_cons, List.not_mem_nil, or_false, not_or] at hin
    rw [hm1, List.getElem?_set_ne (Ne.symm hin.2)]⟩
  have e1 := need_row_spec (s := row) (hi := 400) (by omega) (by omega) hr m
  have lX : (sO ps).length = ps.length := by simp
  have lY : (tO ps).length = ps.length := by simp
  have lZ : (wO ps).length = ps.length := by simp
  have em' : (past ++ [(row, ps)]).map pdD = past.map pdD ++ [.tup [.str row, .tup (sO ps), .tup (tO ps), .tup (wO ps)]] := by rw [List.map_append]; rfl
  rw [em'] at hm1 p1
  have ap : exS (mtE appM (fldE "Office" "past" (vE 0)) (consA (tupE (consA (vE 1) (consA (fldE "Office" "all_stands" (vE 0)) (consA (fldE "Office" "all_tapes" (vE 0)) (consA (fldE "Office" "waits" (vE 0)) nilA))))) nilA)) [some (.ref o), some (.str row), none, none, none, none, none, none, none] m = .ok (.nx [some (.ref o), some (.str row), none, none, none, none, none, none, none]) m1 := by
    obtain ⟨X, hX⟩ : ∃ X, X = sO ps := ⟨_, rfl⟩
    obtain ⟨Y, hY⟩ : ∃ Y, Y = tO ps := ⟨_, rfl⟩
    obtain ⟨Z, hZ⟩ : ∃ Z, Z = wO ps := ⟨_, rfl⟩
    rw [← hX, ← hY, ← hZ] at hm1 h1
    rw [hm1]
    simp [h1, h2, flook, lm, l]
  by_cases h0 : row = []
  · subst h0
    refine ⟨m1, ?_, ⟨by rw [g1]; simp [sndP], by rw [p1, em']⟩, f1, c1, l1⟩
    refine fn_wp ?_
    unfold b_Office_send
    refine Wp_seq (by simp [e1]; exact ⟨rfl, rfl⟩) ?_
    refine Wp_seq ap ?_
    refine ⟨.rt .non, m1, by simp, .inl rfl, ?_⟩
    rw [← l1]
    exact gc_same _ _
  · have sP : sndP a b k row ps = ps.map (snd1 a b k row) := by unfold sndP; rw [if_neg h0]
    rw [sP]
    obtain ⟨m2, hm2⟩ : ∃ m2 : Mem, m2 = m1.set o (.ins "Office" (offF a b k (sO (ps.map (snd1 a b k row))) (tO (ps.map (snd1 a b k row))) (wO (ps.map (snd1 a b k row))) p)) := ⟨_, rfl⟩
    have s2 : ∀ x, (m1.set o x)[o]? = some x := fun x => List.getElem?_set_self lo1
    have l2 : m2.length = m.length := by rw [hm2, List.length_set, l1]
    refine ⟨m2, ?_, ⟨by rw [hm2, s2], ?_⟩, ⟨by omega, fun i hi hin => ?_⟩, ?_, l2⟩
    · -- the slips
      have cA := lcL_fn (t := nmG 3) (e := noX (ifE (tE (opE isNotND (vE 3) (cE .non))) (tpxE (consA (tupE (consA (cE (.int 0)) (consA (vE 3) nilA))) nilA)) (tpxE nilA))) (g := [some (.ref o), some (.str row), none, none, none, none, none, none, none]) (m := m1) (F := fun q : Prt => wtD q.w) (G := fun q => slpD (wsl q.w)) (xs := ps) (fun q _ => ⟨_, rfl, by
        cases hw : q.w with
        | none => simp [wtD, wsl]
        | some w => simp [wtD, wsl, l]⟩)
      -- the goings
      have cB : ∀ x2 : Option D, lcL (tupG (consG (nmG 5) (consG (nmG 6) nilG))) yesT (noX (callE m_rowed (consA (fldE "Office" "wheels" (vE 0)) (consA (vE 5) (consA (callE m_slipped (consA (vE 1) (consA (vE 6) nilA))) nilA))))) [some (.ref o), some (.str row), x2, none, none, none, none, none, none] (ps.map fun q => .tup [stD q.s, slpD (wsl q.w)]) m1 = .ok (ps.map fun q => .tup [stD (run a b k q.s (slp row (wsl q.w))).1, .str (run a b k q.s (slp row (wsl q.w))).2]) m1 := fun x2 => lcL_fn (F := fun q : Prt => .tup [stD q.s, slpD (wsl q.w)]) fun q hq => by
          have sl := slipped_spec (row := row) (l := wsl q.w) (by omega) (wsl_nd _) m1
          have rd := rowed_spec W (hs q hq) (slp_pul hr (wsl q.w)) (by have := slp_len row (wsl q.w); omega) m1
          refine ⟨[some (.ref o), some (.str row), x2, none, none, some (stD q.s), some (slpD (wsl q.w)), none, none], by simp, ?_⟩
          obtain ⟨XX, hXX⟩ : ∃ XX, XX = slpD (wsl q.w) := ⟨_, rfl⟩
          rw [← hXX] at sl ⊢
          obtain ⟨X, hX⟩ : ∃ X, X = sO ps := ⟨_, rfl⟩
          obtain ⟨Y, hY⟩ : ∃ Y, Y = tO ps := ⟨_, rfl⟩
          obtain ⟨Z, hZ⟩ : ∃ Z, Z = wO ps := ⟨_, rfl⟩
          rw [← hX, ← hY, ← hZ] at g1
          simp [g1, flook, sl, rd, -wc]
      have cC : ∀ (m' : Mem) (x2 x4 : Option D), lcL (tupG (consG (nmG 5) (consG (nmG 7) nilG))) yesT (noX (vE 5)) [some (.ref o), some (.str row), x2, none, x4, none, none, none, none] (ps.map fun q => .tup [stD (run a b k q.s (slp row (wsl q.w))).1, .str (run a b k q.s (slp row (wsl q.w))).2]) m' = .ok (ps.map fun q => stD (snd1 a b k row q).s) m' := fun m' x2 x4 => lcL_fn (F := fun q : Prt => .tup [stD (run a b k q.s (slp row (wsl q.w))).1, .str (run a b k q.s (slp row (wsl q.w))).2]) fun q hq => ⟨[some (.ref o), some (.str row), x2, none, x4, some (stD (snd1 a b k row q).s), none, some (.str (run a b k q.s (slp row (wsl q.w))).2), none], by simp [snd1, -wc], by simp⟩
      have cD : ∀ (m' : Mem) (x2 x4 : Option D), lcL (tupG (consG (nmG 8) (consG (tupG (consG (nmG 5) (consG (nmG 7) nilG))) nilG))) yesT (noX (opE addD (vE 8) (vE 7))) [some (.ref o), some (.str row), x2, none, x4, none, none, none, none] (ps.map fun q => .tup [.str q.t, .tup [stD (run a b k q.s (slp row (wsl q.w))).1, .str (run a b k q.s (slp row (wsl q.w))).2]]) m' = .ok (ps.map fun q => .str (snd1 a b k row q).t) m' := fun m' x2 x4 => lcL_fn (F := fun q : Prt => .tup [.str q.t, .tup [stD (run a b k q.s (slp row (wsl q.w))).1, .str (run a b k q.s (slp row (wsl q.w))).2]]) fun q hq => ⟨[some (.ref o), some (.str row), x2, none, x4, some (stD (snd1 a b k row q).s), none, some (.str (run a b k q.s (slp row (wsl q.w))).2), some (.str q.t)], by simp [snd1, -wc], by
          have q1 := snd_len (a := a) (b := b) (k := k) row q
          have q2 := htl q hq
          have q3 : q.t.length + (run a b k q.s (slp row (wsl q.w))).2.length ≤ lim := by
            simp only [snd1, List.length_append] at q1
            exact l _ (by omega)
          simp [q3, snd1]⟩
      have z1 : zipD (sO ps) (ps.map fun q => slpD (wsl q.w)) = ps.map fun q => .tup [stD q.s, slpD (wsl q.w)] := zipD_map _ _ ps
      have z2 : zipD (tO ps) (ps.map fun q => .tup [stD (run a b k q.s (slp row (wsl q.w))).1, .str (run a b k q.s (slp row (wsl q.w))).2]) = ps.map fun q => .tup [.str q.t, .tup [stD (run a b k q.s (slp row (wsl q.w))).1, .str (run a b k q.s (slp row (wsl q.w))).2]] := zipD_map _ _ ps
      have mt := fun m' => mulT_non h1' h2' m'
      have eS : sO (ps.map (snd1 a b k row)) = ps.map fun q => stD (snd1 a b k row q).s := by unfold sO; rw [List.map_map]; rfl
      have eT : tO (ps.map (snd1 a b k row)) = ps.map fun q => .str (snd1 a b k row q).t := by unfold tO; rw [List.map_map]; rfl
      have eW : wO (ps.map (snd1 a b k row)) = List.replicate ps.length .non := wO_snd ps
      obtain ⟨A1, hA1⟩ : ∃ A, A = sO ps := ⟨_, rfl⟩
      obtain ⟨A2, hA2⟩ : ∃ A, A = tO ps := ⟨_, rfl⟩
      obtain ⟨A3, hA3⟩ : ∃ A, A = wO ps := ⟨_, rfl⟩
      obtain ⟨B1, hB1⟩ : ∃ A, A = ps.map fun q => slpD (wsl q.w) := ⟨_, rfl⟩
      obtain ⟨B2, hB2⟩ : ∃ A : List D, A = ps.map fun q => .tup [stD q.s, slpD (wsl q.w)] := ⟨_, rfl⟩
      obtain ⟨B3, hB3⟩ : ∃ A : List D, A = ps.map fun q => .tup [stD (run a b k q.s (slp row (wsl q.w))).1, .str (run a b k q.s (slp row (wsl q.w))).2] := ⟨_, rfl⟩
      obtain ⟨B4, hB4⟩ : ∃ A : List D, A = ps.map fun q => stD (snd1 a b k row q).s := ⟨_, rfl⟩
      obtain ⟨B5, hB5⟩ : ∃ A : List D, A = ps.map fun q => .str (snd1 a b k row q).t := ⟨_, rfl⟩
      obtain ⟨B6, hB6⟩ : ∃ A : List D, A = ps.map fun q => .tup [.str q.t, .tup [stD (run a b k q.s (slp row (wsl q.w))).1, .str (run a b k q.s (slp row (wsl q.w))).2]] := ⟨_, rfl⟩
      have n1 : A1.length = ps.length := by rw [hA1]; simp
      have n3 : A3.length = ps.length := by rw [hA3]; simp
      have nB2 : B2.length ≤ lim := by rw [hB2, List.length_map]; exact l _ (by omega)
      have nB3 : B3.length ≤ lim := by rw [hB3, List.length_map]; exact l _ (by omega)
      have nB6 : B6.length ≤ lim := by rw [hB6, List.length_map]; exact l _ (by omega)
      have n3' : A3.length ≤ lim := l _ (by omega)
      have hA3' : (ps.map fun q => wtD q.w) = A3 := hA3.symm
      rw [hA3', ← hB1] at cA
      simp only [← hB2, ← hB3] at cB
      simp only [← hB3, ← hB4] at cC
      simp only [← hB6, ← hB5] at cD
      rw [← hA1, ← hB1, ← hB2] at z1
      rw [← hA2, ← hB3, ← hB6] at z2
      rw [eS, eT, eW, ← hB4, ← hB5] at hm2
      rw [← hA1, ← hA2, ← hA3] at g1
      have mt' : ∀ m', mulTD m' (.tup [.non]) (.int A3.length) = some (.tup (List.replicate ps.length .non)) := fun m' => by rw [n3]; exact mt m'
      refine fn_wp ?_
      unfold b_Office_send
      refine Wp_seq (by simp [e1]; exact ⟨rfl, rfl⟩) ?_
      refine Wp_seq ap ?_
      refine Wp_seq (by simp [h0]; exact ⟨rfl, rfl⟩) ?_
      refine Wp_seq (g1 := [some (.ref o), some (.str row), some (.lst B1), none, none, none, none, none, none]) (m1 := m1) (by simp [g1, flook, n3', cA]) ?_
      refine Wp_seq (g1 := [some (.ref o), some (.str row), some (.lst B1), none, some (.lst B3), none, none, none, none]) (m1 := m1) (by simp [g1, flook, z1, nB2, cB]) ?_
      refine Wp_seq (g1 := [some (.ref o), some (.str row), some (.lst B1), none, some (.lst B3), none, none, none, none]) (m1 := m1.set o (.ins "Office" (offF a b k B4 A2 A3 p))) (by simp [g1, flook, fput, nB3, cC]) ?_
      refine Wp_seq (g1 := [some (.ref o), some (.str row), some (.lst B1), none, some (.lst B3), none, none, none, none]) (m1 := m1.set o (.ins "Office" (offF a b k B4 B5 A3 p))) (by simp [s2, flook, fput, z2, nB6, cD]) ?_
      refine Wp_of (o := .nx [some (.ref o), some (.str row), some (.lst B1), none, some (.lst B3), none, none, none, none]) (m1 := m2) (by
        have l1' : 1 ≤ lim := l _ (by decide)
        simp [s2, flook, fput, mt', hm2, l1']) ⟨.inr ⟨rfl, _, rfl⟩, ?_⟩
      rw [← l2]
      exact gc_same _ _
    · rw [hm2, List.getElem?_set_ne ne, p1, em']
    · simp only [List.mem_cons, List.not_mem_nil, or_false, not_or] at hin
      rw [hm2, List.getElem?_set_ne (Ne.symm hin.1), hm1, List.getElem?_set_ne (Ne.symm hin.2)]
    · rw [hm2]
      exact clo_set c1 (offP_cl _ (by rw [l1]; exact lp))
end
end LW
/-! PvO: need_text, row_for; what least rows show. -/
namespace LW
section
variable {a b : List Nat} {n : Int} {m : Mem}
end
end LW
/-! PvP: least rows are as short as can be; the law's price of a text. -/
namespace LW
section
variable {a b : List Nat} {n : Int} {m : Mem}
/-! ### the law's price -/
/-! ### the law's def -/
end
end LW
/-! PvQ: least; one slip: tape, harm. -/
namespace LW
section
variable {a b : List Nat} {n : Int} {m : Mem}
end
end LW
/-! PvR: rows in pieces, sure rows between; a slip harms its piece alone. -/
namespace LW
/-! ### pieces -/
/-! ### the row -/
section
variable {a b : List Nat} {n : Int}
end
end LW
/-! PvS: the law's own row with slips, its harm; guarded, worst. -/
namespace LW
section
variable {a b : List Nat} {n : Int} {m : Mem}
def slpT (row : List Nat) (l : List (Nat × Bool)) (i : Nat) : List Nat := ((List.range i).map fun j => List.replicate (oft l j) (row.getD j 0)).flatten
theorem slpT_all (row : List Nat) (l : List (Nat × Bool)) : slpT row l row.length = slp row l := rfl
theorem slpT_succ (row : List Nat) (l : List (Nat × Bool)) (i : Nat) : slpT row l (i + 1) = slpT row l i ++ List.replicate (oft l i) (row.getD i 0) := by
  unfold slpT
  rw [List.range_succ, List.map_append, List.flatten_append]
  simp
theorem slpT_len (row : List Nat) (l : List (Nat × Bool)) : ∀ i, (slpT row l i).length ≤ 2 * i
  | 0 => by simp [slpT]
  | i + 1 => by
    rw [slpT_succ, List.length_append, List.length_replicate]
    have := slpT_len row l i
    have := oft_le l i
    omega
def numE (i : Nat) : D → Bool
  | .tup [.int j, _] => j == (i : Int)
  | _ => false
def wrdE : D → D
  | .tup [_, w] => w
  | d => d
theorem wrds (i : Nat) : ∀ l : List (Nat × Bool), ((l.map slD1).filter (numE i)).map wrdE = (l.filter fun p => decide (p.1 = i)).map fun p => .str (wd p.2)
  | [] => rfl
  | p :: l => by
    rw [List.map_cons, List.filter_cons, List.filter_cons]
    have ih := wrds i l
    have hq : numE i (slD1 p) = decide (p.1 = i) := by
      unfold numE slD1
      simp only
      by_cases h : p.1 = i
      · simp [h]
      · have : ¬ (p.1 : Int) = (i : Int) := by omega
        simp [h, this]
    rw [hq]
    by_cases h : p.1 = i
    · simp only [h, decide_true, if_true, List.map_cons, ih]
      rfl
    · simp only [h, decide_false, Bool.false_eq_true, if_false, ih]
theorem law_with_spec {row : List Nat} {l : List (Nat × Bool)} {d : D} (hrl : row.length ≤ 1000) (hll : l.length ≤ 100) (hd : d = .lst (l.map slD1) ∨ d = .tup (l.map slD1) ∨ d = .tpx (l.map slD1)) : m_law_with [.str row, d] m = .ok (.str (slp row l)) m := by
  refine fn_wp ?_
  unfold b_law_with
  refine Wp_seq (by simp; exact ⟨rfl, rfl⟩) ?_
  refine Wp_bind (Wp_for (m1 := m) (ds := enumD (row.map fun c => .str [c])) (fun i g m' => ∃ x3 x4 x5, g = [some (.str row), some d, some (.str (slpT row l i)), x3, x4, x5, none, none] ∧ m' = m) (by simp) ⟨none, none, none, rfl, rfl⟩ ?step ?fin)
  case step =>
    rintro i dd g m' hdd ⟨x3, x4, x5, rfl, rfl⟩
    have hi : i < row.length := by
      have := (List.getElem?_eq_some_iff.mp hdd).1
      simpa [enumD] using this
    have hde : dd = .tup [.int (i : Nat), .str [row.getD i 0]] := by
      unfold enumD at hdd
      rw [List.getElem?_zipWith, List.getElem?_map, List.getElem?_range (by simpa using hi), List.getElem?_eq_getElem hi] at hdd
      rw [List.getD_eq_getElem?_getD, List.getElem?_eq_getElem hi]
      exact (Option.some.inj hdd).symm
    subst hde
    have lc : lcL (tupG (consG (nmG 6) (consG (nmG 7) nilG))) (noXT (tE (opE eqD (vE 6) (vE 3)))) (noX (vE 7)) [some (.str row), some d, some (.str (slpT row l i)), some (.int (i : Nat)), some (.str [row.getD i 0]), x5, none, none] (l.map slD1) m' = .ok ((l.filter fun p => decide (p.1 = i)).map fun p => .str (wd p.2)) m' := by
      rw [← wrds]
      refine lcL_filter fun z hz => ?_
      obtain ⟨p, _, rfl⟩ := List.mem_map.mp hz
      refine ⟨_, rfl, ?_, fun _ => ?_⟩
      · simp [numE]
      · simp [wrdE]
    have sl := slpT_len row l i
    have ol := oft_le l i
    have rp : ∀ j : Nat, j ≤ 2 → repOk 1 (j : Int) = true := fun j hj => repOk_of (by omega) (by omega) (by omega)
    have r0 := rp 0 (by decide)
    have r1 := rp 1 (by decide)
    have r2 := rp 2 (by decide)
    rw [show ((0 : Nat) : Int) = 0 from rfl] at r0
    rw [show ((1 : Nat) : Int) = 1 from rfl] at r1
    rw [show ((2 : Nat) : Int) = 2 from rfl] at r2
    have lm : ∀ j : Nat, j ≤ 2 → (slpT row l i).length + j ≤ lim := fun j hj => by unfold lim; omega
    have l0 : (slpT row l i).length ≤ lim := lm 0 (by decide)
    have ll : l.length ≤ lim := by unfold lim; omega
    have fnd : l.find? (fun p => decide (p.1 = i)) = (l.filter fun p => decide (p.1 = i)).head? := by rw [List.head?_filter]
    obtain ⟨c, hc⟩ : ∃ c, c = row.getD i 0 := ⟨_, rfl⟩
    have ss := slpT_succ row l i
    rw [← hc] at lc ss ⊢
    obtain ⟨F, hF⟩ : ∃ F, F = l.filter fun p => decide (p.1 = i) := ⟨_, rfl⟩
    rw [← hF] at lc fnd
    have lz : itA (vE 1) [some (.str row), some d, some (.str (slpT row l i)), some (.int (i : Nat)), some (.str [c]), x5, none, none] m' = .ok (l.map slD1) m' := by
      rcases hd with rfl | rfl | rfl <;> simp
    have ws : asgS (nmG 5) (lcE (itA (vE 1)) [6, 7] (tupG (consG (nmG 6) (consG (nmG 7) nilG))) (noXT (tE (opE eqD (vE 6) (vE 3)))) (noX (vE 7))) [some (.str row), some d, some (.str (slpT row l i)), some (.int (i : Nat)), some (.str [c]), x5, none, none] m' = .ok (.nx [some (.str row), some d, some (.str (slpT row l i)), some (.int (i : Nat)), some (.str [c]), some (.lst (F.map fun p => .str (wd p.2))), none, none]) m' := by
      rcases hd with rfl | rfl | rfl <;> simp [lc, ll, -List.map_map]
    refine ⟨_, _, rfl, Wp_seq ws (Wp_of (o := .nx [some (.str row), some d, some (.str (slpT row l (i + 1))), some (.int (i : Nat)), some (.str [c]), some (.lst (F.map fun p => .str (wd p.2))), none, none]) (m1 := m') ?_ ⟨_, _, _, rfl, rfl⟩)⟩
    rw [ss]
    unfold oft
    rw [fnd]
    cases F with
    | nil => simp [r1, lm]
    | cons p F =>
      obtain ⟨k, w⟩ := p
      cases w <;> simp [r0, r2, lm, l0, wd, ixD, List.replicate_succ]
  case fin =>
    rintro g m' ⟨x3, x4, x5, rfl, rfl⟩
    have e : (enumD (row.map fun c => D.str [c])).length = row.length := by simp [enumD]
    rw [e, slpT_all]
    exact Wp_of (o := .rt _) (m1 := m') (by simp) ⟨.inl rfl, gc_same _ _⟩
/-- where texts are unlike -/
def hps (x y : List Nat) : List Nat := (List.range (max x.length y.length)).filter fun j => !decide (x[j]? = y[j]?)
end
end LW
/-! PwS: offices: methods called, printers that come, rows sent in parts. -/
namespace LW
theorem law_row_k02_len {ns : List Int} {t most : Nat} {r : Mem} {a b : List Nat} {n : Int} (h : Whl a b n) (h6 : a.length ≤ 6) (hm : most ≤ 20) (ht : t < 900000) : ∃ (row : List Nat) (t' : Nat), m_law_row_k02 [.scr ns, .ref 0, whD a b n, .int most] (twn t :: r) = .ok (.str row) (twn t' :: r) ∧ t' ≤ t + 3 * most + 2 ∧ row.length ≤ 18 * most ∧ ∀ c ∈ row, IsPul c := by
  have key : ∃ d m', m_law_row_k02 [.scr ns, .ref 0, whD a b n, .int most] (twn t :: r) = .ok d m' ∧ ∃ (row : List Nat) (t' : Nat), d = .str row ∧ m' = twn t' :: r ∧ t' ≤ t + 3 * most + 2 ∧ row.length ≤ 18 * most ∧ ∀ c ∈ row, IsPul c := by
    refine fn_wpE ?_
    obtain ⟨k, hk, d1⟩ := draw_nat (ns := ns) (t := t) (r := r) (many := most + 1) (by omega) (by omega)
    have e1 : ((most + 1 : Nat) : Int) = (most : Int) + 1 := by omega
    rw [e1] at d1
    have ik : inR (k : Int) = true := inR_nat (by omega)
    have c3 : 3 ≤ lim := by unfold lim; omega
    have hlo := h.lo
    have hhi := h.hi
    have b3 : big 3 = true := big_of (by decide) (by decide)
    unfold b_law_row_k02
    refine Wp_seq (by simp; exact ⟨rfl, rfl⟩) ?_
    refine Wp_bind (Wp_for (m1 := twn (t + 1) :: r) (ds := (List.range k).map fun (k : Nat) => D.int k) (fun i g m => ∃ (x5 x6 x7 : Option D) (made : List Nat), made.length ≤ 18 * i ∧ (∀ c ∈ made, IsPul c) ∧
      g = [some (.scr ns), some (.ref 0), some (whD a b n), some (.int most), some (.str made), x5, x6, x7] ∧ m = twn (t + 1 + 3 * i) :: r) (by simp [d1, ik]) ⟨none, none, none, [], by simp, by simp, rfl, rfl⟩ ?step ?fin)
    case step =>
      rintro i d g m hd ⟨x5, x6, x7, made, hml, hmp, rfl, rfl⟩
      have hi : i < k := by
        have := (List.getElem?_eq_some_iff.mp hd).1
        simpa using this
      obtain ⟨kind, hkd, d2⟩ := draw_nat (ns := ns) (t := t + 1 + 3 * i) (r := r) (many := 8) (by omega) (by omega)
      obtain ⟨x, hx, d3⟩ := pick_spec (ns := ns) (t := t + 1 + 3 * i + 1) (r := r) (xs := [.int 2, .int (a.length : Int), .int (3 * (a.length : Int))]) (by simp) (by omega)
      obtain ⟨y, rfl, hy0, hy1⟩ : ∃ y : Nat, x = .int y ∧ 0 < y ∧ y ≤ 18 := by
        simp only [List.mem_cons, List.not_mem_nil, or_false] at hx
        rcases hx with rfl | rfl | rfl
        · exact ⟨2, rfl, by omega, by omega⟩
        · exact ⟨a.length, rfl, by omega, by omega⟩
        · exact ⟨3 * a.length, by simp, by omega, by omega⟩
      obtain ⟨z, hz, d4⟩ := draw_nat (ns := ns) (t := t + 1 + 3 * i + 1 + 1) (r := r) hy0 (by omega)
      rw [show ((8 : Nat) : Int) = 8 from rfl] at d2
      have rp : repOk 1 (1 + (z : Int)) = true := repOk_of (by omega) (by omega) (by omega)
      have tz : (1 + (z : Int)).toNat = z + 1 := by omega
      obtain ⟨w, hw⟩ : ∃ w : List Nat, w = if kind < 4 then List.replicate (z + 1) 115 else if kind < 6 then [112] else if kind = 6 then [108] else [102] := ⟨_, rfl⟩
      have hwl : w.length ≤ 18 := by
        rw [hw]
        repeat' split
        all_goals simp
        all_goals omega
      have hwp : ∀ c ∈ w, IsPul c := by
        rw [hw]
        repeat' split
        · exact pul_rep (.inl rfl) _
        · intro c hc; rw [List.mem_singleton.mp hc]; exact .inr (.inl rfl)
        · intro c hc; rw [List.mem_singleton.mp hc]; exact .inr (.inr (.inl rfl))
        · intro c hc; rw [List.mem_singleton.mp hc]; exact .inr (.inr (.inr rfl))
      have lm : made.length + w.length ≤ lim := by unfold lim; omega
      refine ⟨_, _, rfl, Wp_seq (by simp [d2]; exact ⟨rfl, rfl⟩) (Wp_seq (by simp [c3, b3, d3, d4]; exact ⟨rfl, rfl⟩) (Wp_of (o := .nx [some (.scr ns), some (.ref 0), some (whD a b n), some (.int most), some (.str (made ++ w)), some d, some (.int kind), some (.int (1 + (z : Int)))]) (m1 := twn (t + 1 + 3 * i + 1 + 1 + 1) :: r) ?_ ⟨_, _, _, made ++ w, by simp; omega, pul_app hmp hwp, rfl, by rw [show t + 1 + 3 * (i + 1) = t + 1 + 3 * i + 1 + 1 + 1 by omega]⟩))⟩
      rw [hw] at lm ⊢
      by_cases q1 : kind < 4
      · have q1' : (kind : Int) < 4 := by omega
        rw [if_pos q1] at lm
        simp only [List.length_replicate] at lm
        simp [q1, q1', rp, tz, lm]
      · have q1' : ¬ (kind : Int) < 4 := by omega
        by_cases q2 : kind < 6
        · have q2' : (kind : Int) < 6 := by omega
          rw [if_neg q1, if_pos q2] at lm
          simp only [List.length_cons, List.length_nil] at lm
          simp [q1, q1', q2, q2', lm]
        · have q2' : ¬ (kind : Int) < 6 := by omega
          by_cases q3 : kind = 6
          · subst q3
            simp at lm
            simp [lm]
          · have q4 : kind = 7 := by omega
            subst q4
            simp at lm
            simp [lm]
    case fin =>
      rintro g m ⟨x5, x6, x7, made, hml, hmp, rfl, rfl⟩
      rw [List.length_map, List.length_range] at *
      obtain ⟨x, hx, d5⟩ := pick_spec (ns := ns) (t := t + 1 + 3 * k) (r := r) (xs := [.int 20, .int 40, .int 400]) (by simp) (by omega)
      obtain ⟨y, rfl, hy⟩ : ∃ y : Nat, x = .int y ∧ y ≤ 400 := by
        simp only [List.mem_cons, List.not_mem_nil, or_false] at hx
        rcases hx with rfl | rfl | rfl
        · exact ⟨20, rfl, by omega⟩
        · exact ⟨40, rfl, by omega⟩
        · exact ⟨400, rfl, by omega⟩
      exact Wp_of (o := .rt (.str (made.take y))) (m1 := twn (t + 1 + 3 * k + 1) :: r) (by simp [c3, d5]) ⟨_, twn (t + 1 + 3 * k + 1) :: r, .inl rfl, by simp [gcR], made.take y, _, rfl, rfl, by omega, by simp; omega, fun c hc => hmp c (List.mem_of_mem_take hc)⟩
  obtain ⟨d, m', e, row, t', rfl, rfl, r⟩ := key
  exact ⟨row, t', e, r⟩
section
variable {m : Mem} {o p : Nat} {a b : List Nat} {k : Int} {ps : List Prt} {past : List PDeed}
theorem ofs_init (W : Whl a b k) (cl : Clo m) : ∃ m1, m_Office_init [.ref m.length, whD a b k] (m ++ [.ins "Office" []]) = .ok .non m1 ∧ OfAt m1 m.length (m.length + 1) a b k [] [] ∧ Fra m m1 [] ∧ Clo m1 ∧ m1.length = m.length + 2 := by
  have l : ∀ q : Nat, q ≤ 1000 → q ≤ lim := fun q hq => by unfold lim; omega
  obtain ⟨m1, hm1⟩ : ∃ m1 : Mem, m1 = m ++ [.ins "Office" (offF a b k [] [] [] (m.length + 1)), .lst []] := ⟨_, rfl⟩
  have g1 : m1[m.length]? = some (.ins "Office" (offF a b k [] [] [] (m.length + 1))) := by rw [hm1]; simp
  have l1 : m1.length = m.length + 2 := by rw [hm1]; simp
  have e0 := need_wheels_spec W (m ++ [.ins "Office" []])
  refine ⟨m1, ?_, ⟨g1, by rw [hm1]; simp⟩, ⟨by omega, fun i hi _ => by rw [hm1, List.getElem?_append_left hi]⟩, ?_, l1⟩
  · refine fn_wp ?_
    unfold b_Office_init
    refine Wp_seq (by simp [e0]; exact ⟨rfl, rfl⟩) ?_
    refine Wp_seq (by simp [fput]; exact ⟨rfl, rfl⟩) ?_
    refine Wp_seq (by simp [fput, l]; exact ⟨rfl, rfl⟩) ?_
    refine Wp_seq (by simp [fput, l]; exact ⟨rfl, rfl⟩) ?_
    refine Wp_seq (by simp [fput, l]; exact ⟨rfl, rfl⟩) ?_
    refine Wp_of (o := .nx [some (.ref m.length), some (whD a b k)]) (m1 := m1) (by simp [fput, l, hm1]) ⟨.inr ⟨rfl, _, rfl⟩, ?_⟩
    refine gc_keep (i := m.length) (by simp) g1 ?_
    simp [MO.cl, D.cl, D.clL]
  · have q1 := cl_snoc (o := .lst []) cl (by simp [MO.cl, D.clL])
    have q2 := cl_snoc (o := .lst []) q1 (by simp [MO.cl, D.clL])
    intro x hx
    rw [l1]
    rw [hm1] at hx
    simp only [List.mem_append, List.mem_cons, List.not_mem_nil, or_false] at hx
    rcases hx with hx | rfl | rfl
    · have := q2 x (by simp [hx])
      simpa using this
    · exact offO_cl (by simp [D.clL]) (by simp [D.clL]) (by simp [D.clL]) (by omega)
    · simp [MO.cl, D.clL]
/-- no field of an office -/
def nof (mth : String) : Bool := decide (mth ≠ "wheels" ∧ mth ≠ "all_stands" ∧ mth ≠ "all_tapes" ∧ mth ≠ "waits" ∧ mth ≠ "past")
theorem nof_look {mth : String} (h : nof mth = true) (S T U : List D) : (flook mth (offF a b k S T U p)).isNone = true := by
  unfold nof at h
  rw [decide_eq_true_eq] at h
  obtain ⟨h1, h2, h3, h4, h5⟩ := h
  simp [flook, Ne.symm h1, Ne.symm h2, Ne.symm h3, Ne.symm h4, Ne.symm h5]
theorem ex_meth {mth : String} {F : Fn} {e : Ex} {r : Ar} {g : Env} {xs : List D} {m1 : Mem} {z : R D} (S : OfAt m o p a b k ps past) (h : nof mth = true) (he : e g m = .ok (.ref o) m) (hr : r g m = .ok xs m1) (hz : F (.ref o :: xs) m1 = z) : methE "Office" mth F e r g m = z := by
  have h1 := S.at_
  have h2 := nof_look (a := a) (b := b) (k := k) (p := p) h (sO ps) (tO ps) (wO ps)
  simp only [methE, he, R.bind_ok, h1, h2, hr]
  exact hz
abbrev newP (s : Std) : Prt := ⟨s, [], none⟩
/-! ### rows in parts -/
theorem sndP_len (row : List Nat) (ps : List Prt) : (sndP a b k row ps).length = ps.length := by
  unfold sndP
  split <;> simp
theorem sndP_lt {row : List Nat} {ps : List Prt} (h : ∀ q ∈ ps, q.s.p < a.length) : ∀ q ∈ sndP a b k row ps, q.s.p < a.length := by
  unfold sndP
  split
  · exact h
  · intro q hq
    obtain ⟨x, hx, rfl⟩ := List.mem_map.mp hq
    exact run_lt _ _ (h x hx)
theorem sndP_t {row : List Nat} {ps : List Prt} {B : Nat} (h : ∀ q ∈ ps, q.t.length ≤ B) : ∀ q ∈ sndP a b k row ps, q.t.length ≤ B + 2 * row.length := by
  unfold sndP
  split
  · intro q hq
    have := h q hq
    omega
  · intro q hq
    obtain ⟨x, hx, rfl⟩ := List.mem_map.mp hq
    have := snd_len (a := a) (b := b) (k := k) row x
    have := h x hx
    omega
end
end LW
namespace LW
section
variable {a b : List Nat} {k : Int} {m : Mem}
structure O15 (m : Mem) (t : Nat) (a b : List Nat) (k : Int) (p1 : List Prt) (q1 : List PDeed) (p2 : List Prt) (q2 : List PDeed) : Prop where
  O1 : OfAt m 1 2 a b k p1 q1
  O2 : OfAt m 3 4 a b k p2 q2
  tw : m[0]? = some (twn t)
  cl : Clo m
variable {t : Nat} {p1 p2 : List Prt} {q1 q2 : List PDeed}
theorem O15.one (h : O15 m t a b k p1 q1 p2 q2) {m' : Mem} {p1' : List Prt} {q1' : List PDeed} (S : OfAt m' 1 2 a b k p1' q1') (f : Fra m m' [1, 2]) (c : Clo m') : O15 m' t a b k p1' q1' p2 q2 :=
  ⟨S, h.O2.fra f (by decide) (by decide), by rw [f.2 0 (lt_of h.tw) (by decide)]; exact h.tw, c⟩
theorem O15.two (h : O15 m t a b k p1 q1 p2 q2) {m' : Mem} {p2' : List Prt} {q2' : List PDeed} (S : OfAt m' 3 4 a b k p2' q2') (f : Fra m m' [3, 4]) (c : Clo m') : O15 m' t a b k p1 q1 p2' q2' :=
  ⟨h.O1.fra f (by decide) (by decide), S, by rw [f.2 0 (lt_of h.tw) (by decide)]; exact h.tw, c⟩
theorem tw_cut {m : Mem} {o : MO} (h : m[0]? = some o) : ∃ r, m = o :: r := by
  cases m with
  | nil => simp at h
  | cons x r => simp at h; exact ⟨r, by rw [h]⟩
theorem O15.draw (h : O15 m t a b k p1 q1 p2 q2) : ∃ q, m = twn t :: q ∧ ∀ t', O15 (twn t' :: q) t' a b k p1 q1 p2 q2 := by
  obtain ⟨q, rfl⟩ := tw_cut h.tw
  have f : ∀ t', Fra (twn t :: q) (twn t' :: q) [0] := fun t' => ⟨Nat.le_refl _, fun i hi hn => by
    cases i with
    | zero => simp at hn
    | succ i => rfl⟩
  refine ⟨q, rfl, fun t' => ⟨h.O1.fra (f t') (by simp) (by simp), h.O2.fra (f t') (by simp) (by simp), rfl, ?_⟩⟩
  intro x hx
  rcases List.mem_cons.mp hx with rfl | hx
  · exact cl_twn _ _
  · exact h.cl x (List.mem_cons_of_mem _ hx)
theorem sO_self (ps : List Prt) : D.eqvL (sO ps) (sO ps) = true := eqvL_self _ 8 (sO_sh 7 ps)
theorem tO_self (ps : List Prt) : D.eqvL (tO ps) (tO ps) = true := eqvL_self _ 8 (tO_sh 8 ps)
theorem setW_set {ps : List Prt} {i : Nat} (hi : i < ps.length) (w : Bool) : setW ps i w = ps.set i ⟨ps[i].s, ps[i].t, some w⟩ := by
  unfold setW
  rw [List.getElem?_eq_getElem hi, List.set_eq_take_append_cons_drop, if_pos hi]
  simp
end
end LW
/-! PxC: how_many over plain data. -/
namespace LW
abbrev Hw := List (Sp × (Nat × Nat))
structure HwOk (k : Nat) (R : Hw) : Prop where
  ne : R ≠ []
  few : R.length ≤ 2
  nd : (R.map (·.1)).Nodup
  pl : ∀ e ∈ R, e.1.1 < k
section
variable {M : Mem} {a b : List Nat} {n : Int} {x1 x3 : Option D}
end
end LW
/-! PxD: how_many: the outer walks. -/
namespace LW
section
variable {M : Mem} {a b : List Nat} {n : Int} {x1 x3 : Option D}
end
end LW
/-! PxE: how many least rows there are: by pulses, by spots. -/
namespace LW
section
variable {a b : List Nat} {n : Int}
/-- one step on, the other wheel -/
def nxt (k : Nat) (x : Sp) : Sp := ((x.1 + 1) % k, x.2)
end
end LW
/-! PxF: how_many counts the least rows. -/
namespace LW
section
variable {a b : List Nat} {n : Int}
end
end LW
/-! PxG: the fewest changes; the law's own counts. -/
namespace LW
section
variable {a b : List Nat} {n : Int} {m : Mem}
/-! ### fewest_changes -/
/-! ### the law's own -/
end
end LW
namespace LW
section
variable {a b : List Nat} {n : Int} {m : Mem}
abbrev lost : D := .str [108, 111, 115, 116]
end
end LW
/-! PwT: all slips of a row: of none, of one, of two. -/
namespace LW
abbrev Slps := List (Nat × Bool)
/-! ### their order -/
@[simp] theorem dn_sl1 : ∀ l : Slps, D.dnL (l.map slD1) = l.map slD1
  | [] => rfl
  | p :: l => by rw [List.map_cons, D.dnL, dn_sl1 l]; rfl
end LW
/-! PwU: slip_sets, slips_for: what they tell. -/
namespace LW
section
variable {m : Mem} {L : Nat}
end
/-! ### slips_for -/
section
variable {a b : List Nat} {n : Int} {m : Mem}
end
end LW
namespace LW
/-! PyA: live lists in law k17: need_stands, joined, slips_for, Office.stands, Office.tapes. -/
theorem lcVL_map {n : Nat} {t : Tg} {e : Ex} {g : Env} {m : Mem} {f : D → D} {ds : List D} (hm : m[n]? = some (.lst ds)) (hl : ds.length ≤ lim) (h : ∀ d ∈ ds, ∃ g1, t d g m = .ok g1 m ∧ e g1 m = .ok (f d) m) : ∀ (k i : Nat), i ≤ ds.length → ds.length < i + k → lcVL n t yesT e g k i m = .ok ((ds.drop i).map f) m
  | 0, i, h1, h2 => by omega
  | k + 1, i, h1, h2 => by
    unfold lcVL
    rw [hm]
    dsimp only
    by_cases hi : i < ds.length
    · rw [List.getElem?_eq_getElem hi]
      dsimp only
      obtain ⟨g1, e1, e2⟩ := h ds[i] (List.getElem_mem hi)
      have ih := lcVL_map hm hl h k (i + 1) (by omega) (by omega)
      rw [if_pos (by omega), e1, R.bind_ok]
      simp only [yesT, R.bind_ok, if_true, e2, ih]
      rw [List.drop_eq_getElem_cons hi]
      rfl
    · rw [List.getElem?_eq_none (by omega), List.drop_eq_nil_of_le (by omega)]
      rfl
theorem lcVL_all {n : Nat} {t : Tg} {e : Ex} {g : Env} {m : Mem} {f : D → D} {ds : List D} (hm : m[n]? = some (.lst ds)) (hl : ds.length ≤ 900) (h : ∀ d ∈ ds, ∃ g1, t d g m = .ok g1 m ∧ e g1 m = .ok (f d) m) : lcVL n t yesT e g 1000 0 m = .ok (ds.map f) m := by
  have := lcVL_map hm (by unfold lim; omega) h 1000 0 (by omega) (by omega)
  simpa using this
section
variable {a b : List Nat} {n : Int} {m : Mem}
end
/-! ### slips_for -/
section
variable {a b : List Nat} {n : Int}
theorem fra_app (m q : Mem) (is : List Nat) : Fra m (m ++ q) is := ⟨by simp, fun i hi _ => by rw [List.getElem?_append_left hi]⟩
end
/-! ### the office's answers -/
section
variable {m : Mem} {o p : Nat} {a b : List Nat} {k : Int} {ps : List Prt} {past : List PDeed}
end
end LW
/-! PyC: a turn of law k17's loop. -/
namespace LW
section
variable {a b : List Nat} {k : Int} {m : Mem}
theorem clL_mem {j : Nat} : ∀ {l : List D}, D.clL j l = true → ∀ d ∈ l, D.cl j d = true
  | [], _, d, hd => by cases hd
  | x :: l, h, d, hd => by
    simp only [D.clL, Bool.and_eq_true] at h
    rcases List.mem_cons.mp hd with rfl | hd
    · exact h.1
    · exact clL_mem h.2 d hd
theorem clo_at {i : Nat} {ds : List D} (cl : Clo m) (h : m[i]? = some (.lst ds)) : D.clL m.length ds = true := cl _ (List.mem_of_getElem? h)
theorem two_spn (s : Std) : (run a b k s [115, 112]).2.length = 1 := by
  simp [run, pul]
  split <;> rfl
structure J17 (a b : List Nat) (i : Nat) (ps : List Prt) : Prop where
  l3 : ps.length = 3
  lt : ∀ q ∈ ps, q.s.p < a.length
  tl : ∀ q ∈ ps, q.t.length ≤ 4 * i
  at1 : ∃ s t, ps[1]? = some ⟨s, t, none⟩ ∧ t.length = i
theorem J17.step {i : Nat} {ps : List Prt} (h : J17 a b i ps) (w : Bool) : J17 a b (i + 1) (setW (sndP a b k [115, 112] ps) 0 w) := by
  have sl := sndP_len (a := a) (b := b) (k := k) [115, 112] ps
  have l3 := h.l3
  have slt := sndP_lt (b := b) (k := k) (row := [115, 112]) h.lt
  have stl := sndP_t (a := a) (b := b) (k := k) (row := [115, 112]) h.tl
  obtain ⟨s, t, e1, e2⟩ := h.at1
  have g1 : (sndP a b k [115, 112] ps)[1]? = some (snd1 a b k [115, 112] ⟨s, t, none⟩) := by
    unfold sndP
    rw [if_neg (by simp), List.getElem?_map, e1]
    rfl
  obtain ⟨S, hS⟩ : ∃ S, S = sndP a b k [115, 112] ps := ⟨_, rfl⟩
  rw [← hS] at sl slt stl g1 ⊢
  have h0 : 0 < S.length := by omega
  refine ⟨by rw [setW_len h0]; omega, fun q hq => ?_, fun q hq => ?_, ?_⟩
  · rw [setW_set h0] at hq
    rcases List.mem_or_eq_of_mem_set hq with hq | rfl
    · exact slt q hq
    · exact slt S[0] (List.getElem_mem h0)
  · rw [setW_set h0] at hq
    rcases List.mem_or_eq_of_mem_set hq with hq | rfl
    · have := stl q hq
      simp at this
      omega
    · have := stl S[0] (List.getElem_mem h0)
      simp at this
      show (S[0]).t.length ≤ _
      omega
  · refine ⟨(run a b k s [115, 112]).1, t ++ (run a b k s [115, 112]).2, ?_, by rw [List.length_append, two_spn, e2]⟩
    rw [setW_set h0, List.getElem?_set_ne (by decide), g1]
    rfl
end
end LW
/-! PyE: k12's own model of an office: a list of lists, and the deeds past. -/
namespace LW
def p3D (q : Prt) : List D := [stD q.s, .str q.t, wtD q.w]
def Hold (m : Mem) (rs : List Nat) (ps : List Prt) : Prop := rs.map (fun r => m[r]?) = ps.map fun q => some (MO.lst (p3D q))
abbrev PD := List Nat × List Nat × List Prt
def pdY (p : PD) : D := .tup [.str p.1, .lst (p.2.1.map D.ref)]
def refsP (pp : List PD) : List Nat := (pp.map fun p => p.2.1).flatten
structure M12 (m : Mem) (rs : List Nat) (ps : List Prt) (pp : List PD) : Prop where
  md : m[5]? = some (.lst (rs.map D.ref))
  pa : m[6]? = some (.lst (pp.map pdY))
  hm : Hold m rs ps
  hp : ∀ p ∈ pp, Hold m p.2.1 p.2.2
  nd : (rs ++ refsP pp).Nodup
  lo : ∀ r ∈ rs ++ refsP pp, 7 ≤ r
theorem Hold.len {m : Mem} {rs : List Nat} {ps : List Prt} (h : Hold m rs ps) : rs.length = ps.length := by
  have := congrArg List.length h
  simpa using this
theorem Hold.at {m : Mem} {rs : List Nat} {ps : List Prt} (h : Hold m rs ps) {i r : Nat} (hr : rs[i]? = some r) : ∃ q, ps[i]? = some q ∧ m[r]? = some (.lst (p3D q)) := by
  have e := congrArg (fun l : List (Option MO) => l[i]?) h
  simp only [List.getElem?_map, hr, Option.map_some] at e
  cases hq : ps[i]? with
  | none => rw [hq] at e; cases e
  | some q => rw [hq] at e; exact ⟨q, rfl, by simpa using e⟩
theorem Hold.mem {m : Mem} {rs : List Nat} {ps : List Prt} (h : Hold m rs ps) {r : Nat} (hr : r ∈ rs) : ∃ q, m[r]? = some (.lst (p3D q)) := by
  obtain ⟨i, hi⟩ := List.getElem?_of_mem hr
  obtain ⟨q, _, e⟩ := h.at hi
  exact ⟨q, e⟩
theorem Hold.same {m m' : Mem} {rs : List Nat} {ps : List Prt} (h : Hold m rs ps) (e : ∀ r ∈ rs, m'[r]? = m[r]?) : Hold m' rs ps := by
  unfold Hold at h ⊢
  rw [← h]
  exact List.map_congr_left e
theorem Hold.set {m : Mem} {rs : List Nat} {ps : List Prt} (h : Hold m rs ps) (nd : rs.Nodup) {i r : Nat} (hr : rs[i]? = some r) (q : Prt) : Hold (m.set r (.lst (p3D q))) rs (ps.set i q) := by
  obtain ⟨_, _, e⟩ := h.at hr
  have lr := lt_of e
  unfold Hold at h ⊢
  refine List.ext_getElem? fun j => ?_
  have hj := congrArg (fun l : List (Option MO) => l[j]?) h
  simp only [List.getElem?_map] at hj ⊢
  have hl := Hold.len h
  have il := (List.getElem?_eq_some_iff.mp hr).1
  by_cases hji : i = j
  · subst hji
    rw [hr, List.getElem?_set_self (by omega)]
    simp [List.getElem?_set_self lr]
  · rw [List.getElem?_set_ne hji]
    cases hrj : rs[j]? with
    | none => rw [hrj] at hj; rw [← hj]; rfl
    | some r' =>
      have ne : r ≠ r' := fun e => by
        subst e
        have h1 := (List.getElem?_eq_some_iff.mp hr)
        have h2 := (List.getElem?_eq_some_iff.mp hrj)
        have := (List.getElem_inj nd).mp (h1.2.trans h2.2.symm)
        exact hji this
      rw [hrj] at hj
      rw [← hj]
      simp [List.getElem?_set_ne ne]
theorem refsP_mem {pp : List PD} {p : PD} (h : p ∈ pp) {r : Nat} (hr : r ∈ p.2.1) : r ∈ refsP pp := List.mem_flatten.mpr ⟨p.2.1, List.mem_map.mpr ⟨p, h, rfl⟩, hr⟩
/-- where all from 5 on stays -/
theorem M12.fra {m m' : Mem} {rs : List Nat} {ps : List Prt} {pp : List PD} (h : M12 m rs ps pp) (f : ∀ i, 5 ≤ i → i < m.length → m'[i]? = m[i]?) : M12 m' rs ps pp where
  md := by rw [f 5 (by decide) (lt_of h.md)]; exact h.md
  pa := by rw [f 6 (by decide) (lt_of h.pa)]; exact h.pa
  hm := h.hm.same fun r hr => f r (by have := h.lo r (List.mem_append_left _ hr); omega) (by obtain ⟨q, e⟩ := h.hm.mem hr; exact lt_of e)
  hp := fun p hp => (h.hp p hp).same fun r hr => f r (by have := h.lo r (List.mem_append_right _ (refsP_mem hp hr)); omega) (by obtain ⟨q, e⟩ := (h.hp p hp).mem hr; exact lt_of e)
  nd := h.nd
  lo := h.lo
/-- one printer of the model changed -/
theorem M12.upd {m : Mem} {rs : List Nat} {ps : List Prt} {pp : List PD} (h : M12 m rs ps pp) {i r : Nat} (hr : rs[i]? = some r) (q : Prt) : M12 (m.set r (.lst (p3D q))) rs (ps.set i q) pp := by
  have mr := List.mem_of_getElem? hr
  have r7 := h.lo r (List.mem_append_left _ mr)
  have nd := List.nodup_append.mp h.nd
  refine ⟨by rw [List.getElem?_set_ne (by omega)]; exact h.md, by rw [List.getElem?_set_ne (by omega)]; exact h.pa, h.hm.set nd.1 hr q, fun p hp => (h.hp p hp).same fun r' hr' => ?_, h.nd, h.lo⟩
  exact List.getElem?_set_ne (nd.2.2 r mr r' (refsP_mem hp hr'))
end LW
/-! PyF: _law_own of k12: come, slip, back. -/
namespace LW
abbrev cmD (s : Std) : D := .tup [.str [99, 111, 109, 101], stD s]
abbrev sdD (row : List Nat) : D := .tup [.str [115, 101, 110, 100], .str row]
abbrev spD12 (i : Nat) (w : Bool) : D := .tup [.str [115, 108, 105, 112], .int i, .str (wd w)]
abbrev bkD : D := .tup [.str [98, 97, 99, 107]]
abbrev rf8 : D := .tup [.str [114, 101, 102, 117, 115, 101, 100], .int 8]
def Lo5 (m m' : Mem) : Prop := ∀ i, i < 5 → m'[i]? = m[i]?
section
variable {a b : List Nat} {k : Int} {m : Mem} {rs : List Nat} {ps : List Prt} {pp : List PD}
theorem M12.l6 (h : M12 m rs ps pp) : 6 < m.length := lt_of h.pa
theorem p3D_cl (j : Nat) (q : Prt) : MO.cl j (.lst (p3D q)) = true := by
  unfold p3D wtD
  cases q.w <;> simp [MO.cl, D.clL, D.cl]
theorem ref_lt (cl : Clo m) {i : Nat} {rs : List Nat} (h : m[i]? = some (.lst (rs.map D.ref))) : ∀ r ∈ rs, r < m.length := fun r hr => by
  have := clL_mem (clo_at cl h) (.ref r) (List.mem_map.mpr ⟨r, hr, rfl⟩)
  simpa [D.cl] using this
theorem refs_cl {j : Nat} {rs : List Nat} (h : ∀ r ∈ rs, r < j) : D.clL j (rs.map D.ref) = true := clL_all fun d hd => by
  obtain ⟨r, hr, rfl⟩ := List.mem_map.mp hd
  simpa [D.cl] using h r hr
theorem own_come (h : M12 m rs ps pp) (cl : Clo m) (s : Std) (hl : ps.length ≤ 100) : ∃ m', m_law_own [.ref 5, .ref 6, whD a b k, cmD s] m = .ok (.int ps.length) m' ∧ M12 m' (rs ++ [m.length]) (ps ++ [newP s]) pp ∧ Clo m' ∧ Lo5 m m' ∧ m.length ≤ m'.length := by
  have rl := h.hm.len
  have l6 := h.l6
  have l : ∀ q : Nat, q ≤ 1000 → q ≤ lim := fun q hq => by unfold lim; omega
  obtain ⟨m1, hm1⟩ : ∃ m1, m1 = m ++ [MO.lst (p3D (newP s))] := ⟨_, rfl⟩
  have cl1 : Clo m1 := by rw [hm1]; exact cl_snoc cl (p3D_cl _ _)
  have l1 : m1.length = m.length + 1 := by rw [hm1]; simp
  have ap : ∀ i, i < m.length → m1[i]? = m[i]? := fun i hi => by rw [hm1, List.getElem?_append_left hi]
  have md1 : m1[5]? = some (.lst (rs.map D.ref)) := by rw [ap 5 (by omega)]; exact h.md
  obtain ⟨m2, hm2⟩ : ∃ m2, m2 = m1.set 5 (.lst ((rs ++ [m.length]).map D.ref)) := ⟨_, rfl⟩
  have l2 : m2.length = m.length + 1 := by rw [hm2, List.length_set, l1]
  have a5 : m2[5]? = some (.lst ((rs ++ [m.length]).map D.ref)) := by rw [hm2, List.getElem?_set_self (by omega)]
  have an : ∀ i, i ≠ 5 → m2[i]? = m1[i]? := fun i hi => by rw [hm2, List.getElem?_set_ne (Ne.symm hi)]
  have rlt : ∀ r ∈ rs ++ refsP pp, r < m.length := fun r hr => by
    rcases List.mem_append.mp hr with hr | hr
    · exact ref_lt cl h.md r hr
    · obtain ⟨q, hq, hr⟩ := List.mem_flatten.mp hr
      obtain ⟨p, hp, rfl⟩ := List.mem_map.mp hq
      obtain ⟨q, e⟩ := (h.hp p hp).mem hr
      exact lt_of e
  have cl2 : Clo m2 := by
    rw [hm2]
    refine clo_set cl1 (refs_cl fun r hr => ?_)
    rw [l1]
    rcases List.mem_append.mp hr with hr | hr
    · have := rlt r (List.mem_append_left _ hr); omega
    · rw [List.mem_singleton.mp hr]; omega
  have st : ∀ r ∈ rs ++ refsP pp, m2[r]? = m[r]? := fun r hr => by
    have := h.lo r hr
    rw [an r (by omega), ap r (rlt r hr)]
  refine ⟨m2, ?_, ⟨a5, by rw [an 6 (by decide), ap 6 l6]; exact h.pa, ?_, fun p hp => (h.hp p hp).same fun r hr => st r (List.mem_append_right _ (refsP_mem hp hr)), ?_, ?_⟩, cl2, fun i hi => by rw [an i (by omega), ap i (by omega)], by omega⟩
  · have g : gcR m.length (.int ps.length) m2 = .ok (.int ps.length) m2 := gc_keep (i := 5) (by omega) a5 (by
      rw [Bool.eq_false_iff]
      intro z
      have := clL_mem z (.ref m.length) (List.mem_map.mpr ⟨m.length, by simp, rfl⟩)
      simp [D.cl] at this)
    have p3 : p3D (newP s) = [stD s, .str [], .non] := rfl
    rw [p3] at hm1
    have e1 : mtE appM (vE 0) (consA (newE (lstE (consA (opE LW.getD (vE 3) (cE (.int 1))) (consA (cE (.str [])) (consA (cE .non) nilA))))) nilA) [some (.ref 5), some (.ref 6), some (whD a b k), some (cmD s), none, none, none, none, none] m = .ok .non m2 := by
      have lr : rs.length < lim := by unfold lim; omega
      have hmd := h.md
      obtain ⟨R, hR⟩ : ∃ R, R = rs.map D.ref := ⟨_, rfl⟩
      have Rl : R.length = rs.length := by rw [hR]; simp
      have hm2' : m2 = m1.set 5 (.lst (R ++ [.ref m.length])) := by rw [hm2, hR]; simp
      rw [← hR] at hmd md1
      rw [hm1] at md1 hm2'
      simp [hmd, md1, l, Rl, lr, hm2']
    have a5' := a5
    obtain ⟨R, hR⟩ : ∃ R, R = (rs ++ [m.length]).map D.ref := ⟨_, rfl⟩
    have Rl : R.length = ps.length + 1 := by rw [hR]; simp [rl]
    rw [← hR] at a5'
    unfold m_law_own fnS b_law_own
    simp [-mtE, e1, a5', Rl, l, g]
  · unfold Hold
    rw [List.map_append, List.map_append]
    congr 1
    · exact h.hm.same fun r hr => st r (List.mem_append_left _ hr)
    · simp only [List.map_cons, List.map_nil]
      rw [an m.length (by omega), hm1]
      simp
  · have : ∀ x ∈ rs ++ refsP pp, x ≠ m.length := fun x hx e => by have := rlt x hx; omega
    have nd := List.nodup_append.mp h.nd
    refine List.nodup_append.mpr ⟨List.nodup_append.mpr ⟨nd.1, by simp, fun x hx y hy e => ?_⟩, nd.2.1, fun x hx y hy e => ?_⟩
    · rw [List.mem_singleton.mp hy] at e
      exact this x (List.mem_append_left _ hx) e
    · rcases List.mem_append.mp hx with hx | hx
      · exact nd.2.2 x hx y hy e
      · rw [List.mem_singleton.mp hx] at e
        exact this y (List.mem_append_right _ hy) e.symm
  · intro r hr
    rcases List.mem_append.mp hr with hr | hr
    · rcases List.mem_append.mp hr with hr | hr
      · exact h.lo r (List.mem_append_left _ hr)
      · rw [List.mem_singleton.mp hr]; omega
    · exact h.lo r (List.mem_append_right _ hr)
theorem own_slip (h : M12 m rs ps pp) (cl : Clo m) {i : Nat} (hi : i < ps.length) (w : Bool) (hl : ps.length ≤ 100) : ∃ m', m_law_own [.ref 5, .ref 6, whD a b k, spD12 i w] m = .ok .non m' ∧ M12 m' rs (setW ps i w) pp ∧ Clo m' ∧ Lo5 m m' ∧ m.length ≤ m'.length := by
  have rl := h.hm.len
  have l : ∀ q : Nat, q ≤ 1000 → q ≤ lim := fun q hq => by unfold lim; omega
  obtain ⟨r, hr⟩ : ∃ r, rs[i]? = some r := ⟨rs[i]'(by omega), List.getElem?_eq_getElem (by omega)⟩
  obtain ⟨q, hq, e⟩ := h.hm.at hr
  have r7 := h.lo r (List.mem_append_left _ (List.mem_of_getElem? hr))
  have qi : ps[i] = q := (List.getElem?_eq_some_iff.mp hq).2
  have u := h.upd hr ⟨q.s, q.t, some w⟩
  have su : setW ps i w = ps.set i ⟨q.s, q.t, some w⟩ := by rw [setW_set hi, qi]
  rw [← su] at u
  refine ⟨m.set r (.lst (p3D ⟨q.s, q.t, some w⟩)), ?_, u, clo_set cl (p3D_cl _ _), fun j hj => List.getElem?_set_ne (by omega), by rw [List.length_set]; exact Nat.le_refl _⟩
  have g : gcR m.length .non (m.set r (.lst (p3D ⟨q.s, q.t, some w⟩))) = .ok .non (m.set r (.lst (p3D ⟨q.s, q.t, some w⟩))) := by
    unfold gcR
    rw [if_pos (by rw [List.length_set]; exact Nat.le_refl _)]
  have hmd := h.md
  have gr : (rs.map D.ref)[i]? = some (.ref r) := by rw [List.getElem?_map, hr]; rfl
  have ix : ixD (rs.map D.ref).length (i : Int) = some i := ixD_nat (by simp; omega)
  obtain ⟨R, hR⟩ : ∃ R, R = rs.map D.ref := ⟨_, rfl⟩
  have Rl : R.length = rs.length := by rw [hR]; simp
  rw [← hR] at hmd gr ix
  have gr' : ∀ z, R[i]'z = .ref r := fun z => by
    rw [List.getElem?_eq_getElem z] at gr
    exact Option.some.inj gr
  have x2 : ixD 3 2 = some 2 := rfl
  have e3 : m[r]? = some (.lst [stD q.s, .str q.t, wtD q.w]) := e
  have p3 : p3D ⟨q.s, q.t, some w⟩ = [stD q.s, .str q.t, .str (wd w)] := rfl
  rw [p3] at g ⊢
  unfold m_law_own fnS b_law_own
  rw [Rl] at ix
  simp [hmd, Rl, ix, gr', show i < rs.length by omega, e3, x2, l, g]
theorem own_back0 (h : M12 m rs ps []) (cl : Clo m) : m_law_own [.ref 5, .ref 6, whD a b k, bkD] m = .ok rf8 m := by
  have l : ∀ q : Nat, q ≤ 1000 → q ≤ lim := fun q hq => by unfold lim; omega
  have hpa := h.pa
  rw [List.map_nil] at hpa
  have e : eqY m (.ref 6) (.lst []) = some (.bl true) := by
    have d1 : D.deep m 9 (.ref 6) = .lst [] := by
      unfold D.deep
      simp only [hpa]
      rfl
    unfold eqY
    rw [d1]
    rfl
  unfold m_law_own fnS b_law_own
  simp [-eqY, e, l]
end
end LW
/-! PyG: k12: model == [], past == []; back, send. -/
namespace LW
section
variable {a b : List Nat} {k : Int} {m : Mem} {rs : List Nat} {ps : List Prt} {pp : List PD}
theorem Hold.map {α : Type} {G : Nat → α} {F : Prt → α} (hG : ∀ r q, m[r]? = some (.lst (p3D q)) → G r = F q) : ∀ {rs : List Nat} {ps : List Prt}, Hold m rs ps → rs.map G = ps.map F
  | [], [], _ => rfl
  | [], q :: ps, h => by have := h.len; simp at this
  | r :: rs, [], h => by have := h.len; simp at this
  | r :: rs, q :: ps, h => by
    unfold Hold at h
    simp only [List.map_cons, List.cons.injEq] at h
    rw [List.map_cons, List.map_cons, hG r q h.1, Hold.map hG (rs := rs) (ps := ps) h.2]
theorem deep_one {r : Nat} {q : Prt} (j : Nat) (h : m[r]? = some (.lst (p3D q))) : D.deep m (j + 3) (.ref r) = .lst (p3D q) := by
  unfold D.deep
  simp only [h]
  congr 1
  unfold p3D
  cases q.w <;> simp [D.deep, wtD]
theorem deep_md (h : M12 m rs ps pp) : D.deep m 9 (.ref 5) = .lst (ps.map fun q => .lst (p3D q)) := by
  unfold D.deep
  simp only [h.md]
  congr 1
  rw [List.map_map]
  exact Hold.map (fun r q e => deep_one 5 e) h.hm
theorem deep_pa (h : M12 m rs ps pp) : D.deep m 9 (.ref 6) = .lst (pp.map fun p => .tup [.str p.1, .lst (p.2.2.map fun q => .lst (p3D q))]) := by
  unfold D.deep
  simp only [h.pa]
  congr 1
  rw [List.map_map]
  refine List.map_congr_left fun p hp => ?_
  show D.deep m 8 (pdY p) = _
  unfold pdY
  have e : (p.2.1.map D.ref).map (D.deep m 6) = p.2.2.map fun q => D.lst (p3D q) := by
    rw [List.map_map]
    exact Hold.map (fun r q e => deep_one 3 e) (h.hp p hp)
  show D.tup [.str p.1, .lst ((p.2.1.map D.ref).map (D.deep m 6))] = _
  rw [e]
theorem sh_p3 (j : Nat) (q : Prt) : D.sh (j + 2) (.lst (p3D q)) = true := by
  unfold p3D
  cases q.w <;> simp [D.sh, D.shL, wtD]
theorem sh_ps (j : Nat) (ps : List Prt) : D.shL (j + 2) (ps.map fun q => D.lst (p3D q)) = true := shL_of fun d hd => by
  obtain ⟨q, _, rfl⟩ := List.mem_map.mp hd
  exact sh_p3 j q
theorem eqv_nil {xs : List D} : D.eqvL xs [] = decide (xs = []) := by cases xs <;> simp [D.eqvL]
theorem cmp_md (h : M12 m rs ps pp) : eqY m (.ref 5) (.lst []) = some (.bl (decide (ps = []))) ∧ neY m (.ref 5) (.lst []) = some (.bl (decide (ps ≠ []))) := by
  have d1 := deep_md h
  have d2 : D.deep m 9 (.lst []) = .lst [] := rfl
  have s1 : D.sh 9 (.lst (ps.map fun q => D.lst (p3D q))) = true := sh_ps 6 ps
  have s2 : D.sh 9 (.lst []) = true := rfl
  unfold eqY neY
  rw [d1, d2, s1, s2]
  have e : D.eqv (.lst (ps.map fun q => D.lst (p3D q))) (.lst []) = decide (ps = []) := by
    show D.eqvL _ [] = _
    rw [eqv_nil]
    simp
  rw [e]
  constructor
  · rfl
  · cases ps <;> rfl
theorem cmp_pa (h : M12 m rs ps pp) : eqY m (.ref 6) (.lst []) = some (.bl (decide (pp = []))) ∧ neY m (.ref 6) (.lst []) = some (.bl (decide (pp ≠ []))) := by
  have d1 := deep_pa h
  have d2 : D.deep m 9 (.lst []) = .lst [] := rfl
  have s1 : D.sh 9 (.lst (pp.map fun p => D.tup [.str p.1, .lst (p.2.2.map fun q => D.lst (p3D q))])) = true := shL_of fun d hd => by
    obtain ⟨p, _, rfl⟩ := List.mem_map.mp hd
    have := sh_ps 4 p.2.2
    simp [D.sh, D.shL, this]
  have s2 : D.sh 9 (.lst []) = true := rfl
  unfold eqY neY
  rw [d1, d2, s1, s2]
  have e : D.eqv (.lst (pp.map fun p => D.tup [.str p.1, .lst (p.2.2.map fun q => D.lst (p3D q))])) (.lst []) = decide (pp = []) := by
    show D.eqvL _ [] = _
    rw [eqv_nil]
    simp
  rw [e]
  constructor
  · rfl
  · cases pp <;> rfl
theorem refsP_app (pp : List PD) (p : PD) : refsP (pp ++ [p]) = refsP pp ++ p.2.1 := by simp [refsP]
theorem own_back {p : PD} (h : M12 m rs ps (pp ++ [p])) (cl : Clo m) (hl : ps.length ≤ 100) (hl2 : p.2.2.length ≤ 100) : ∃ m', m_law_own [.ref 5, .ref 6, whD a b k, bkD] m = .ok (.str p.1) m' ∧ M12 m' p.2.1 p.2.2 pp ∧ Clo m' ∧ Lo5 m m' ∧ m.length ≤ m'.length := by
  have rl := h.hm.len
  have l6 := h.l6
  have hpp := h.hp p (by simp)
  have rl2 := hpp.len
  have l : ∀ q : Nat, q ≤ 1000 → q ≤ lim := fun q hq => by unfold lim; omega
  obtain ⟨m1, hm1⟩ : ∃ m1, m1 = m.set 6 (.lst (pp.map pdY)) := ⟨_, rfl⟩
  obtain ⟨m2, hm2⟩ : ∃ m2, m2 = m1.set 5 (.lst (p.2.1.map D.ref)) := ⟨_, rfl⟩
  have l1 : m1.length = m.length := by rw [hm1, List.length_set]
  have l2 : m2.length = m.length := by rw [hm2, List.length_set, l1]
  have rlt : ∀ r ∈ rs ++ refsP (pp ++ [p]), r < m.length := fun r hr => by
    rcases List.mem_append.mp hr with hr | hr
    · exact ref_lt cl h.md r hr
    · obtain ⟨q, hq, hr⟩ := List.mem_flatten.mp hr
      obtain ⟨p, hp, rfl⟩ := List.mem_map.mp hq
      obtain ⟨q, e⟩ := (h.hp p hp).mem hr
      exact lt_of e
  have nd := h.nd
  rw [refsP_app] at nd rlt
  have lo := h.lo
  rw [refsP_app] at lo
  have st : ∀ i, i ≠ 5 → i ≠ 6 → m2[i]? = m[i]? := fun i h5 h6 => by rw [hm2, List.getElem?_set_ne (Ne.symm h5), hm1, List.getElem?_set_ne (Ne.symm h6)]
  have cl1 : Clo m1 := by
    rw [hm1]
    refine clo_set cl ?_
    have := clo_at cl h.pa
    rw [List.map_append] at this
    exact clL_all fun d hd => clL_mem this d (List.mem_append_left _ hd)
  have cl2 : Clo m2 := by
    rw [hm2]
    refine clo_set cl1 (refs_cl fun r hr => ?_)
    rw [l1]
    exact rlt r (by simp [hr])
  refine ⟨m2, ?_, ⟨by rw [hm2, List.getElem?_set_self (by omega)], by rw [hm2, List.getElem?_set_ne (by decide), hm1, List.getElem?_set_self (by omega)], hpp.same fun r hr => ?_, fun p' hp' => (h.hp p' (List.mem_append_left _ hp')).same fun r hr => ?_, ?_, fun r hr => lo r ?_⟩, cl2, fun i hi => st i (by omega) (by omega), by omega⟩
  · have e := (cmp_pa h).1
    rw [decide_eq_false (by simp)] at e
    have g : gcR m.length (.str p.1) m2 = .ok (.str p.1) m2 := by
      unfold gcR
      rw [if_pos (by omega)]
    have hpa := h.pa
    have hmd := h.md
    have m15 : m1[5]? = some (.lst (rs.map D.ref)) := by rw [hm1, List.getElem?_set_ne (by decide)]; exact hmd
    rw [List.map_append, List.map_cons, List.map_nil] at hpa
    obtain ⟨P, hP⟩ : ∃ P, P = pp.map pdY := ⟨_, rfl⟩
    obtain ⟨R, hR⟩ : ∃ R, R = rs.map D.ref := ⟨_, rfl⟩
    obtain ⟨O, hO⟩ : ∃ O, O = p.2.1.map D.ref := ⟨_, rfl⟩
    have RO : R.length + O.length ≤ lim := by rw [hR, hO, List.length_map, List.length_map]; exact l _ (by omega)
    have pd : pdY p = .tup [.str p.1, .lst O] := by rw [hO]; rfl
    rw [← hP] at hpa hm1
    rw [pd] at hpa
    rw [← hR] at m15
    rw [← hO] at hm2
    have g1 : mtE popM (vE 1) nilA [some (.ref 5), some (.ref 6), some (whD a b k), some bkD, none, none, none, none, none] m = .ok (.tup [.str p.1, .lst O]) m1 := by
      rw [hm1]
      simp [hpa]
    unfold m_law_own fnS b_law_own
    rw [hm2] at g
    simp [-eqY, e, l, -mtE, g1, m15, RO, g, hm2]
  · have := lo r (by simp [hr])
    exact st r (by omega) (by omega)
  · have := lo r (by have := refsP_mem hp' hr; simp [this])
    exact st r (by omega) (by omega)
  · have n1 := List.nodup_append.mp nd
    have n2 := List.nodup_append.mp n1.2.1
    exact List.nodup_append.mpr ⟨n2.2.1, n2.1, fun x hx y hy e => n2.2.2 y hy x hx e.symm⟩
  · rcases List.mem_append.mp hr with hr | hr
    · simp [hr]
    · simp [hr]
end
end LW
/-! PyH: k12: _law_own of a row sent. -/
namespace LW
section
variable {a b : List Nat} {k : Int} {m : Mem} {rs : List Nat} {ps : List Prt} {pp : List PD}
def sn1 (a b : List Nat) (k : Int) (row : List Nat) (q : Prt) : Prt := ⟨(run a b k q.s (slp row (wsl q.w))).1, q.t ++ (run a b k q.s (slp row (wsl q.w))).2, if row = [] then q.w else none⟩
theorem sn1_all (row : List Nat) (ps : List Prt) : ps.map (sn1 a b k row) = sndP a b k row ps := by
  unfold sndP
  by_cases h : row = []
  · rw [if_pos h]
    subst h
    have : ∀ q : Prt, sn1 a b k [] q = q := fun q => by
      have e : slp [] (wsl q.w) = [] := by simp [slp]
      unfold sn1
      rw [e]
      simp [run]
    rw [List.map_congr_left fun q _ => this q, List.map_id']
  · rw [if_neg h]
    refine List.map_congr_left fun q _ => ?_
    unfold sn1 snd1
    rw [if_neg h]
def bd12 : Sm := (seqS (asgS (nmG 5) (ifE (tE (opE isNotND (opE LW.getD (vE 4) (cE (.int 2))) (cE .non))) (lstE (consA (tupE (consA (cE (.int 0)) (consA (opE LW.getD (vE 4) (cE (.int 2))) nilA))) nilA)) (lstE nilA)))
    (seqS (asgS (tupG (consG (putLG (noX (vE 4)) (noX (cE (.int 0)))) (consG (nmG 6) nilG))) (callE m_law_go (consA (vE 2) (consA (opE LW.getD (vE 4) (cE (.int 0))) (consA (callE m_law_with (consA (opE LW.getD (vE 3) (cE (.int 1))) (consA (vE 5) nilA))) nilA)))))
    (seqS (asgS (putLG (noX (vE 4)) (noX (cE (.int 1)))) (opE addD (opE LW.getD (vE 4) (cE (.int 1))) (vE 6)))
    (asgS (putLG (noX (vE 4)) (noX (cE (.int 2)))) (ifE (tE (opE eqD (opE LW.getD (vE 3) (cE (.int 1))) (cE (.str [])))) (opE LW.getD (vE 4) (cE (.int 2))) (cE .non))))))
theorem bd_one (W : Whl a b k) {row : List Nat} (hr : ∀ c ∈ row, IsPul c) (hl : row.length ≤ 400) {q : Prt} (hq : q.s.p < a.length) (ht : q.t.length ≤ 100000) {r : Nat} (h : m[r]? = some (.lst (p3D q))) {x5 x6 x7 x8 : Option D} :
    bd12 [some (.ref 5), some (.ref 6), some (whD a b k), some (sdD row), some (.ref r), x5, x6, x7, x8] m = .ok (.nx [some (.ref 5), some (.ref 6), some (whD a b k), some (sdD row), some (.ref r), some (.lst ((wsl q.w).map slD1)), some (.str (run a b k q.s (slp row (wsl q.w))).2), x7, x8]) (m.set r (.lst (p3D (sn1 a b k row q)))) := by
  have l : ∀ q : Nat, q ≤ 200000 → q ≤ lim := fun q hq => by unfold lim; omega
  have lr := lt_of h
  have wi := law_with_spec (m := m) (row := row) (l := wsl q.w) (d := .lst ((wsl q.w).map slD1)) (by omega) (by cases q.w <;> simp [wsl]) (.inl rfl)
  have sl := slp_len row (wsl q.w)
  have go := law_go_spec W hq (slp_pul hr (wsl q.w)) (by omega) m
  have rl := run_len (a := a) (b := b) (n := k) (slp row (wsl q.w)) q.s
  have h3 : m[r]? = some (.lst [stD q.s, .str q.t, wtD q.w]) := h
  obtain ⟨s, t, w⟩ := q
  dsimp only at *
  obtain ⟨SL, hSL⟩ : ∃ SL : D, SL = .lst ((wsl w).map slD1) := ⟨_, rfl⟩
  obtain ⟨R, hR⟩ : ∃ R, R = run a b k s (slp row (wsl w)) := ⟨_, rfl⟩
  have x30 : ixD 3 0 = some 0 := rfl
  have x31 : ixD 3 1 = some 1 := rfl
  have x32 : ixD 3 2 = some 2 := rfl
  have x21 : ixD 2 1 = some 1 := rfl
  have s1 : asgS (nmG 5) (ifE (tE (opE isNotND (opE LW.getD (vE 4) (cE (.int 2))) (cE .non))) (lstE (consA (tupE (consA (cE (.int 0)) (consA (opE LW.getD (vE 4) (cE (.int 2))) nilA))) nilA)) (lstE nilA)) [some (.ref 5), some (.ref 6), some (whD a b k), some (sdD row), some (.ref r), x5, x6, x7, x8] m = .ok (.nx [some (.ref 5), some (.ref 6), some (whD a b k), some (sdD row), some (.ref r), some SL, x6, x7, x8]) m := by
    rw [hSL]
    cases w with
    | none => simp [h3, x32, l, wtD, wsl]
    | some w => simp [h3, x32, l, wtD, wsl]
  rw [← hSL] at wi ⊢
  rw [← hR] at go rl ⊢
  obtain ⟨Y, hY⟩ : ∃ Y, Y = wtD w := ⟨_, rfl⟩
  rw [← hY] at h3
  have s2 : asgS (tupG (consG (putLG (noX (vE 4)) (noX (cE (.int 0)))) (consG (nmG 6) nilG))) (callE m_law_go (consA (vE 2) (consA (opE LW.getD (vE 4) (cE (.int 0))) (consA (callE m_law_with (consA (opE LW.getD (vE 3) (cE (.int 1))) (consA (vE 5) nilA))) nilA)))) [some (.ref 5), some (.ref 6), some (whD a b k), some (sdD row), some (.ref r), some SL, x6, x7, x8] m = .ok (.nx [some (.ref 5), some (.ref 6), some (whD a b k), some (sdD row), some (.ref r), some SL, some (.str R.2), x7, x8]) (m.set r (.lst [stD R.1, .str t, Y])) := by
    simp [h3, x30, x21, l, wi, go]
  have g2 : (m.set r (.lst [stD R.1, .str t, Y]))[r]? = some (.lst [stD R.1, .str t, Y]) := List.getElem?_set_self lr
  have tl : t.length + R.2.length ≤ lim := l _ (by omega)
  have s3 : asgS (putLG (noX (vE 4)) (noX (cE (.int 1)))) (opE addD (opE LW.getD (vE 4) (cE (.int 1))) (vE 6)) [some (.ref 5), some (.ref 6), some (whD a b k), some (sdD row), some (.ref r), some SL, some (.str R.2), x7, x8] (m.set r (.lst [stD R.1, .str t, Y])) = .ok (.nx [some (.ref 5), some (.ref 6), some (whD a b k), some (sdD row), some (.ref r), some SL, some (.str R.2), x7, x8]) (m.set r (.lst [stD R.1, .str (t ++ R.2), Y])) := by
    obtain ⟨M, hM⟩ : ∃ M, M = m.set r (.lst [stD R.1, .str t, Y]) := ⟨_, rfl⟩
    have e : m.set r (.lst [stD R.1, .str (t ++ R.2), Y]) = M.set r (.lst [stD R.1, .str (t ++ R.2), Y]) := by rw [hM, List.set_set]
    rw [← hM] at g2
    rw [e, ← hM]
    simp [g2, x31, tl]
  have g3 : (m.set r (.lst [stD R.1, .str (t ++ R.2), Y]))[r]? = some (.lst [stD R.1, .str (t ++ R.2), Y]) := List.getElem?_set_self lr
  have pE : p3D (sn1 a b k row ⟨s, t, w⟩) = [stD R.1, .str (t ++ R.2), if row = [] then Y else .non] := by
    unfold sn1 p3D
    rw [← hR, hY]
    split <;> rfl
  have s4 : asgS (putLG (noX (vE 4)) (noX (cE (.int 2)))) (ifE (tE (opE eqD (opE LW.getD (vE 3) (cE (.int 1))) (cE (.str [])))) (opE LW.getD (vE 4) (cE (.int 2))) (cE .non)) [some (.ref 5), some (.ref 6), some (whD a b k), some (sdD row), some (.ref r), some SL, some (.str R.2), x7, x8] (m.set r (.lst [stD R.1, .str (t ++ R.2), Y])) = .ok (.nx [some (.ref 5), some (.ref 6), some (whD a b k), some (sdD row), some (.ref r), some SL, some (.str R.2), x7, x8]) (m.set r (.lst (p3D (sn1 a b k row ⟨s, t, w⟩)))) := by
    rw [pE]
    obtain ⟨T, hT⟩ : ∃ T, T = t ++ R.2 := ⟨_, rfl⟩
    rw [← hT] at g3 ⊢
    obtain ⟨M, hM⟩ : ∃ M, M = m.set r (.lst [stD R.1, .str T, Y]) := ⟨_, rfl⟩
    have e : ∀ Z, m.set r (.lst [stD R.1, .str T, Z]) = M.set r (.lst [stD R.1, .str T, Z]) := fun Z => by rw [hM, List.set_set]
    rw [← hM] at g3
    rw [← hM, e]
    by_cases h0 : row = []
    · subst h0
      simp [g3, x32, x21]
    · simp [g3, x32, x21, h0]
  unfold bd12
  rw [seqS_eq, s1]
  show seqS _ _ _ m = _
  rw [seqS_eq, s2]
  show seqS _ _ _ _ = _
  rw [seqS_eq, s3]
  exact s4
end
end LW
/-! PyI: k12: _law_own of a row sent, whole. -/
namespace LW
section
variable {a b : List Nat} {k : Int} {m : Mem} {rs : List Nat} {ps : List Prt} {pp : List PD}
theorem clo_all : ∀ {l m : Mem}, (∀ x ∈ l, ∀ j, MO.cl j x = true) → Clo m → Clo (m ++ l)
  | [], m, _, c => by simpa using c
  | x :: l, m, h, c => by
    have := clo_all (l := l) (fun y hy => h y (List.mem_cons_of_mem _ hy)) (clo_app c (h x List.mem_cons_self _))
    simpa using this
abbrev cpM (ps : List Prt) : Mem := ps.map fun q => MO.lst (p3D q)
theorem cp_walk {g : Env} (hg : g.length = 9) (hmd : m[5]? = some (.lst (rs.map D.ref))) (h5 : 5 < m.length) (H : Hold m rs ps) (hlt : ∀ r ∈ rs, r < m.length) (hl : ps.length ≤ 100) : ∀ (K i : Nat), i ≤ ps.length → ps.length < i + K →
    lcVL 5 (nmG 4) yesT (noX (newE (bE listB (consA (vE 4) nilA)))) g K i (m ++ cpM (ps.take i)) = .ok ((List.range' (m.length + i) (ps.length - i)).map D.ref) (m ++ cpM ps)
  | 0, i, h1, h2 => by omega
  | K + 1, i, h1, h2 => by
    have rl := H.len
    unfold lcVL
    rw [List.getElem?_append_left h5, hmd]
    dsimp only
    by_cases hi : i < ps.length
    · have hri : rs[i]? = some (rs[i]'(by omega)) := List.getElem?_eq_getElem (by omega)
      obtain ⟨q, hq, e⟩ := H.at hri
      have rlt := hlt _ (List.mem_of_getElem? hri)
      obtain ⟨r, hr⟩ : ∃ r, r = rs[i]'(by omega) := ⟨_, rfl⟩
      rw [← hr] at e hri rlt
      rw [List.getElem?_map, hri]
      simp only [Option.map_some]
      rw [if_pos (by unfold lim; omega)]
      have ih := cp_walk hg hmd h5 H hlt hl K (i + 1) (by omega) (by omega)
      have tk : m ++ cpM (ps.take (i + 1)) = m ++ cpM (ps.take i) ++ [.lst (p3D q)] := by
        rw [List.take_add_one, hq]
        simp [cpM]
      have ml : (m ++ cpM (ps.take i)).length = m.length + i := by
        rw [List.length_append, List.length_map, List.length_take]
        omega
      have er : (m ++ cpM (ps.take i))[r]? = some (.lst (p3D q)) := by rw [List.getElem?_append_left rlt]; exact e
      rw [tk] at ih
      obtain ⟨M, hM⟩ : ∃ M, M = m ++ cpM (ps.take i) := ⟨_, rfl⟩
      rw [← hM] at ih ml er ⊢
      have g4 : (g.set 4 (some (.ref r)))[4]? = some (some (.ref r)) := List.getElem?_set_self (by omega)
      have el : noX (newE (bE listB (consA (vE 4) nilA))) (g.set 4 (some (.ref r))) M = .ok (.ref M.length) (M ++ [.lst (p3D q)]) := by
        obtain ⟨Z, hZ⟩ : ∃ Z, Z = p3D q := ⟨_, rfl⟩
        rw [← hZ] at er ⊢
        simp [g4, er]
      simp only [nmG, R.bind_ok, yesT, if_true, el, ih]
      rw [ml, show ps.length - i = (ps.length - (i + 1)) + 1 by omega, List.range'_succ]
      rfl
    · rw [List.getElem?_map, List.getElem?_eq_none (by omega), show ps.length - i = 0 by omega, List.take_of_length_le (by omega)]
      rfl
theorem sn_walk (W : Whl a b k) {row : List Nat} (hr : ∀ c ∈ row, IsPul c) (hl : row.length ≤ 400) {x7 x8 : Option D} : ∀ (K i : Nat) (m : Mem) (qs : List Prt) (x4 x5 x6 : Option D), M12 m rs qs pp → Clo m → (∀ q ∈ qs.drop i, q.s.p < a.length ∧ q.t.length ≤ 100000) → i ≤ qs.length → qs.length < i + K →
    ∃ y4 y5 y6 m', forVL 5 (nmG 4) bd12 K i [some (.ref 5), some (.ref 6), some (whD a b k), some (sdD row), x4, x5, x6, x7, x8] m = .ok (.nx [some (.ref 5), some (.ref 6), some (whD a b k), some (sdD row), y4, y5, y6, x7, x8]) m' ∧ M12 m' rs (qs.take i ++ (qs.drop i).map (sn1 a b k row)) pp ∧ Clo m' ∧ Lo5 m m' ∧ m'.length = m.length
  | 0, i, m, qs, x4, x5, x6, h, cl, hq, h1, h2 => by omega
  | K + 1, i, m, qs, x4, x5, x6, h, cl, hq, h1, h2 => by
    have rl := h.hm.len
    unfold forVL
    rw [h.md]
    dsimp only
    by_cases hi : i < qs.length
    · have hri : rs[i]? = some (rs[i]'(by omega)) := List.getElem?_eq_getElem (by omega)
      obtain ⟨q, hqi, e⟩ := h.hm.at hri
      obtain ⟨r, hrr⟩ : ∃ r, r = rs[i]'(by omega) := ⟨_, rfl⟩
      rw [← hrr] at e hri
      have r7 := h.lo r (List.mem_append_left _ (List.mem_of_getElem? hri))
      rw [List.getElem?_map, hri]
      simp only [Option.map_some]
      have dq : qs.drop i = q :: qs.drop (i + 1) := by
        rw [List.drop_eq_getElem_cons hi, (List.getElem?_eq_some_iff.mp hqi).2]
      obtain ⟨q1, q2⟩ := hq q (by rw [dq]; exact List.mem_cons_self)
      have bo := bd_one (m := m) W hr hl q1 q2 e (x5 := x5) (x6 := x6) (x7 := x7) (x8 := x8)
      have u := h.upd hri (sn1 a b k row q)
      have cl1 : Clo (m.set r (.lst (p3D (sn1 a b k row q)))) := clo_set cl (p3D_cl _ _)
      have ds : (qs.set i (sn1 a b k row q)).drop (i + 1) = qs.drop (i + 1) := by rw [List.drop_set_of_lt (by omega)]
      obtain ⟨y4, y5, y6, m', e', h', c', lo', l'⟩ := sn_walk W hr hl K (i + 1) (m.set r (.lst (p3D (sn1 a b k row q)))) (qs.set i (sn1 a b k row q)) (some (.ref r)) (some (.lst ((wsl q.w).map slD1))) (some (.str (run a b k q.s (slp row (wsl q.w))).2)) u cl1 (fun z hz => hq z (by rw [ds] at hz; rw [dq]; exact List.mem_cons_of_mem _ hz)) (by rw [List.length_set]; omega) (by rw [List.length_set]; omega)
      refine ⟨y4, y5, y6, m', ?_, ?_, c', fun j hj => by rw [lo' j hj, List.getElem?_set_ne (by omega)], by rw [l', List.length_set]⟩
      · simp only [nmG, R.bind_ok, List.set_cons_succ, List.set_cons_zero]
        rw [bo, R.bind_ok]
        exact e'
      · rw [ds] at h'
        have tk : (qs.set i (sn1 a b k row q)).take (i + 1) = qs.take i ++ [sn1 a b k row q] := by
          rw [List.take_add_one, List.take_set_of_le (Nat.le_refl _), List.getElem?_set_self hi]
          rfl
        rw [tk] at h'
        rw [dq, List.map_cons]
        simpa using h'
    · rw [List.getElem?_map, List.getElem?_eq_none (by omega)]
      refine ⟨x4, x5, x6, m, rfl, ?_, cl, fun _ _ => rfl, rfl⟩
      rw [List.drop_eq_nil_of_le (by omega), List.take_of_length_le (by omega), List.map_nil, List.append_nil]
      exact h
theorem own_send (W : Whl a b k) (h : M12 m rs ps pp) (cl : Clo m) {row : List Nat} (hr : ∀ c ∈ row, IsPul c) (hl : row.length ≤ 400) (hq : ∀ q ∈ ps, q.s.p < a.length ∧ q.t.length ≤ 100000) (hpl : ps.length ≤ 100) (h1 : 1 ≤ ps.length) (hppl : pp.length ≤ 100) :
    ∃ m' os, m_law_own [.ref 5, .ref 6, whD a b k, sdD row] m = .ok .non m' ∧ M12 m' rs (sndP a b k row ps) (pp ++ [(row, os, ps)]) ∧ Clo m' ∧ Lo5 m m' ∧ m.length ≤ m'.length := by
  have rl := h.hm.len
  have l6 := h.l6
  have l : ∀ q : Nat, q ≤ 1000 → q ≤ lim := fun q hq => by unfold lim; omega
  have rlt : ∀ r ∈ rs ++ refsP pp, r < m.length := fun r hr => by
    rcases List.mem_append.mp hr with hr | hr
    · exact ref_lt cl h.md r hr
    · obtain ⟨q, hq, hr⟩ := List.mem_flatten.mp hr
      obtain ⟨p, hp, rfl⟩ := List.mem_map.mp hq
      obtain ⟨q, e⟩ := (h.hp p hp).mem hr
      exact lt_of e
  obtain ⟨os, hos⟩ : ∃ os, os = List.range' m.length ps.length := ⟨_, rfl⟩
  have osl : os.length = ps.length := by rw [hos]; simp
  have osm : ∀ r ∈ os, m.length ≤ r ∧ r < m.length + ps.length := fun r hr => by
    rw [hos] at hr
    have := List.mem_range'_1.mp hr
    exact this
  obtain ⟨m1, hm1⟩ : ∃ m1, m1 = m ++ cpM ps := ⟨_, rfl⟩
  have l1 : m1.length = m.length + ps.length := by rw [hm1]; simp
  have ap : ∀ i, i < m.length → m1[i]? = m[i]? := fun i hi => by rw [hm1, List.getElem?_append_left hi]
  have cw := cp_walk (g := [some (.ref 5), some (.ref 6), some (whD a b k), some (sdD row), none, none, none, none, none]) rfl h.md (by omega) h.hm (fun r hr => rlt r (List.mem_append_left _ hr)) hpl 1000 0 (by omega) (by omega)
  rw [show ps.take 0 = [] from rfl, show cpM [] = [] from rfl, List.append_nil, Nat.add_zero, Nat.sub_zero, ← hos, ← hm1] at cw
  have cl1 : Clo m1 := by
    rw [hm1]
    exact clo_all (fun x hx j => by
      obtain ⟨q, _, rfl⟩ := List.mem_map.mp hx
      exact p3D_cl _ _) cl
  obtain ⟨m2, hm2⟩ : ∃ m2, m2 = m1.set 6 (.lst ((pp ++ [(row, os, ps)]).map pdY)) := ⟨_, rfl⟩
  have l2 : m2.length = m1.length := by rw [hm2, List.length_set]
  have st : ∀ i, i ≠ 6 → m2[i]? = m1[i]? := fun i h6 => by rw [hm2, List.getElem?_set_ne (Ne.symm h6)]
  have a6 : m2[6]? = some (.lst ((pp ++ [(row, os, ps)]).map pdY)) := by rw [hm2, List.getElem?_set_self (by omega)]
  have pc : D.clL m1.length (pp.map pdY) = true := by
    have := clo_at cl1 (show m1[6]? = some (.lst (pp.map pdY)) by rw [ap 6 l6]; exact h.pa)
    exact this
  have cl2 : Clo m2 := by
    rw [hm2]
    refine clo_set cl1 (clL_all fun d hd => ?_)
    rw [List.map_append] at hd
    rcases List.mem_append.mp hd with hd | hd
    · exact clL_mem pc d hd
    · rw [List.map_cons, List.map_nil, List.mem_singleton] at hd
      rw [hd]
      have := refs_cl (j := m1.length) (rs := os) fun r hr => by have := (osm r hr).2; omega
      simp [pdY, D.cl, D.clL, this]
  have h2 : M12 m2 rs ps (pp ++ [(row, os, ps)]) := by
    have old : ∀ r ∈ rs ++ refsP pp, m2[r]? = m[r]? := fun r hr => by
      have := h.lo r hr
      rw [st r (by omega), ap r (rlt r hr)]
    refine ⟨by rw [st 5 (by decide), ap 5 (by omega)]; exact h.md, a6, h.hm.same fun r hr => old r (List.mem_append_left _ hr), fun p hp => ?_, ?_, fun r hr => ?_⟩
    · rcases List.mem_append.mp hp with hp | hp
      · exact (h.hp p hp).same fun r hr => old r (List.mem_append_right _ (refsP_mem hp hr))
      · rw [List.mem_singleton.mp hp]
        show Hold m2 os ps
        unfold Hold
        refine List.ext_getElem? fun i => ?_
        rw [List.getElem?_map, List.getElem?_map]
        by_cases hi : i < ps.length
        · have e1 : os[i]? = some (m.length + i) := by
            rw [hos, List.getElem?_range' (by omega)]
            simp
          rw [e1, List.getElem?_eq_getElem hi]
          simp only [Option.map_some]
          rw [st _ (by omega), hm1, List.getElem?_append_right (by omega)]
          simp [cpM, hi]
        · rw [List.getElem?_eq_none (by omega), List.getElem?_eq_none (by omega)]
          rfl
    · rw [refsP_app]
      have n1 := List.nodup_append.mp h.nd
      rw [← List.append_assoc]
      refine List.nodup_append.mpr ⟨h.nd, by rw [hos]; exact List.nodup_range', fun x hx y hy e => ?_⟩
      have := rlt x hx
      have := (osm y hy).1
      omega
    · rw [refsP_app, ← List.append_assoc] at hr
      rcases List.mem_append.mp hr with hr | hr
      · exact h.lo r hr
      · have := (osm r hr).1
        omega
  obtain ⟨y4, y5, y6, m3, e3, h3, c3, lo3, l3⟩ := sn_walk W hr hl (x7 := none) (x8 := none) 1000 0 m2 ps none none none h2 cl2 (fun q hq' => hq q (by simpa using hq')) (by omega) (by omega)
  rw [show ps.take 0 = [] from rfl, List.nil_append, show ps.drop 0 = ps from rfl, sn1_all] at h3
  refine ⟨m3, os, ?_, h3, c3, fun i hi => by rw [lo3 i hi, st i (by omega), ap i (by omega)], by omega⟩
  have g : gcR m.length .non m3 = .ok .non m3 := gc_keep (i := 6) l6 h3.pa (by
    rw [Bool.eq_false_iff]
    intro z
    have z1 := clL_mem z (pdY (row, os, ps)) (by rw [List.map_append]; simp)
    have o0 : m.length ∈ os := by rw [hos]; exact List.mem_range'_1.mpr ⟨Nat.le_refl _, by omega⟩
    have z2 : D.clL m.length (os.map D.ref) = true := by simpa [pdY, D.cl, D.clL] using z1
    have := clL_mem z2 (.ref m.length) (List.mem_map.mpr ⟨_, o0, rfl⟩)
    simp [D.cl] at this)
  have hpa := h.pa
  have pa1 : m1[6]? = some (.lst (pp.map pdY)) := by rw [ap 6 l6]; exact hpa
  have ppl : (pp.map pdY).length < lim := by rw [List.length_map]; unfold lim; omega
  have hm2' : m2 = m1.set 6 (.lst (pp.map pdY ++ [.tup [.str row, .lst (os.map D.ref)]])) := by rw [hm2, List.map_append]; rfl
  have e1 : exS (mtE appM (vE 1) (consA (tupE (consA (opE LW.getD (vE 3) (cE (.int 1))) (consA (lcVE 1000 (vE 0) [4] (nmG 4) yesT (noX (newE (bE listB (consA (vE 4) nilA))))) nilA))) nilA)) [some (.ref 5), some (.ref 6), some (whD a b k), some (sdD row), none, none, none, none, none] m = .ok (.nx [some (.ref 5), some (.ref 6), some (whD a b k), some (sdD row), none, none, none, none, none]) m2 := by
    obtain ⟨P, hP⟩ : ∃ P, P = pp.map pdY := ⟨_, rfl⟩
    obtain ⟨O, hO⟩ : ∃ O, O = os.map D.ref := ⟨_, rfl⟩
    rw [← hP] at hpa pa1 ppl hm2'
    rw [← hO] at hm2' cw
    have wp : wipeD [some (.ref 5), some (.ref 6), some (whD a b k), some (sdD row), none, none, none, none, none] [4] = [some (.ref 5), some (.ref 6), some (whD a b k), some (sdD row), none, none, none, none, none] := rfl
    have lc : lcVE 1000 (vE 0) [4] (nmG 4) yesT (noX (newE (bE listB (consA (vE 4) nilA)))) [some (.ref 5), some (.ref 6), some (whD a b k), some (sdD row), none, none, none, none, none] m = .ok (.lst O) m1 := by
      have v0 : vE 0 [some (.ref 5), some (.ref 6), some (whD a b k), some (sdD row), none, none, none, none, none] m = .ok (.ref 5) m := rfl
      simp only [lcVE, v0, R.bind_ok, wp, cw]
    simp [-lcVE, lc, hpa, pa1, ppl, l, hm2']
  have e2 : forVS 1000 (vE 0) (nmG 4) bd12 [some (.ref 5), some (.ref 6), some (whD a b k), some (sdD row), none, none, none, none, none] m2 = .ok (.nx [some (.ref 5), some (.ref 6), some (whD a b k), some (sdD row), y4, y5, y6, none, none]) m3 := by
    have v0 : vE 0 [some (.ref 5), some (.ref 6), some (whD a b k), some (sdD row), none, none, none, none, none] m2 = .ok (.ref 5) m2 := rfl
    simp only [forVS, v0, R.bind_ok]
    exact e3
  unfold bd12 at e2
  unfold m_law_own fnS b_law_own
  simp [-exS, -forVS, e1, e2, l, g]
end
end LW
/-! PyJ: k12: what the office does, what is refused, the two compared. -/
namespace LW
section
variable {a b : List Nat} {k : Int} {m : Mem} {rs : List Nat} {ps : List Prt} {pp : List PD} {past : List PDeed}
abbrev rfJ (j : Nat) : D := .tup [.str [114, 101, 102, 117, 115, 101, 100], .int j]
theorem gc_eq {m m' : Mem} {d : D} (h : m'.length = m.length) : gcR m.length d m' = .ok d m' := by
  unfold gcR
  rw [if_pos (by omega)]
theorem do_come (S : OfAt m 1 2 a b k ps past) {d : D} {z : D} {m' : Mem} (e : m_Office_come [.ref 1, d] m = .ok z m') (hl : m'.length = m.length) : m_law_do [.ref 1, .tup [.str [99, 111, 109, 101], d]] m = .ok z m' := by
  have l : ∀ q : Nat, q ≤ 10 → q ≤ lim := fun q hq => by unfold lim; omega
  have x21 : ixD 2 1 = some 1 := rfl
  have c : methE "Office" "come" m_Office_come (vE 0) (consA (opE LW.getD (vE 1) (cE (.int 1))) nilA) [some (.ref 1), some (.tup [.str [99, 111, 109, 101], d]), none] m = .ok z m' := ex_meth S (by decide) (by simp) (xs := [d]) (m1 := m) (by simp [x21]) e
  have g := gc_eq (d := z) hl
  simp [m_law_do, b_law_do, fnS, -methE, c, g]
theorem do_come_no (S : OfAt m 1 2 a b k ps past) {d : D} (e : m_Office_come [.ref 1, d] m = .exc "NoStand" m) : m_law_do [.ref 1, .tup [.str [99, 111, 109, 101], d]] m = .ok (rfJ 1) m := by
  have x21 : ixD 2 1 = some 1 := rfl
  have c : methE "Office" "come" m_Office_come (vE 0) (consA (opE LW.getD (vE 1) (cE (.int 1))) nilA) [some (.ref 1), some (.tup [.str [99, 111, 109, 101], d]), none] m = .exc "NoStand" m := ex_meth S (by decide) (by simp) (xs := [d]) (m1 := m) (by simp [x21]) e
  simp [m_law_do, b_law_do, fnS, -methE, c, ixR, List.findIdx?_cons]
theorem do_send (S : OfAt m 1 2 a b k ps past) {d : D} {z : D} {m' : Mem} (e : m_Office_send [.ref 1, d] m = .ok z m') (hl : m'.length = m.length) : m_law_do [.ref 1, .tup [.str [115, 101, 110, 100], d]] m = .ok z m' := by
  have x21 : ixD 2 1 = some 1 := rfl
  have c : methE "Office" "send" m_Office_send (vE 0) (consA (opE LW.getD (vE 1) (cE (.int 1))) nilA) [some (.ref 1), some (.tup [.str [115, 101, 110, 100], d]), none] m = .ok z m' := ex_meth S (by decide) (by simp) (xs := [d]) (m1 := m) (by simp [x21]) e
  have g := gc_eq (d := z) hl
  simp [m_law_do, b_law_do, fnS, -methE, c, g]
theorem do_send_no (S : OfAt m 1 2 a b k ps past) {d : D} (e : m_Office_send [.ref 1, d] m = .exc "NoRow" m) : m_law_do [.ref 1, .tup [.str [115, 101, 110, 100], d]] m = .ok (rfJ 2) m := by
  have x21 : ixD 2 1 = some 1 := rfl
  have c : methE "Office" "send" m_Office_send (vE 0) (consA (opE LW.getD (vE 1) (cE (.int 1))) nilA) [some (.ref 1), some (.tup [.str [115, 101, 110, 100], d]), none] m = .exc "NoRow" m := ex_meth S (by decide) (by simp) (xs := [d]) (m1 := m) (by simp [x21]) e
  simp [m_law_do, b_law_do, fnS, -methE, c, ixR, List.findIdx?_cons]
theorem do_slip (S : OfAt m 1 2 a b k ps past) {d d' : D} {z : D} {m' : Mem} (e : m_Office_slip [.ref 1, d, d'] m = .ok z m') (hl : m'.length = m.length) : m_law_do [.ref 1, .tup [.str [115, 108, 105, 112], d, d']] m = .ok z m' := by
  have x31 : ixD 3 1 = some 1 := rfl
  have x32 : ixD 3 2 = some 2 := rfl
  have c : methE "Office" "slip" m_Office_slip (vE 0) (consA (opE LW.getD (vE 1) (cE (.int 1))) (consA (opE LW.getD (vE 1) (cE (.int 2))) nilA)) [some (.ref 1), some (.tup [.str [115, 108, 105, 112], d, d']), none] m = .ok z m' := ex_meth S (by decide) (by simp) (xs := [d, d']) (m1 := m) (by simp [x31, x32]) e
  have g := gc_eq (d := z) hl
  simp [m_law_do, b_law_do, fnS, -methE, c, g]
theorem do_slip_no (S : OfAt m 1 2 a b k ps past) {d d' : D} {j : Nat} {c : String} (hj : ixR ["NoWheels", "NoStand", "NoRow", "NoSlips", "NoText", "NoPlace", "NoPrinter", "NoWord", "Nothing"] ["NoPrinter", "NoRow", "NoStand", "NoWheels", "NoWord", "Nothing"] c = some j) (e : m_Office_slip [.ref 1, d, d'] m = .exc c m) : m_law_do [.ref 1, .tup [.str [115, 108, 105, 112], d, d']] m = .ok (rfJ j) m := by
  have x31 : ixD 3 1 = some 1 := rfl
  have x32 : ixD 3 2 = some 2 := rfl
  have c : methE "Office" "slip" m_Office_slip (vE 0) (consA (opE LW.getD (vE 1) (cE (.int 1))) (consA (opE LW.getD (vE 1) (cE (.int 2))) nilA)) [some (.ref 1), some (.tup [.str [115, 108, 105, 112], d, d']), none] m = .exc c m := ex_meth S (by decide) (by simp) (xs := [d, d']) (m1 := m) (by simp [x31, x32]) e
  simp [m_law_do, b_law_do, fnS, -methE, c, hj]
theorem do_back (S : OfAt m 1 2 a b k ps past) {z : D} {m' : Mem} (e : m_Office_back [.ref 1] m = .ok z m') (hl : m'.length = m.length) : m_law_do [.ref 1, bkD] m = .ok z m' := by
  have c : methE "Office" "back" m_Office_back (vE 0) nilA [some (.ref 1), some bkD, none] m = .ok z m' := ex_meth S (by decide) (by simp) (xs := []) (m1 := m) rfl e
  have g := gc_eq (d := z) hl
  simp [m_law_do, b_law_do, fnS, -methE, c, g]
theorem do_back_no (S : OfAt m 1 2 a b k ps past) (e : m_Office_back [.ref 1] m = .exc "Nothing" m) : m_law_do [.ref 1, bkD] m = .ok rf8 m := by
  have c : methE "Office" "back" m_Office_back (vE 0) nilA [some (.ref 1), some bkD, none] m = .exc "Nothing" m := ex_meth S (by decide) (by simp) (xs := []) (m1 := m) rfl e
  simp [m_law_do, b_law_do, fnS, -methE, c, ixR, List.findIdx?_cons]
/-! ### what is refused -/
theorem bad_come (S : OfAt m 1 2 a b k ps past) (W : Whl a b k) {d : D} (hd : d = .non ∨ d = .tup [.int 0, .str [108]]) : m_law_do [.ref 1, .tup [.str [99, 111, 109, 101], d]] m = .ok (rfJ 1) m := by
  have e0 := need_wheels_spec W m
  have e1 : m_is_stand [whD a b k, d] m = .ok (.bl false) m := by
    rcases hd with rfl | rfl
    · simp [m_is_stand, b_is_stand, fnS]
    · simp [m_is_stand, b_is_stand, fnS]
  have ns1 : m_need_stand [whD a b k, d] m = .exc "NoStand" m := by simp [m_need_stand, b_need_stand, fnS, e0, e1, gcX]
  refine do_come_no S ?_
  have at_ := S.at_
  obtain ⟨X, hX⟩ : ∃ X, X = sO ps := ⟨_, rfl⟩
  obtain ⟨Y, hY⟩ : ∃ Y, Y = tO ps := ⟨_, rfl⟩
  obtain ⟨Z, hZ⟩ : ∃ Z, Z = wO ps := ⟨_, rfl⟩
  rw [← hX, ← hY, ← hZ] at at_
  simp [m_Office_come, b_Office_come, fnS, at_, flook, ns1]
theorem bad_send (S : OfAt m 1 2 a b k ps past) {d : D} (hd : d = .non ∨ d = .str [120]) : m_law_do [.ref 1, .tup [.str [115, 101, 110, 100], d]] m = .ok (rfJ 2) m := by
  have l : ∀ k : Nat, k ≤ 20 → k ≤ lim := fun k hk => by unfold lim; omega
  have e1 : m_is_row [d, .int 400] m = .ok (.bl false) m := by
    rcases hd with rfl | rfl
    · simp [m_is_row, b_is_row, fnS, l]
    · simp [m_is_row, b_is_row, fnS, l, lcL, c_PULSES]
  have ns1 : m_need_row [d, .int 400] m = .exc "NoRow" m := by simp [m_need_row, b_need_row, fnS, e1, gcX]
  refine do_send_no S ?_
  simp [m_Office_send, b_Office_send, fnS, ns1]
theorem bad_slip (S : OfAt m 1 2 a b k ps past) (hl : ps.length ≤ 100) : m_law_do [.ref 1, .tup [.str [115, 108, 105, 112], .int (ps.length : Nat), .str [108, 111, 115, 116]]] m = .ok (rfJ 6) m := by
  refine do_slip_no S (c := "NoPrinter") (by rfl) ?_
  have at_ := S.at_
  have Xl : (sO ps).length = ps.length := by simp
  obtain ⟨X, hX⟩ : ∃ X, X = sO ps := ⟨_, rfl⟩
  obtain ⟨Y, hY⟩ : ∃ Y, Y = tO ps := ⟨_, rfl⟩
  obtain ⟨Z, hZ⟩ : ∃ Z, Z = wO ps := ⟨_, rfl⟩
  rw [← hX] at Xl
  rw [← hX, ← hY, ← hZ] at at_
  have l : ps.length ≤ lim := by unfold lim; omega
  have n : ¬ (ps.length : Int) ≤ (ps.length : Int) - 1 := by omega
  simp [m_Office_slip, b_Office_slip, fnS, at_, flook, Xl, l, n]
theorem bad_word (S : OfAt m 1 2 a b k ps past) (hl : ps.length ≤ 100) (h1 : 1 ≤ ps.length) : m_law_do [.ref 1, .tup [.str [115, 108, 105, 112], .int 0, .str [103, 111, 110, 101]]] m = .ok (rfJ 7) m := by
  refine do_slip_no S (c := "NoWord") (by rfl) ?_
  have at_ := S.at_
  have Xl : (sO ps).length = ps.length := by simp
  obtain ⟨X, hX⟩ : ∃ X, X = sO ps := ⟨_, rfl⟩
  obtain ⟨Y, hY⟩ : ∃ Y, Y = tO ps := ⟨_, rfl⟩
  obtain ⟨Z, hZ⟩ : ∃ Z, Z = wO ps := ⟨_, rfl⟩
  rw [← hX] at Xl
  rw [← hX, ← hY, ← hZ] at at_
  have l : ps.length ≤ lim := by unfold lim; omega
  have n : (0 : Int) ≤ (ps.length : Int) - 1 := by omega
  have n' : (1 : Int) ≤ (ps.length : Int) := by omega
  have l2 : 2 ≤ lim := by unfold lim; omega
  simp [m_Office_slip, b_Office_slip, fnS, at_, flook, Xl, l, n, n', h1, l2]
/-! ### the two compared -/
theorem md_walk (h : M12 m rs ps pp) {g : Env} (hg : g.length = 3) {e : Ex} {F : Prt → D} (hl : ps.length ≤ 100) (he : ∀ r q, m[r]? = some (.lst (p3D q)) → e (g.set 2 (some (.ref r))) m = .ok (F q) m) : lcVL 5 (nmG 2) yesT e g 1000 0 m = .ok (ps.map F) m := by
  have rl := h.hm.len
  have c := lcVL_all (n := 5) (t := nmG 2) (e := e) (g := g) (m := m) (f := fun d => match d with | .ref r => (match e (g.set 2 (some (.ref r))) m with | .ok x _ => x | _ => .non) | _ => .non) h.md (by simp; omega) (fun d hd => by
    obtain ⟨r, hr, rfl⟩ := List.mem_map.mp hd
    obtain ⟨q, hq⟩ := h.hm.mem hr
    refine ⟨_, rfl, ?_⟩
    dsimp only
    rw [he r q hq])
  rw [c, List.map_map]
  congr 1
  refine Hold.map (fun r q hq => ?_) h.hm
  show (match e (g.set 2 (some (.ref r))) m with | .ok x _ => x | _ => D.non) = F q
  rw [he r q hq]
theorem same_spec (S : OfAt m 1 2 a b k ps past) (h : M12 m rs ps pp) (hl : ps.length ≤ 50) : m_law_same [.ref 1, .ref 5] m = .ok (.bl true) m := by
  have rl := h.hm.len
  have l : ∀ q : Nat, q ≤ 1000 → q ≤ lim := fun q hq => by unfold lim; omega
  have x30 : ixD 3 0 = some 0 := rfl
  have x31 : ixD 3 1 = some 1 := rfl
  have i1 : methE "Office" "stands" m_Office_stands (vE 0) nilA [some (.ref 1), some (.ref 5), none] m = .ok (.lst (sO ps)) m := ex_meth S (by decide) (by simp) (xs := []) (m1 := m) rfl (ofs_stands S)
  have i2 : methE "Office" "tapes" m_Office_tapes (vE 0) nilA [some (.ref 1), some (.ref 5), none] m = .ok (.lst (tO ps)) m := ex_meth S (by decide) (by simp) (xs := []) (m1 := m) rfl (ofs_tapes S)
  have i3 : methE "Office" "in_step" m_Office_in_step_k12 (vE 0) nilA [some (.ref 1), some (.ref 5), none] m = .ok (.bl (decide (Tog (ps.map fun q => q.s)))) m := ex_meth S (by decide) (by simp) (xs := []) (m1 := m) rfl (ofs_in_step S (by omega))
  have w1 := md_walk h (g := [some (.ref 1), some (.ref 5), none]) rfl (e := noX (opE LW.getD (vE 2) (cE (.int 0)))) (F := fun q => stD q.s) (by omega) (fun r q hq => by
    have h3 : m[r]? = some (.lst [stD q.s, .str q.t, wtD q.w]) := hq
    simp [h3, x30, l])
  have w2 := md_walk h (g := [some (.ref 1), some (.ref 5), none]) rfl (e := noX (opE LW.getD (vE 2) (cE (.int 1)))) (F := fun q => .str q.t) (by omega) (fun r q hq => by
    have h3 : m[r]? = some (.lst [stD q.s, .str q.t, wtD q.w]) := hq
    simp [h3, x31, l])
  have hmd := h.md
  obtain ⟨G, hG⟩ : ∃ G : Prt → Bool, ∀ q ∈ ps, ∀ q0, ps[0]? = some q0 → G q = decide (q.s.p = q0.s.p ∧ q.s.f = q0.s.f) := by
    cases ps with
    | nil => exact ⟨fun _ => true, fun q hq => by cases hq⟩
    | cons q0 r => exact ⟨fun q => decide (q.s.p = q0.s.p ∧ q.s.f = q0.s.f), fun q _ z hz => by cases hz; rfl⟩
  have w3 : ∃ GG : Prt → Bool, (lcVL 5 (nmG 2) yesT (noX (opE eqD (slE slD (opE LW.getD (vE 2) (cE (.int 0))) noO (someO (cE (.int 2)))) (slE slD (opE LW.getD (opE LW.getD (vE 1) (cE (.int 0))) (cE (.int 0))) noO (someO (cE (.int 2)))))) [some (.ref 1), some (.ref 5), none] 1000 0 m = .ok (ps.map fun q => .bl (GG q)) m) ∧ (ps.all GG = decide (Tog (ps.map fun q => q.s))) := by
    cases hps : ps with
    | nil =>
      refine ⟨fun _ => true, ?_, by decide⟩
      rw [hps] at h rl
      have r0 : rs = [] := List.eq_nil_of_length_eq_zero (by simpa using rl)
      have hmd := h.md
      rw [r0] at hmd
      unfold lcVL
      rw [hmd]
      rfl
    | cons q0 qs =>
      rw [hps] at h rl
      have hr0 : rs[0]? = some (rs[0]'(by simp at rl; omega)) := List.getElem?_eq_getElem _
      obtain ⟨r0, hr0'⟩ : ∃ r0, rs[0]? = some r0 := ⟨_, hr0⟩
      obtain ⟨z, hz, e0⟩ := h.hm.at hr0'
      cases hz
      refine ⟨fun q => decide (q.s.p = q0.s.p ∧ q.s.f = q0.s.f), ?_, ?_⟩
      · refine md_walk h rfl (F := fun q => .bl (decide (q.s.p = q0.s.p ∧ q.s.f = q0.s.f))) (by rw [← hps]; omega) (fun r q hq => ?_)
        have h3 : m[r]? = some (.lst [stD q.s, .str q.t, wtD q.w]) := hq
        have h4 : m[r0]? = some (.lst [stD q0.s, .str q0.t, wtD q0.w]) := e0
        have gr : (rs.map D.ref)[0]? = some (.ref r0) := by rw [List.getElem?_map, hr0']; rfl
        have Rl : (rs.map D.ref).length = rs.length := by simp
        obtain ⟨R, hR⟩ : ∃ R, R = rs.map D.ref := ⟨_, rfl⟩
        rw [← hR] at hmd gr Rl
        have gr' : ∀ z, R[0]'z = .ref r0 := fun z => by
          rw [List.getElem?_eq_getElem z] at gr
          exact Option.some.inj gr
        have rl' : rs.length = ps.length := by rw [rl, hps]
        have pp0 : 0 < ps.length := by rw [hps]; simp
        have Rp : 0 < R.length := by omega
        have ix : ixD R.length ((0 : Nat) : Int) = some 0 := ixD_nat Rp
        rw [show ((0 : Nat) : Int) = 0 from rfl] at ix
        have Rll : R.length ≤ lim := l _ (by omega)
        have c2 : ∀ s : Std, cutD [D.int s.p, .str [wc s.f], .int s.i] none (some 2) = [.int s.p, .str [wc s.f]] := fun s => by simp [cutD, sIxD]
        have wf : (([wc q.s.f] : List Nat) == [wc q0.s.f]) = decide (q.s.f = q0.s.f) := by cases q.s.f <;> cases q0.s.f <;> rfl
        have pf : (((q.s.p : Nat) : Int) == ((q0.s.p : Nat) : Int)) = decide (q.s.p = q0.s.p) := by
          rw [Bool.eq_iff_iff, beq_iff_eq, decide_eq_true_eq]
          omega
        simp [h3, h4, hmd, gr', ix, Rp, Rll, x30, l, c2, D.eqv, D.eqvL, wf, pf, -wc]
      · rw [Bool.eq_iff_iff, List.all_eq_true, decide_eq_true_eq]
        constructor
        · intro hh x hx y hy
          obtain ⟨u, hu, rfl⟩ := List.mem_map.mp hx
          obtain ⟨v, hv, rfl⟩ := List.mem_map.mp hy
          have h1 := of_decide_eq_true (hh u hu)
          have h2 := of_decide_eq_true (hh v hv)
          exact ⟨h1.1.trans h2.1.symm, h1.2.trans h2.2.symm⟩
        · intro hh q hq
          exact decide_eq_true (hh q.s (List.mem_map.mpr ⟨q, hq, rfl⟩) q0.s (List.mem_map.mpr ⟨q0, List.mem_cons_self, rfl⟩))
  obtain ⟨GG, w3, ga⟩ := w3
  have al := allB_fn (m := m) (xs := ps) (G := GG)
  rw [ga] at al
  have y1 := sO_sh 7 ps
  have y2 := tO_sh 8 ps
  have y3 := sO_self ps
  have y4 := tO_self ps
  have w1' : lcVL 5 (nmG 2) yesT (noX (opE LW.getD (vE 2) (cE (.int 0)))) [some (.ref 1), some (.ref 5), none] 1000 0 m = .ok (sO ps) m := w1
  have w2' : lcVL 5 (nmG 2) yesT (noX (opE LW.getD (vE 2) (cE (.int 1)))) [some (.ref 1), some (.ref 5), none] 1000 0 m = .ok (tO ps) m := w2
  obtain ⟨X, hX⟩ : ∃ X, X = sO ps := ⟨_, rfl⟩
  obtain ⟨Y, hY⟩ : ∃ Y, Y = tO ps := ⟨_, rfl⟩
  obtain ⟨Z, hZ⟩ : ∃ Z, Z = ps.map fun q => D.bl (GG q) := ⟨_, rfl⟩
  rw [← hX] at i1 w1' y1 y3
  rw [← hY] at i2 w2' y2 y4
  rw [← hZ] at w3 al
  have wp : wipeD [some (.ref 1), some (.ref 5), none] [2] = [some (.ref 1), some (.ref 5), none] := rfl
  have v1 : vE 1 [some (.ref 1), some (.ref 5), none] m = .ok (.ref 5) m := rfl
  have a1 : lcVE 1000 (vE 1) [2] (nmG 2) yesT (noX (opE LW.getD (vE 2) (cE (.int 0)))) [some (.ref 1), some (.ref 5), none] m = .ok (.lst X) m := by simp only [lcVE, v1, R.bind_ok, wp, w1']
  have a2 : lcVE 1000 (vE 1) [2] (nmG 2) yesT (noX (opE LW.getD (vE 2) (cE (.int 1)))) [some (.ref 1), some (.ref 5), none] m = .ok (.lst Y) m := by simp only [lcVE, v1, R.bind_ok, wp, w2']
  have a3 : lcVE 1000 (vE 1) [2] (nmG 2) yesT (noX (opE eqD (slE slD (opE LW.getD (vE 2) (cE (.int 0))) noO (someO (cE (.int 2)))) (slE slD (opE LW.getD (opE LW.getD (vE 1) (cE (.int 0))) (cE (.int 0))) noO (someO (cE (.int 2)))))) [some (.ref 1), some (.ref 5), none] m = .ok (.lst Z) m := by simp only [lcVE, v1, R.bind_ok, wp, w3]
  unfold m_law_same fnS b_law_same
  simp [-methE, -lcVE, i1, i2, i3, a1, a2, a3, y1, y2, y3, y4, al, -allB]
end
end LW
/-! PyK: k12: the call that is drawn. -/
namespace LW
inductive Cl12 where
  | come (s : Std) | send (row : List Nat) | slip (i : Nat) (w : Bool) | back
def clD : Cl12 → D
  | .come s => cmD s
  | .send row => sdD row
  | .slip i w => spD12 i w
  | .back => bkD
def okC (a : List Nat) (k : Int) (ps : List Prt) : Cl12 → Prop
  | .come s => s.ok a k
  | .send row => (∀ c ∈ row, IsPul c) ∧ row.length ≤ 54 ∧ 1 ≤ ps.length
  | .slip i _ => i < ps.length
  | .back => True
section
variable {a b : List Nat} {k : Int} {rs : List Nat} {ps : List Prt} {pp : List PD}
theorem M12.town {t t' : Nat} {r : Mem} (h : M12 (twn t :: r) rs ps pp) : M12 (twn t' :: r) rs ps pp := h.fra fun i hi _ => by
  cases i with
  | zero => omega
  | succ i => rfl
theorem call_spec (W : Whl a b k) (h6 : a.length ≤ 6) {ns : List Int} {t : Nat} {r : Mem} (h : M12 (twn t :: r) rs ps pp) (ht : t < 800000) (hl : ps.length ≤ 50) : ∃ c t', m_law_call [.scr ns, .ref 0, whD a b k, .ref 5] (twn t :: r) = .ok (clD c) (twn t' :: r) ∧ t' ≤ t + 40 ∧ okC a k ps c := by
  have rl := h.hm.len
  have l : ∀ q : Nat, q ≤ 1000 → q ≤ lim := fun q hq => by unfold lim; omega
  obtain ⟨kind, hk, e1⟩ := draw_nat (ns := ns) (t := t) (r := r) (many := 9) (by omega) (by omega)
  rw [show ((9 : Nat) : Int) = 9 from rfl] at e1
  obtain ⟨s, hs, e2⟩ := stand_k02_spec (ns := ns) (t := t + 1) (r := r) W (by omega)
  obtain ⟨row, t3, e3, ht3, hrl, hrp⟩ := law_row_k02_len (ns := ns) (t := t + 1 + 4) (most := 3) (r := r) W h6 (by decide) (by omega)
  rw [show ((3 : Nat) : Int) = 3 from rfl] at e3
  obtain ⟨x, hx, e4⟩ := pick_spec (ns := ns) (t := t3) (r := r) (xs := [.str [108, 111, 115, 116], .str [116, 119, 105, 99, 101]]) (by simp) (by omega)
  obtain ⟨w, rfl⟩ : ∃ w, x = .str (wd w) := by
    simp only [List.mem_cons, List.not_mem_nil, or_false] at hx
    rcases hx with rfl | rfl
    · exact ⟨false, rfl⟩
    · exact ⟨true, rfl⟩
  obtain ⟨i, hi, e5⟩ := draw_nat (ns := ns) (t := t3 + 1) (r := r) (many := max 1 ps.length) (by omega) (by omega)
  have h5 : M12 (twn (t3 + 1 + 1) :: r) rs ps pp := h.town
  have ey := (cmp_md h5).1
  have md : r[4]? = some (.lst (rs.map D.ref)) := h.md
  obtain ⟨R, hR⟩ : ∃ R, R = rs.map D.ref := ⟨_, rfl⟩
  have Rl : R.length = ps.length := by rw [hR]; simpa using rl
  rw [← hR] at md
  have mx : ∀ m : Mem, max2B m [.int 1, .int (ps.length : Nat)] = some (.int ((max 1 ps.length : Nat) : Int)) := fun m => by
    have : ((max 1 ps.length : Nat) : Int) = max 1 (ps.length : Int) := by omega
    rw [this]
    unfold max2B
    simp
    try omega
  refine ⟨if kind < 2 ∨ ps = [] then .come s else if kind < 6 then .send row else if kind < 8 then .slip i w else .back, t3 + 1 + 1, ?_, by omega, ?_⟩
  · have s1 : asgS (nmG 8) (callE m_law_draw (consA (vE 0) (consA (vE 1) (consA (bE max2B (consA (cE (.int 1)) (consA (bE lenB (consA (vE 3) nilA)) nilA))) nilA)))) [some (.scr ns), some (.ref 0), some (whD a b k), some (.ref 5), some (.int kind), some (stD s), some (.str row), some (.str (wd w)), none] (twn (t3 + 1) :: r) = .ok (.nx [some (.scr ns), some (.ref 0), some (whD a b k), some (.ref 5), some (.int kind), some (stD s), some (.str row), some (.str (wd w)), some (.int i)]) (twn (t3 + 1 + 1) :: r) := by
      have le : bE lenB (consA (vE 3) nilA) [some (.scr ns), some (.ref 0), some (whD a b k), some (.ref 5), some (.int kind), some (stD s), some (.str row), some (.str (wd w)), none] (twn (t3 + 1) :: r) = .ok (.int (ps.length : Nat)) (twn (t3 + 1) :: r) := by
        simp [md, Rl, l]
      have me : bE max2B (consA (cE (.int 1)) (consA (bE lenB (consA (vE 3) nilA)) nilA)) [some (.scr ns), some (.ref 0), some (whD a b k), some (.ref 5), some (.int kind), some (stD s), some (.str row), some (.str (wd w)), none] (twn (t3 + 1) :: r) = .ok (.int ((max 1 ps.length : Nat) : Int)) (twn (t3 + 1) :: r) := by
        simp [-lenB, -max2B, le, mx]
        try simp [md, Rl, l, mx, -max2B]
      obtain ⟨mm, hmm⟩ : ∃ mm : Nat, mm = max 1 ps.length := ⟨_, rfl⟩
      rw [← hmm] at me e5
      simp [-bE, me, e5]
    have gs : ∀ d : D, gcR (twn t :: r).length d (twn (t3 + 1 + 1) :: r) = .ok d (twn (t3 + 1 + 1) :: r) := fun d => gc_same _ _
    have c2 : decide ((kind : Int) < 2) = decide (kind < 2) := by rw [Bool.eq_iff_iff, decide_eq_true_eq, decide_eq_true_eq]; omega
    have c6 : decide ((kind : Int) < 6) = decide (kind < 6) := by rw [Bool.eq_iff_iff, decide_eq_true_eq, decide_eq_true_eq]; omega
    have c8 : decide ((kind : Int) < 8) = decide (kind < 8) := by rw [Bool.eq_iff_iff, decide_eq_true_eq, decide_eq_true_eq]; omega
    unfold m_law_call
    refine fn_wp ?_
    unfold b_law_call
    refine Wp_seq (g1 := [some (.scr ns), some (.ref 0), some (whD a b k), some (.ref 5), some (.int kind), none, none, none, none]) (m1 := twn (t + 1) :: r) (by simp [e1]) ?_
    refine Wp_seq (g1 := [some (.scr ns), some (.ref 0), some (whD a b k), some (.ref 5), some (.int kind), some (stD s), some (.str row), none, none]) (m1 := twn t3 :: r) (by simp [e2, e3]) ?_
    refine Wp_seq (g1 := [some (.scr ns), some (.ref 0), some (whD a b k), some (.ref 5), some (.int kind), some (stD s), some (.str row), some (.str (wd w)), none]) (m1 := twn (t3 + 1) :: r) (by simp [e4, l]) ?_
    refine Wp_seq s1 ?_
    have q2 : ((kind : Int) < 2) ↔ kind < 2 := by omega
    have q6 : ((kind : Int) < 6) ↔ kind < 6 := by omega
    have q8 : ((kind : Int) < 8) ↔ kind < 8 := by omega
    by_cases k2 : kind < 2
    · refine Wp_of (o := .rt (cmD s)) (m1 := twn (t3 + 1 + 1) :: r) (by simp [q2, k2, l]) ⟨.inl (by simp [k2, clD]), gs _⟩
    · by_cases k0 : ps = []
      · rw [decide_eq_true k0] at ey
        refine Wp_of (o := .rt (cmD s)) (m1 := twn (t3 + 1 + 1) :: r) (by simp [-eqY, q2, k2, ey, l]) ⟨.inl (by simp [k0, clD]), gs _⟩
      · rw [decide_eq_false k0] at ey
        by_cases k6 : kind < 6
        · refine Wp_of (o := .rt (sdD row)) (m1 := twn (t3 + 1 + 1) :: r) (by simp [-eqY, q2, k2, ey, q6, k6, l]) ⟨.inl (by simp [k2, k0, k6, clD]), gs _⟩
        · by_cases k8 : kind < 8
          · refine Wp_of (o := .rt (spD12 i w)) (m1 := twn (t3 + 1 + 1) :: r) (by simp [-eqY, q2, k2, ey, q6, k6, q8, k8, l]) ⟨.inl (by simp [k2, k0, k6, k8, clD]), gs _⟩
          · refine Wp_of (o := .rt bkD) (m1 := twn (t3 + 1 + 1) :: r) (by simp [-eqY, q2, k2, ey, q6, k6, q8, k8, l]) ⟨.inl (by simp [k2, k0, k6, k8, clD]), gs _⟩
  · by_cases k2 : kind < 2 ∨ ps = []
    · rw [if_pos k2]; exact hs
    · rw [if_neg k2]
      have p1 : 1 ≤ ps.length := List.length_pos_iff.mpr fun e => k2 (.inr e)
      by_cases k6 : kind < 6
      · rw [if_pos k6]; exact ⟨hrp, by omega, p1⟩
      · rw [if_neg k6]
        by_cases k8 : kind < 8
        · rw [if_pos k8]
          show i < ps.length
          omega
        · rw [if_neg k8]; trivial
end
end LW
/-! PyL: k12: a deed of both. -/
namespace LW
structure T12 (m : Mem) (t i : Nat) (a b : List Nat) (k : Int) (rs : List Nat) (ps : List Prt) (pp : List PD) : Prop where
  O1 : OfAt m 1 2 a b k ps (pp.map fun p => (p.1, p.2.2))
  O2 : OfAt m 3 4 a b k [] []
  tw : m[0]? = some (twn t)
  cl : Clo m
  M : M12 m rs ps pp
  b1 : ps.length ≤ i
  b2 : pp.length ≤ i
  b3 : ∀ q, (q ∈ ps ∨ ∃ p ∈ pp, q ∈ p.2.2) → q.s.p < a.length ∧ q.t.length ≤ 200 * i
  b4 : ∀ p ∈ pp, p.2.2.length ≤ i
section
variable {a b : List Nat} {k : Int} {m : Mem} {t i : Nat} {rs : List Nat} {ps : List Prt} {pp : List PD}
theorem OfAt.lo {m m' : Mem} {o p : Nat} {qs : List Prt} {past : List PDeed} (S : OfAt m o p a b k qs past) (f : Lo5 m m') (h1 : o < 5) (h2 : p < 5) : OfAt m' o p a b k qs past :=
  ⟨by rw [f o h1]; exact S.at_, by rw [f p h2]; exact S.pa_⟩
theorem T12.go (h : T12 m t i a b k rs ps pp) {m1 m2 : Mem} {rs' : List Nat} {ps' : List Prt} {pp' : List PD} {j : Nat} (M1 : M12 m1 rs' ps' pp') (lo : Lo5 m m1) (S : OfAt m2 1 2 a b k ps' (pp'.map fun p => (p.1, p.2.2))) (f : Fra m1 m2 [1, 2]) (c2 : Clo m2)
    (b1 : ps'.length ≤ j) (b2 : pp'.length ≤ j) (b3 : ∀ q, (q ∈ ps' ∨ ∃ p ∈ pp', q ∈ p.2.2) → q.s.p < a.length ∧ q.t.length ≤ 200 * j) (b4 : ∀ p ∈ pp', p.2.2.length ≤ j) (l5 : 5 ≤ m1.length) : T12 m2 t j a b k rs' ps' pp' where
  O1 := S
  O2 := (h.O2.lo lo (by decide) (by decide)).fra f (by decide) (by decide)
  tw := by rw [f.2 0 (by omega) (by decide), lo 0 (by decide)]; exact h.tw
  cl := c2
  M := M1.fra fun i h5 hi => f.2 i hi (by simp; omega)
  b1 := b1
  b2 := b2
  b3 := b3
  b4 := b4
theorem ne_self {z : D} (h1 : D.sh 9 z = true) (h2 : D.eqv z z = true) (h3 : ∀ m, z.now m = z) (m : Mem) : neD m z z = some (.bl false) := by
  unfold neD
  rw [h3, h1, h2]
  rfl
/-- a step back, something being past: the model first, or the office first -/
theorem back_two {p : PD} (h : T12 m t i a b k rs ps (pp ++ [p])) (hi : i ≤ 40) : ∃ m1 m2, m_law_own [.ref 5, .ref 6, whD a b k, bkD] m = .ok (.str p.1) m1 ∧ m_law_do [.ref 1, bkD] m1 = .ok (.str p.1) m2 ∧ T12 m2 t i a b k p.2.1 p.2.2 pp := by
  have hb1 := h.b1
  have hb4 := h.b4 p (by simp)
  obtain ⟨m1, e1, M1, c1, lo, l1⟩ := own_back (a := a) (b := b) (k := k) h.M h.cl (by omega) (by omega)
  have S0 := h.O1.lo lo (by decide) (by decide)
  rw [List.map_append, List.map_cons, List.map_nil] at S0
  obtain ⟨m2, e2, S2, f2, c2, l2⟩ := ofs_back S0 c1
  have l6 := h.M.l6
  refine ⟨m1, m2, e1, do_back S0 e2 l2, h.go M1 lo S2 f2 c2 hb4 (by have := h.b2; simp at this; omega) (fun q hq => ?_) (fun p' hp' => h.b4 p' (List.mem_append_left _ hp')) (by omega)⟩
  rcases hq with hq | ⟨p', hp', hq⟩
  · exact h.b3 q (.inr ⟨p, by simp, hq⟩)
  · exact h.b3 q (.inr ⟨p', List.mem_append_left _ hp', hq⟩)
/-- the same, the office first -/
theorem back_two' {p : PD} (h : T12 m t i a b k rs ps (pp ++ [p])) (hi : i ≤ 40) : ∃ m1 m2, m_law_do [.ref 1, bkD] m = .ok (.str p.1) m1 ∧ m_law_own [.ref 5, .ref 6, whD a b k, bkD] m1 = .ok (.str p.1) m2 ∧ T12 m2 t i a b k p.2.1 p.2.2 pp := by
  have hb1 := h.b1
  have hb4 := h.b4 p (by simp)
  have S0 := h.O1
  rw [List.map_append, List.map_cons, List.map_nil] at S0
  obtain ⟨m1, e1, S1, f1, c1, l1⟩ := ofs_back S0 h.cl
  have M1 : M12 m1 rs ps (pp ++ [p]) := h.M.fra fun i h5 hi => f1.2 i hi (by simp; omega)
  obtain ⟨m2, e2, M2, c2, lo, l2⟩ := own_back (a := a) (b := b) (k := k) M1 c1 (by omega) (by omega)
  have l6 := h.M.l6
  refine ⟨m1, m2, do_back S0 e1 l1, e2, ⟨S1.lo lo (by decide) (by decide), (h.O2.fra f1 (by decide) (by decide)).lo lo (by decide) (by decide), by rw [lo 0 (by decide), f1.2 0 (by omega) (by decide)]; exact h.tw, c2, M2, hb4, by have := h.b2; simp at this; omega, fun q hq => ?_, fun p' hp' => h.b4 p' (List.mem_append_left _ hp')⟩⟩
  rcases hq with hq | ⟨p', hp', hq⟩
  · exact h.b3 q (.inr ⟨p, by simp, hq⟩)
  · exact h.b3 q (.inr ⟨p', List.mem_append_left _ hp', hq⟩)
theorem T12.mono (h : T12 m t i a b k rs ps pp) : T12 m t (i + 1) a b k rs ps pp :=
  ⟨h.O1, h.O2, h.tw, h.cl, h.M, by have := h.b1; omega, by have := h.b2; omega, fun q hq => by have := h.b3 q hq; exact ⟨this.1, by omega⟩, fun p hp => by have := h.b4 p hp; omega⟩
theorem act (W : Whl a b k) (h : T12 m t i a b k rs ps pp) (hi : i ≤ 40) {c : Cl12} (hc : okC a k ps c) : ∃ z m1 m2 rs' ps' pp', m_law_own [.ref 5, .ref 6, whD a b k, clD c] m = .ok z m1 ∧ m_law_do [.ref 1, clD c] m1 = .ok z m2 ∧ T12 m2 t (i + 1) a b k rs' ps' pp' ∧ ∀ m, neD m z z = some (.bl false) := by
  have hb1 := h.b1
  have hb2 := h.b2
  have l6 := h.M.l6
  cases c with
  | come s =>
    obtain ⟨m1, e1, M1, c1, lo, l1⟩ := own_come (a := a) (b := b) (k := k) h.M h.cl s (by omega)
    have S0 := h.O1.lo lo (by decide) (by decide)
    obtain ⟨m2, e2, S2, f2, c2, l2⟩ := ofs_come S0 W hc (by omega) c1
    refine ⟨_, m1, m2, _, _, _, e1, do_come S0 e2 l2, h.go M1 lo S2 ⟨f2.1, fun i hi hn => f2.2 i hi (fun z => hn (by simp at z ⊢; exact .inl z))⟩ c2 (by simp; omega) (by omega) (fun q hq => ?_) (fun p hp => by have := h.b4 p hp; omega) (by omega), ne_self (by simp) (by simp) (fun _ => rfl)⟩
    rcases hq with hq | hq
    · rcases List.mem_append.mp hq with hq | hq
      · have := h.b3 q (.inl hq); exact ⟨this.1, by omega⟩
      · rw [List.mem_singleton.mp hq]; exact ⟨hc.1, by simp⟩
    · have := h.b3 q (.inr hq); exact ⟨this.1, by omega⟩
  | send row =>
    obtain ⟨hr, hl, h1⟩ := hc
    have hq0 : ∀ q ∈ ps, q.s.p < a.length ∧ q.t.length ≤ 100000 := fun q hq => by have := h.b3 q (.inl hq); exact ⟨this.1, by omega⟩
    obtain ⟨m1, os, e1, M1, c1, lo, l1⟩ := own_send W h.M h.cl hr (by omega) hq0 (by omega) h1 (by omega)
    have S0 := h.O1.lo lo (by decide) (by decide)
    obtain ⟨m2, e2, S2, f2, c2, l2⟩ := ofs_send S0 W (fun q hq => (hq0 q hq).1) hr (by omega) (fun q hq => (hq0 q hq).2) (by simp; omega) h1 (by omega) c1
    have S2' : OfAt m2 1 2 a b k (sndP a b k row ps) ((pp ++ [(row, os, ps)]).map fun p => (p.1, p.2.2)) := by
      rw [List.map_append]; exact S2
    refine ⟨_, m1, m2, _, _, _, e1, do_send S0 e2 l2, h.go M1 lo S2' f2 c2 (by rw [sndP_len]; omega) (by simp; omega) (fun q hq => ?_) (fun p hp => ?_) (by omega), ne_self (by simp) (by simp) (fun _ => rfl)⟩
    · have snd : q ∈ sndP a b k row ps → q.s.p < a.length ∧ q.t.length ≤ 200 * (i + 1) := fun hq => by
        refine ⟨sndP_lt (fun q hq => (hq0 q hq).1) q hq, ?_⟩
        have := sndP_t (a := a) (b := b) (k := k) (row := row) (B := 200 * i) (fun q hq => (h.b3 q (.inl hq)).2) q hq
        omega
      rcases hq with hq | ⟨p, hp, hq⟩
      · exact snd hq
      · rcases List.mem_append.mp hp with hp | hp
        · have := h.b3 q (.inr ⟨p, hp, hq⟩); exact ⟨this.1, by omega⟩
        · rw [List.mem_singleton.mp hp] at hq
          have := h.b3 q (.inl hq); exact ⟨this.1, by omega⟩
    · rcases List.mem_append.mp hp with hp | hp
      · have := h.b4 p hp; omega
      · rw [List.mem_singleton.mp hp]
        show ps.length ≤ _
        omega
  | slip j w =>
    have hj : j < ps.length := hc
    obtain ⟨m1, e1, M1, c1, lo, l1⟩ := own_slip (a := a) (b := b) (k := k) h.M h.cl hj w (by omega)
    have S0 := h.O1.lo lo (by decide) (by decide)
    obtain ⟨m2, e2, S2, f2, c2, l2⟩ := ofs_slip S0 hj w (by omega) c1
    refine ⟨_, m1, m2, _, _, _, e1, do_slip S0 e2 l2, h.go M1 lo S2 ⟨f2.1, fun i hi hn => f2.2 i hi (fun z => hn (by simp at z ⊢; exact .inl z))⟩ c2 (by rw [setW_len hj]; omega) (by omega) (fun q hq => ?_) (fun p hp => by have := h.b4 p hp; omega) (by omega), ne_self (by simp) (by simp) (fun _ => rfl)⟩
    rcases hq with hq | hq
    · rw [setW_set hj] at hq
      rcases List.mem_or_eq_of_mem_set hq with hq | rfl
      · have := h.b3 q (.inl hq); exact ⟨this.1, by omega⟩
      · have := h.b3 ps[j] (.inl (List.getElem_mem hj))
        exact ⟨this.1, by show (ps[j]).t.length ≤ _; omega⟩
    · have := h.b3 q (.inr hq); exact ⟨this.1, by omega⟩
  | back =>
    rcases List.eq_nil_or_concat pp with rfl | ⟨pp0, p, rfl⟩
    · have e1 := own_back0 (a := a) (b := b) (k := k) h.M h.cl
      have e2 := do_back_no h.O1 (ofs_nothing h.O1)
      exact ⟨_, m, m, _, _, _, e1, e2, h.mono, ne_self (by simp) (by simp) (fun _ => rfl)⟩
    · rw [List.concat_eq_append] at h
      obtain ⟨m1, m2, e1, e2, T⟩ := back_two h hi
      exact ⟨_, m1, m2, _, _, _, e1, e2, T.mono, ne_self (by simp) (by simp) (fun _ => rfl)⟩
end
end LW
namespace LW
section
variable {a b : List Nat} {k : Int} {m : Mem} {t i : Nat} {rs : List Nat} {ps : List Prt} {pp : List PD}
theorem T12.app (h : T12 m t i a b k rs ps pp) {x : MO} (hx : ∀ j, MO.cl j x = true) : T12 (m ++ [x]) t i a b k rs ps pp := by
  have f : Fra m (m ++ [x]) [] := fra_app _ _ _
  refine ⟨h.O1.fra f (by simp) (by simp), h.O2.fra f (by simp) (by simp), by rw [f.2 0 (by have := h.M.l6; omega) (by simp)]; exact h.tw, cl_snoc h.cl (hx _), h.M.fra fun i _ hi => f.2 i hi (by simp), h.b1, h.b2, h.b3, h.b4⟩
theorem T12.town {r : Mem} (h : T12 (twn t :: r) t i a b k rs ps pp) (t' : Nat) : T12 (twn t' :: r) t' i a b k rs ps pp := by
  have f : Fra (twn t :: r) (twn t' :: r) [0] := ⟨Nat.le_refl _, fun i hi hn => by
    cases i with
    | zero => simp at hn
    | succ i => rfl⟩
  refine ⟨h.O1.fra f (by decide) (by decide), h.O2.fra f (by decide) (by decide), rfl, ?_, h.M.town, h.b1, h.b2, h.b3, h.b4⟩
  intro x hx
  rcases List.mem_cons.mp hx with rfl | hx
  · exact cl_twn _ _
  · exact h.cl x (List.mem_cons_of_mem _ hx)
abbrev bl5 (n : Nat) : List D := [.tup [.str [99, 111, 109, 101], .tup [.int 0, .str [108]]], .tup [.str [99, 111, 109, 101], .non], .tup [.str [115, 101, 110, 100], .str [120]], .tup [.str [115, 101, 110, 100], .non], .tup [.str [115, 108, 105, 112], .int n, .str [108, 111, 115, 116]]]
abbrev bl6 : D := .tup [.str [115, 108, 105, 112], .int 0, .str [103, 111, 110, 101]]
abbrev dcM (v : Int) : MO := .dct [.str [99, 111, 109, 101], .str [115, 101, 110, 100], .str [115, 108, 105, 112]] [.int 1, .int 2, .int v]
def b7S : Sm := (ifS (tE (opE neD (callE m_law_do (consA (vE 4) (consA (vE 9) nilA))) (tupE (consA (cE (.str [114, 101, 102, 117, 115, 101, 100])) (consA (opE dsubT (dct3E (cE (.str [99, 111, 109, 101])) (cE (.int 1)) (cE (.str [115, 101, 110, 100])) (cE (.int 2)) (cE (.str [115, 108, 105, 112])) (opE addD (cE (.int 6)) (bE intB (consA (opE eqD (opE LW.getD (vE 9) (unE negD (cE (.int 1)))) (cE (.str [103, 111, 110, 101]))) nilA)))) (opE LW.getD (vE 9) (cE (.int 0)))) nilA))))) (retS (cE (.bl false))) nxS)
theorem bad_turn (W : Whl a b k) (h : T12 m t i a b k rs ps pp) (hi : i ≤ 45) {g : Env} (g4 : g[4]? = some (some (.ref 1))) {x : D} (g9 : g[9]? = some (some x)) (hx : x ∈ bl5 ps.length ∨ (x = bl6 ∧ 1 ≤ ps.length)) : ∃ v, b7S g m = .ok (.nx g) (m ++ [dcM v]) := by
  have l : ∀ q : Nat, q ≤ 10 → q ≤ lim := fun q hq => by unfold lim; omega
  have hb := h.b1
  have x2 : ixD 2 (-1) = some 1 := rfl
  have x3 : ixD 3 (-1) = some 2 := rfl
  have y2 : ixD 2 0 = some 0 := rfl
  have y3 : ixD 3 0 = some 0 := rfl
  simp only [List.mem_cons, List.not_mem_nil, or_false] at hx
  rcases hx with (rfl | rfl | rfl | rfl | rfl) | ⟨rfl, h1⟩
  · have e := bad_come h.O1 W (d := .tup [.int 0, .str [108]]) (.inr rfl)
    refine ⟨6, ?_⟩
    unfold b7S
    simp [g4, g9, e, l, x2, y2, tfind, D.eqv, D.eqvL]
  · have e := bad_come h.O1 W (d := .non) (.inl rfl)
    refine ⟨6, ?_⟩
    unfold b7S
    simp [g4, g9, e, l, x2, y2, tfind, D.eqv, D.eqvL]
  · have e := bad_send h.O1 (d := .str [120]) (.inr rfl)
    refine ⟨6, ?_⟩
    unfold b7S
    simp [g4, g9, e, l, x2, y2, tfind, D.eqv, D.eqvL]
  · have e := bad_send h.O1 (d := .non) (.inl rfl)
    refine ⟨6, ?_⟩
    unfold b7S
    simp [g4, g9, e, l, x2, y2, tfind, D.eqv, D.eqvL]
  · have e := bad_slip h.O1 (by omega)
    refine ⟨6, ?_⟩
    unfold b7S
    simp [g4, g9, e, l, x3, y3, tfind, D.eqv, D.eqvL]
  · have e := bad_word h.O1 (by omega) h1
    refine ⟨7, ?_⟩
    unfold b7S
    simp [g4, g9, e, l, x3, y3, tfind, D.eqv, D.eqvL]
def t12S : Sm := (seqS (asgS (nmG 9) (callE m_law_call (consA (vE 0) (consA (vE 1) (consA (vE 3) (consA (vE 6) nilA))))))
    (seqS (asgS (nmG 10) (callE m_law_own (consA (vE 6) (consA (vE 7) (consA (vE 3) (consA (vE 9) nilA))))))
    (seqS (ifS (orT (tE (opE neD (callE m_law_do (consA (vE 4) (consA (vE 9) nilA))) (vE 10))) (notT (tE (callE m_law_same (consA (vE 4) (consA (vE 6) nilA)))))) (retS (cE (.bl false))) nxS)
    (seqS (asgS (nmG 11) (newE (lstE (consA (tupE (consA (cE (.str [99, 111, 109, 101])) (consA (tupE (consA (cE (.int 0)) (consA (cE (.str [108])) nilA))) nilA))) (consA (tupE (consA (cE (.str [99, 111, 109, 101])) (consA (cE .non) nilA))) (consA (tupE (consA (cE (.str [115, 101, 110, 100])) (consA (cE (.str [120])) nilA))) (consA (tupE (consA (cE (.str [115, 101, 110, 100])) (consA (cE .non) nilA))) (consA (tupE (consA (cE (.str [115, 108, 105, 112])) (consA (bE lenB (consA (vE 6) nilA)) (consA (cE (.str [108, 111, 115, 116])) nilA)))) nilA))))))))
    (seqS (exS (mtE appM (vE 11) (consA (tupE (consA (cE (.str [115, 108, 105, 112])) (consA (cE (.int 0)) (consA (cE (.str [103, 111, 110, 101])) nilA)))) nilA)))
    (seqS (asgS (nmG 9) (callE m_law_pick (consA (vE 0) (consA (vE 1) (consA (slE slD (vE 11) noO (someO (opE addD (cE (.int 5)) (bE intB (consA (opE neY (vE 6) (lstE nilA)) nilA))))) nilA)))))
    b7S))))))
theorem turn12 (W : Whl a b k) (h6 : a.length ≤ 6) {ns : List Int} {N : Nat} (h : T12 m t i a b k rs ps pp) (hi : i ≤ 35) (ht : t < 700000) {x8 x9 x10 x11 : Option D} : ∃ y9 y10 y11 m' t' rs' ps' pp', t12S [some (.scr ns), some (.ref 0), some (.int ((N : Nat) : Int)), some (whD a b k), some (.ref 1), some (.ref 3), some (.ref 5), some (.ref 6), x8, x9, x10, x11] m = .ok (.nx [some (.scr ns), some (.ref 0), some (.int ((N : Nat) : Int)), some (whD a b k), some (.ref 1), some (.ref 3), some (.ref 5), some (.ref 6), x8, y9, y10, y11]) m' ∧ T12 m' t' (i + 1) a b k rs' ps' pp' ∧ t' ≤ t + 50 := by
  have l : ∀ q : Nat, q ≤ 1000 → q ≤ lim := fun q hq => by unfold lim; omega
  have hb1 := h.b1
  obtain ⟨r, rfl⟩ := tw_cut h.tw
  obtain ⟨c, t1, e1, ht1, hc⟩ := call_spec W h6 (ns := ns) h.M (by omega) (by omega)
  have h1 := h.town t1
  obtain ⟨M1, hM1⟩ : ∃ M1, M1 = twn t1 :: r := ⟨_, rfl⟩
  rw [← hM1] at h1 e1
  obtain ⟨z, m2, m3, rs3, ps3, pp3, e2, e3, h3, ne⟩ := act W h1 (by omega) hc
  have hb3 := h3.b1
  have sm := same_spec h3.O1 h3.M (by omega)
  obtain ⟨CD, hCD⟩ : ∃ CD, CD = clD c := ⟨_, rfl⟩
  rw [← hCD] at e1 e2 e3
  have s1 : asgS (nmG 9) (callE m_law_call (consA (vE 0) (consA (vE 1) (consA (vE 3) (consA (vE 6) nilA))))) [some (.scr ns), some (.ref 0), some (.int ((N : Nat) : Int)), some (whD a b k), some (.ref 1), some (.ref 3), some (.ref 5), some (.ref 6), x8, x9, x10, x11] (twn t :: r) = .ok (.nx [some (.scr ns), some (.ref 0), some (.int ((N : Nat) : Int)), some (whD a b k), some (.ref 1), some (.ref 3), some (.ref 5), some (.ref 6), x8, some CD, x10, x11]) M1 := by simp [e1]
  have s2 : asgS (nmG 10) (callE m_law_own (consA (vE 6) (consA (vE 7) (consA (vE 3) (consA (vE 9) nilA))))) [some (.scr ns), some (.ref 0), some (.int ((N : Nat) : Int)), some (whD a b k), some (.ref 1), some (.ref 3), some (.ref 5), some (.ref 6), x8, some CD, x10, x11] M1 = .ok (.nx [some (.scr ns), some (.ref 0), some (.int ((N : Nat) : Int)), some (whD a b k), some (.ref 1), some (.ref 3), some (.ref 5), some (.ref 6), x8, some CD, some z, x11]) m2 := by simp [e2]
  have s3 : ifS (orT (tE (opE neD (callE m_law_do (consA (vE 4) (consA (vE 9) nilA))) (vE 10))) (notT (tE (callE m_law_same (consA (vE 4) (consA (vE 6) nilA)))))) (retS (cE (.bl false))) nxS [some (.scr ns), some (.ref 0), some (.int ((N : Nat) : Int)), some (whD a b k), some (.ref 1), some (.ref 3), some (.ref 5), some (.ref 6), x8, some CD, some z, x11] m2 = .ok (.nx [some (.scr ns), some (.ref 0), some (.int ((N : Nat) : Int)), some (whD a b k), some (.ref 1), some (.ref 3), some (.ref 5), some (.ref 6), x8, some CD, some z, x11]) m3 := by
    have nz := ne m3
    simp [-neD, e3, nz, sm]
  have rl3 := h3.M.hm.len
  have md := h3.M.md
  obtain ⟨R, hR⟩ : ∃ R, R = rs3.map D.ref := ⟨_, rfl⟩
  have Rl : R.length = ps3.length := by rw [hR]; simpa using rl3
  rw [← hR] at md
  obtain ⟨n, hn⟩ : ∃ n, n = ps3.length := ⟨_, rfl⟩
  have s4 : asgS (nmG 11) (newE (lstE (consA (tupE (consA (cE (.str [99, 111, 109, 101])) (consA (tupE (consA (cE (.int 0)) (consA (cE (.str [108])) nilA))) nilA))) (consA (tupE (consA (cE (.str [99, 111, 109, 101])) (consA (cE .non) nilA))) (consA (tupE (consA (cE (.str [115, 101, 110, 100])) (consA (cE (.str [120])) nilA))) (consA (tupE (consA (cE (.str [115, 101, 110, 100])) (consA (cE .non) nilA))) (consA (tupE (consA (cE (.str [115, 108, 105, 112])) (consA (bE lenB (consA (vE 6) nilA)) (consA (cE (.str [108, 111, 115, 116])) nilA)))) nilA))))))) [some (.scr ns), some (.ref 0), some (.int ((N : Nat) : Int)), some (whD a b k), some (.ref 1), some (.ref 3), some (.ref 5), some (.ref 6), x8, some CD, some z, x11] m3 = .ok (.nx [some (.scr ns), some (.ref 0), some (.int ((N : Nat) : Int)), some (whD a b k), some (.ref 1), some (.ref 3), some (.ref 5), some (.ref 6), x8, some CD, some z, some (.ref m3.length)]) (m3 ++ [.lst (bl5 n)]) := by
    simp [md, Rl, ← hn, l n (by omega), l]
  have s5 : exS (mtE appM (vE 11) (consA (tupE (consA (cE (.str [115, 108, 105, 112])) (consA (cE (.int 0)) (consA (cE (.str [103, 111, 110, 101])) nilA)))) nilA)) [some (.scr ns), some (.ref 0), some (.int ((N : Nat) : Int)), some (whD a b k), some (.ref 1), some (.ref 3), some (.ref 5), some (.ref 6), x8, some CD, some z, some (.ref m3.length)] (m3 ++ [.lst (bl5 n)]) = .ok (.nx [some (.scr ns), some (.ref 0), some (.int ((N : Nat) : Int)), some (whD a b k), some (.ref 1), some (.ref 3), some (.ref 5), some (.ref 6), x8, some CD, some z, some (.ref m3.length)]) (m3 ++ [.lst (bl5 n ++ [bl6])]) := by
    have l5 : 5 < lim := by unfold lim; omega
    simp [l, l5]
  have h5 := h3.app (x := .lst (bl5 n ++ [bl6])) (fun j => by simp [MO.cl, D.clL, D.cl])
  have g5 : (m3 ++ [MO.lst (bl5 n ++ [bl6])])[m3.length]? = some (.lst (bl5 n ++ [bl6])) := by simp
  have ny := (cmp_md h5.M).2
  obtain ⟨L, hL⟩ : ∃ L, L = m3.length := ⟨_, rfl⟩
  rw [← hL] at g5
  obtain ⟨M5, hM5⟩ : ∃ M5, M5 = m3 ++ [MO.lst (bl5 n ++ [bl6])] := ⟨_, rfl⟩
  rw [← hM5] at h5 g5 ny s5
  obtain ⟨r5, rfl⟩ := tw_cut h5.tw
  obtain ⟨BL, hBL, hBm, hB0⟩ : ∃ BL : List D, slE slD (vE 11) noO (someO (opE addD (cE (.int 5)) (bE intB (consA (opE neY (vE 6) (lstE nilA)) nilA)))) [some (.scr ns), some (.ref 0), some (.int ((N : Nat) : Int)), some (whD a b k), some (.ref 1), some (.ref 3), some (.ref 5), some (.ref 6), x8, some CD, some z, some (.ref L)] (twn t1 :: r5) = .ok (.lst BL) (twn t1 :: r5) ∧ (∀ x ∈ BL, x ∈ bl5 n ∨ (x = bl6 ∧ 1 ≤ ps3.length)) ∧ BL ≠ [] := by
    by_cases p0 : ps3 = []
    · rw [decide_eq_false (by simpa using p0)] at ny
      have iy : bE intB (consA (opE neY (vE 6) (lstE nilA)) nilA) [some (.scr ns), some (.ref 0), some (.int ((N : Nat) : Int)), some (whD a b k), some (.ref 1), some (.ref 3), some (.ref 5), some (.ref 6), x8, some CD, some z, some (.ref L)] (twn t1 :: r5) = .ok (.int 0) (twn t1 :: r5) := by simp [-neY, ny]
      have c5 : cutD (bl5 n ++ [bl6]) none (some 5) = bl5 n := rfl
      refine ⟨bl5 n, ?_, fun x hx => .inl hx, by simp⟩
      obtain ⟨B, hB⟩ : ∃ B, B = bl5 n ++ [bl6] := ⟨_, rfl⟩
      have Bl : B.length = 6 := by rw [hB]; rfl
      rw [← hB] at g5 c5
      obtain ⟨M, hM⟩ : ∃ M, M = twn t1 :: r5 := ⟨_, rfl⟩
      rw [← hM] at iy g5 ⊢
      simp [-bE, iy, g5, c5, Bl, l]
    · rw [decide_eq_true p0] at ny
      have iy : bE intB (consA (opE neY (vE 6) (lstE nilA)) nilA) [some (.scr ns), some (.ref 0), some (.int ((N : Nat) : Int)), some (whD a b k), some (.ref 1), some (.ref 3), some (.ref 5), some (.ref 6), x8, some CD, some z, some (.ref L)] (twn t1 :: r5) = .ok (.int 1) (twn t1 :: r5) := by simp [-neY, ny]
      have c5 : cutD (bl5 n ++ [bl6]) none (some 6) = bl5 n ++ [bl6] := rfl
      refine ⟨bl5 n ++ [bl6], ?_, fun x hx => ?_, by simp⟩
      · obtain ⟨B, hB⟩ : ∃ B, B = bl5 n ++ [bl6] := ⟨_, rfl⟩
        have Bl : B.length = 6 := by rw [hB]; rfl
        rw [← hB] at g5 c5 ⊢
        obtain ⟨M, hM⟩ : ∃ M, M = twn t1 :: r5 := ⟨_, rfl⟩
        rw [← hM] at iy g5 ⊢
        simp [-bE, iy, g5, c5, Bl, l]
      · rcases List.mem_append.mp hx with hx | hx
        · exact .inl hx
        · exact .inr ⟨List.mem_singleton.mp hx, List.length_pos_iff.mpr p0⟩
  obtain ⟨x, hx, e6⟩ := pick_spec (ns := ns) (t := t1) (r := r5) (xs := BL) hB0 (by omega)
  have s6 : asgS (nmG 9) (callE m_law_pick (consA (vE 0) (consA (vE 1) (consA (slE slD (vE 11) noO (someO (opE addD (cE (.int 5)) (bE intB (consA (opE neY (vE 6) (lstE nilA)) nilA))))) nilA)))) [some (.scr ns), some (.ref 0), some (.int ((N : Nat) : Int)), some (whD a b k), some (.ref 1), some (.ref 3), some (.ref 5), some (.ref 6), x8, some CD, some z, some (.ref L)] (twn t1 :: r5) = .ok (.nx [some (.scr ns), some (.ref 0), some (.int ((N : Nat) : Int)), some (whD a b k), some (.ref 1), some (.ref 3), some (.ref 5), some (.ref 6), x8, some x, some z, some (.ref L)]) (twn (t1 + 1) :: r5) := by
    simp [-slE, hBL, e6]
  have h6' := h5.town (t1 + 1)
  have hx' := hBm x hx
  rw [hn] at hx'
  obtain ⟨v, e7⟩ := bad_turn W h6' (by omega) (g := [some (.scr ns), some (.ref 0), some (.int ((N : Nat) : Int)), some (whD a b k), some (.ref 1), some (.ref 3), some (.ref 5), some (.ref 6), x8, some x, some z, some (.ref L)]) rfl (x := x) rfl hx'
  have h7 := h6'.app (x := dcM v) (fun j => by simp [MO.cl, D.clL, D.cl])
  refine ⟨some x, some z, some (.ref L), _, t1 + 1, rs3, ps3, pp3, ?_, h7, by omega⟩
  unfold t12S
  rw [← hL] at s4 s5
  rw [seqS_eq, s1]
  show seqS _ _ _ M1 = _
  rw [seqS_eq, s2]
  show seqS _ _ _ m2 = _
  rw [seqS_eq, s3]
  show seqS _ _ _ m3 = _
  rw [seqS_eq, s4]
  show seqS _ _ _ _ = _
  rw [seqS_eq, s5]
  show seqS _ _ _ _ = _
  rw [seqS_eq, s6]
  exact e7
end
end LW
namespace LW
def w12S : Sm := (ifS (orT (tE (opE neD (callE m_law_do (consA (vE 4) (consA (tupE (consA (cE (.str [98, 97, 99, 107])) nilA)) nilA))) (callE m_law_own (consA (vE 6) (consA (vE 7) (consA (vE 3) (consA (tupE (consA (cE (.str [98, 97, 99, 107])) nilA)) nilA))))))) (notT (tE (callE m_law_same (consA (vE 4) (consA (vE 6) nilA)))))) (retS (cE (.bl false))) nxS)
theorem while12 {a b : List Nat} {k : Int} {ns : List Int} {N t i : Nat} (hi : i ≤ 40) {x8 x9 x10 x11 : Option D} {m : Mem} {rs : List Nat} {ps : List Prt} {pp : List PD} (h : T12 m t i a b k rs ps pp) : ∃ m' rs' ps', whileS 100000 (tE (opE neY (vE 7) (lstE nilA))) w12S [some (.scr ns), some (.ref 0), some (.int ((N : Nat) : Int)), some (whD a b k), some (.ref 1), some (.ref 3), some (.ref 5), some (.ref 6), x8, x9, x10, x11] m = .ok (.nx [some (.scr ns), some (.ref 0), some (.int ((N : Nat) : Int)), some (whD a b k), some (.ref 1), some (.ref 3), some (.ref 5), some (.ref 6), x8, x9, x10, x11]) m' ∧ T12 m' t i a b k rs' ps' [] := by
  have l : ∀ q : Nat, q ≤ 1000 → q ≤ lim := fun q hq => by unfold lim; omega
  have hb := h.b2
  obtain ⟨o, m', e, rs', ps', rfl, h'⟩ := Wp_while (N := 100000) (c := tE (opE neY (vE 7) (lstE nilA))) (b := w12S) (g := [some (.scr ns), some (.ref 0), some (.int ((N : Nat) : Int)), some (whD a b k), some (.ref 1), some (.ref 3), some (.ref 5), some (.ref 6), x8, x9, x10, x11]) (m := m) (Q := fun o m' => ∃ rs' ps', o = .nx [some (.scr ns), some (.ref 0), some (.int ((N : Nat) : Int)), some (whD a b k), some (.ref 1), some (.ref 3), some (.ref 5), some (.ref 6), x8, x9, x10, x11] ∧ T12 m' t i a b k rs' ps' []) (fun q g m' => ∃ rs ps pp, q = pp.length ∧ g = [some (.scr ns), some (.ref 0), some (.int ((N : Nat) : Int)), some (whD a b k), some (.ref 1), some (.ref 3), some (.ref 5), some (.ref 6), x8, x9, x10, x11] ∧ T12 m' t i a b k rs ps pp) pp.length (by omega) ⟨rs, ps, pp, rfl, rfl, h⟩ (by
    rintro q g m1 ⟨rs1, ps1, pp1, rfl, rfl, h1⟩
    have ny := (cmp_pa h1.M).2
    rcases List.eq_nil_or_concat pp1 with rfl | ⟨pp0, p, rfl⟩
    · rw [decide_eq_false (by simp)] at ny
      refine ⟨false, m1, by simp [-neY, ny, l], ?_⟩
      simp only [Bool.false_eq_true, if_false]
      exact ⟨rs1, ps1, trivial, h1⟩
    · rw [List.concat_eq_append] at h1 ny ⊢
      rw [decide_eq_true (by simp)] at ny
      refine ⟨true, m1, by simp [-neY, ny, l], ?_⟩
      simp only [if_true]
      obtain ⟨m2, m3, e1, e2, h3⟩ := back_two' h1 hi
      have hb3 := h3.b1
      have sm := same_spec h3.O1 h3.M (by omega)
      have nz : neD m3 (.str p.1) (.str p.1) = some (.bl false) := ne_self (by simp) (by simp) (fun _ => rfl) m3
      refine Wp_of (o := .nx [some (.scr ns), some (.ref 0), some (.int ((N : Nat) : Int)), some (whD a b k), some (.ref 1), some (.ref 3), some (.ref 5), some (.ref 6), x8, x9, x10, x11]) (m1 := m3) (by
        unfold w12S
        simp [-neD, e1, e2, nz, sm, l]) ?_
      exact ⟨pp0.length, by simp, _, _, pp0, rfl, rfl, h3⟩)
  exact ⟨m', rs', ps', e, h'⟩
theorem pure_law_k12 : ∀ ns : List Int, ns.length ≤ 63 → ∃ m', m_law_k12 [.scr ns] [] = .ok (.bl true) m' := by
  intro ns hns
  have t0 : MO.lst [] = twn 0 := rfl
  have l : ∀ q : Nat, q ≤ 10000 → q ≤ lim := fun q hq => by unfold lim; omega
  obtain ⟨N, hN, e0⟩ := draw_nat (ns := ns) (t := 0) (r := []) (many := 31) (by decide) (by decide)
  rw [show ((31 : Nat) : Int) = 31 from rfl] at e0
  obtain ⟨a, b, k, t1, e1, ht1, h6, W⟩ := wheels40_spec (ns := ns) (t := 0 + 1) (most := 6) (by decide) (by decide) (by decide)
  rw [show ((6 : Nat) : Int) = 6 from rfl] at e1
  have cl0 : Clo [twn t1] := fun x hx => by rw [List.mem_singleton.mp hx]; exact cl_twn _ _
  obtain ⟨m1, e6, S6, f6, c6, l6⟩ := ofs_init (m := [twn t1]) W cl0
  obtain ⟨m2, e7, S7, f7, c7, l7⟩ := ofs_init (m := m1) W c6
  simp only [List.length_singleton] at l6
  rw [l6] at S7 e7 l7
  have S6' := S6.fra f7 (by simp) (by simp)
  have tw7 : m2[0]? = some (twn t1) := by rw [f7.2 0 (by omega) (by simp), f6.2 0 (by simp) (by simp)]; rfl
  obtain ⟨m3, hm3⟩ : ∃ m3, m3 = m2 ++ [MO.lst []] ++ [MO.lst []] := ⟨_, rfl⟩
  have f3 : Fra m2 m3 [] := by rw [hm3, List.append_assoc]; exact fra_app _ _ _
  have h3 : T12 m3 t1 0 a b k [] [] [] := by
    refine ⟨S6'.fra f3 (by simp) (by simp), S7.fra f3 (by simp) (by simp), by rw [f3.2 0 (by omega) (by simp)]; exact tw7, ?_, ⟨?_, ?_, rfl, by simp, by simp [refsP], by simp [refsP]⟩, by simp, by simp, by simp, by simp⟩
    · rw [hm3]
      exact cl_snoc (cl_snoc c7 rfl) rfl
    · rw [hm3, List.getElem?_append_left (by simp; omega), List.getElem?_append_right (by omega), l7]
      rfl
    · rw [hm3, List.getElem?_append_right (by simp; omega)]
      simp [l7]
  have iN : inR ((N : Nat) : Int) = true := inR_nat (by omega)
  refine law_end ?_
  unfold b_law_k12
  refine Rt_seq (by simp [l, t0]; exact ⟨rfl, rfl⟩) ?_
  refine Rt_seq (g1 := [some (.scr ns), some (.ref 0), some (.int ((N : Nat) : Int)), none, none, none, none, none, none, none, none, none]) (m1 := [twn (0 + 1)]) (by simp [e0]) ?_
  refine Rt_seq (g1 := [some (.scr ns), some (.ref 0), some (.int ((N : Nat) : Int)), some (whD a b k), none, none, none, none, none, none, none, none]) (m1 := [twn t1]) (by simp [e1]) ?_
  refine Rt_seq (g1 := [some (.scr ns), some (.ref 0), some (.int ((N : Nat) : Int)), some (whD a b k), some (.ref 1), some (.ref 3), none, none, none, none, none, none]) (m1 := m2) (by
    have e6' : m_Office_init [.ref 1, whD a b k] [twn t1, .ins "Office" []] = .ok .non m1 := e6
    simp [e6', e7, l6]) ?_
  refine Rt_seq (g1 := [some (.scr ns), some (.ref 0), some (.int ((N : Nat) : Int)), some (whD a b k), some (.ref 1), some (.ref 3), some (.ref 5), some (.ref 6), none, none, none, none]) (m1 := m3) (by
    have q1 : (m2 ++ [MO.lst []]).length = 6 := by simp [l7]
    have q2 : m2.length = 5 := l7
    rw [hm3]
    simp [l, q2]) ?_
  have body : ∀ {i : Nat} {d : D} {g : Env} {m : Mem}, ((List.range N).map fun (k : Nat) => D.int k)[i]? = some d → (∃ t rs ps pp, ∃ x8 x9 x10 x11 : Option D, g = [some (.scr ns), some (.ref 0), some (.int ((N : Nat) : Int)), some (whD a b k), some (.ref 1), some (.ref 3), some (.ref 5), some (.ref 6), x8, x9, x10, x11] ∧ T12 m t i a b k rs ps pp ∧ t ≤ 100 + 50 * i) → ∃ g1 m1, nmG 8 d g m = .ok g1 m1 ∧ ∃ g2 m2, t12S g1 m1 = .ok (.nx g2) m2 ∧ ∃ t rs ps pp, ∃ x8 x9 x10 x11 : Option D, g2 = [some (.scr ns), some (.ref 0), some (.int ((N : Nat) : Int)), some (whD a b k), some (.ref 1), some (.ref 3), some (.ref 5), some (.ref 6), x8, x9, x10, x11] ∧ T12 m2 t (i + 1) a b k rs ps pp ∧ t ≤ 100 + 50 * (i + 1) := by
    rintro i d g m hd ⟨t, rs, ps, pp, x8, x9, x10, x11, rfl, h, ht⟩
    have hi : i < N := by
      have := (List.getElem?_eq_some_iff.mp hd).1
      simpa using this
    obtain ⟨y9, y10, y11, m', t', rs', ps', pp', e, h', ht'⟩ := turn12 W h6 (ns := ns) (N := N) h (by omega) (by omega) (x8 := some d) (x9 := x9) (x10 := x10) (x11 := x11)
    exact ⟨_, m, rfl, _, m', e, t', rs', ps', pp', some d, y9, y10, y11, rfl, h', by omega⟩
  unfold t12S b7S at body
  refine Rt_for (m1 := m3) (ds := (List.range N).map fun (k : Nat) => D.int k) (fun i g m => ∃ t rs ps pp, ∃ x8 x9 x10 x11 : Option D, g = [some (.scr ns), some (.ref 0), some (.int ((N : Nat) : Int)), some (whD a b k), some (.ref 1), some (.ref 3), some (.ref 5), some (.ref 6), x8, x9, x10, x11] ∧ T12 m t i a b k rs ps pp ∧ t ≤ 100 + 50 * i) (by simp [iN]) ⟨t1, [], [], [], none, none, none, none, rfl, h3, by omega⟩ (fun i d g m hd hI => body hd hI) ?_
  rintro g m ⟨t, rs, ps, pp, x8, x9, x10, x11, rfl, h, ht⟩
  rw [show ((List.range N).map fun (k : Nat) => D.int k).length = N by simp] at h
  obtain ⟨m4, rs4, ps4, ew, h4⟩ := while12 (ns := ns) (N := N) (by omega) (x8 := x8) (x9 := x9) (x10 := x10) (x11 := x11) h
  unfold w12S at ew
  refine Rt_seq ew ?_
  have d1 := do_back_no h4.O1 (ofs_nothing h4.O1)
  have i1 : methE "Office" "stands" m_Office_stands (vE 5) nilA [some (.scr ns), some (.ref 0), some (.int ((N : Nat) : Int)), some (whD a b k), some (.ref 1), some (.ref 3), some (.ref 5), some (.ref 6), x8, x9, x10, x11] m4 = .ok (.lst []) m4 := ex_meth h4.O2 (by decide) (by simp) (xs := []) (m1 := m4) rfl (ofs_stands h4.O2)
  have i2 : methE "Office" "in_step" m_Office_in_step_k12 (vE 5) nilA [some (.scr ns), some (.ref 0), some (.int ((N : Nat) : Int)), some (whD a b k), some (.ref 1), some (.ref 3), some (.ref 5), some (.ref 6), x8, x9, x10, x11] m4 = .ok (.bl true) m4 := ex_meth h4.O2 (by decide) (by simp) (xs := []) (m1 := m4) rfl (by
    have := ofs_in_step h4.O2 (by simp)
    exact this)
  refine Rt_end (m1 := m4) ?_
  simp [-methE, d1, i1, i2, l]
end LW
namespace LW.K12
open PySem PySem.Spec PyProof.Rows L2
theorem all_mk {P : Program} {w : World} {K : PySem.W.Frag} {h : Heap} {mg : Str → Option Value} {fa : Addr} (X : K.In h) (G : h.Ns mainGlobals mg) (hfa : mg "law" = some (.ref fa))
    {x_Office : Addr}
    {f0 : Addr} {od0 an0 : Option Addr} {sl0 : Array (Option Value)} {oc0 kV0 dc0 pm0 cd0 ct0 : Value}
    {f1 : Addr} {od1 an1 : Option Addr} {sl1 : Array (Option Value)} {oc1 kV1 dc1 pm1 cd1 ct1 : Value}
    {f2 : Addr} {od2 an2 : Option Addr} {sl2 : Array (Option Value)} {oc2 kV2 dc2 pm2 cd2 ct2 : Value}
    {f3 : Addr} {od3 an3 : Option Addr} {sl3 : Array (Option Value)} {oc3 kV3 dc3 pm3 cd3 ct3 : Value}
    {f4 : Addr} {od4 an4 : Option Addr} {sl4 : Array (Option Value)} {oc4 kV4 dc4 pm4 cd4 ct4 : Value}
    {f5 : Addr} {od5 an5 : Option Addr} {sl5 : Array (Option Value)} {oc5 kV5 dc5 pm5 cd5 ct5 : Value}
    {f6 : Addr} {od6 an6 : Option Addr} {sl6 : Array (Option Value)} {oc6 kV6 dc6 pm6 cd6 ct6 : Value}
    {f7 : Addr} {od7 an7 : Option Addr} {sl7 : Array (Option Value)} {oc7 kV7 dc7 pm7 cd7 ct7 : Value}
    {f8 : Addr} {od8 an8 : Option Addr} {sl8 : Array (Option Value)} {oc8 kV8 dc8 pm8 cd8 ct8 : Value}
    {f9 : Addr} {od9 an9 : Option Addr} {sl9 : Array (Option Value)} {oc9 kV9 dc9 pm9 cd9 ct9 : Value}
    {f10 : Addr} {od10 an10 : Option Addr} {sl10 : Array (Option Value)} {oc10 kV10 dc10 pm10 cd10 ct10 : Value}
    {f11 : Addr} {od11 an11 : Option Addr} {sl11 : Array (Option Value)} {oc11 kV11 dc11 pm11 cd11 ct11 : Value}
    {f12 : Addr} {od12 an12 : Option Addr} {sl12 : Array (Option Value)} {oc12 kV12 dc12 pm12 cd12 ct12 : Value}
    {f13 : Addr} {od13 an13 : Option Addr} {sl13 : Array (Option Value)} {oc13 kV13 dc13 pm13 cd13 ct13 : Value}
    {f14 : Addr} {od14 an14 : Option Addr} {sl14 : Array (Option Value)} {oc14 kV14 dc14 pm14 cd14 ct14 : Value}
    {f15 : Addr} {od15 an15 : Option Addr} {sl15 : Array (Option Value)} {oc15 kV15 dc15 pm15 cd15 ct15 : Value}
    {f16 : Addr} {od16 an16 : Option Addr} {sl16 : Array (Option Value)} {oc16 kV16 dc16 pm16 cd16 ct16 : Value}
    {f17 : Addr} {od17 an17 : Option Addr} {sl17 : Array (Option Value)} {oc17 kV17 dc17 pm17 cd17 ct17 : Value}
    {f18 : Addr} {od18 an18 : Option Addr} {sl18 : Array (Option Value)} {oc18 kV18 dc18 pm18 cd18 ct18 : Value}
    {f19 : Addr} {od19 an19 : Option Addr} {sl19 : Array (Option Value)} {oc19 kV19 dc19 pm19 cd19 ct19 : Value}
    {f20 : Addr} {od20 an20 : Option Addr} {sl20 : Array (Option Value)} {oc20 kV20 dc20 pm20 cd20 ct20 : Value}
    {f21 : Addr} {od21 an21 : Option Addr} {sl21 : Array (Option Value)} {oc21 kV21 dc21 pm21 cd21 ct21 : Value}
    {f22 : Addr} {od22 an22 : Option Addr} {sl22 : Array (Option Value)} {oc22 kV22 dc22 pm22 cd22 ct22 : Value}
    {f23 : Addr} {od23 an23 : Option Addr} {sl23 : Array (Option Value)} {oc23 kV23 dc23 pm23 cd23 ct23 : Value}
    {f24 : Addr} {od24 an24 : Option Addr} {sl24 : Array (Option Value)} {oc24 kV24 dc24 pm24 cd24 ct24 : Value}
    {f25 : Addr} {od25 an25 : Option Addr} {sl25 : Array (Option Value)} {oc25 kV25 dc25 pm25 cd25 ct25 : Value}
    {f26 : Addr} {od26 an26 : Option Addr} {sl26 : Array (Option Value)} {oc26 kV26 dc26 pm26 cd26 ct26 : Value}
    {f27 : Addr} {od27 an27 : Option Addr} {sl27 : Array (Option Value)} {oc27 kV27 dc27 pm27 cd27 ct27 : Value}
    {f28 : Addr} {od28 an28 : Option Addr} {sl28 : Array (Option Value)} {oc28 kV28 dc28 pm28 cd28 ct28 : Value}
    {f29 : Addr} {od29 an29 : Option Addr} {sl29 : Array (Option Value)} {oc29 kV29 dc29 pm29 cd29 ct29 : Value}
    {f30 : Addr} {od30 an30 : Option Addr} {sl30 : Array (Option Value)} {oc30 kV30 dc30 pm30 cd30 ct30 : Value}
    {f31 : Addr} {od31 an31 : Option Addr} {sl31 : Array (Option Value)} {oc31 kV31 dc31 pm31 cd31 ct31 : Value}
    {f32 : Addr} {od32 an32 : Option Addr} {sl32 : Array (Option Value)} {oc32 kV32 dc32 pm32 cd32 ct32 : Value}
    {f33 : Addr} {od33 an33 : Option Addr} {sl33 : Array (Option Value)} {oc33 kV33 dc33 pm33 cd33 ct33 : Value}
    {f34 : Addr} {od34 an34 : Option Addr} {sl34 : Array (Option Value)} {oc34 kV34 dc34 pm34 cd34 ct34 : Value}
    {f35 : Addr} {od35 an35 : Option Addr} {sl35 : Array (Option Value)} {oc35 kV35 dc35 pm35 cd35 ct35 : Value}
    {f36 : Addr} {od36 an36 : Option Addr} {sl36 : Array (Option Value)} {oc36 kV36 dc36 pm36 cd36 ct36 : Value}
    {f37 : Addr} {od37 an37 : Option Addr} {sl37 : Array (Option Value)} {oc37 kV37 dc37 pm37 cd37 ct37 : Value}
    {f38 : Addr} {od38 an38 : Option Addr} {sl38 : Array (Option Value)} {oc38 kV38 dc38 pm38 cd38 ct38 : Value}
    {t_LEAST : Tok}
    {t_LONG : Tok}
    {t_MOST : Tok}
    {t_PULSES : Tok}
    {t_SIGNS : Tok}
    {t_TURNS : Tok}
    {a_WORDS : Addr} {od_WORDS : Option Addr} {k_WORDS : Nat} {sl_WORDS : Array (Option Value)} {t0_WORDS : Tok} {t1_WORDS : Tok}
    {x_NoPrinter : Addr}
    {x_NoRow : Addr}
    {x_NoStand : Addr}
    {x_NoWheels : Addr}
    {x_NoWord : Addr}
    {x_Nothing : Addr}
    {x_WheelError : Addr}
    {x_NoSlips : Addr}
    {x_NoText : Addr}
    {x_NoPlace : Addr}
    (nC_Office : PySem.W.nsIn K mainGlobals "Office" = some (some (.ref x_Office)))
    (pg_Office : PySem.W.plainGet K x_Office Str.empty = true)
    (hd_Office : PySem.W.hasDictIn K x_Office = true)
    (po_Office : PySem.W.plainOver K x_Office = true)
    (sa_Office : PySem.W.findIn K (.ref x_Office) "__setattr__" = some (some (.builtin "object.__setattr__")))
    (mk_Office : PySem.W.makesIn K x_Office = true)
    (kc_Office : PySem.W.keepIn K (.ref x_Office) = true)
    (na_Office_all_stands : PySem.W.findIn K (.ref x_Office) "all_stands" = some none)
    (na_Office_all_tapes : PySem.W.findIn K (.ref x_Office) "all_tapes" = some none)
    (na_Office_past : PySem.W.findIn K (.ref x_Office) "past" = some none)
    (na_Office_waits : PySem.W.findIn K (.ref x_Office) "waits" = some none)
    (na_Office_wheels : PySem.W.findIn K (.ref x_Office) "wheels" = some none)
    (a0 : PySem.W.nsIn K mainGlobals "_law_cell_at" = some (some (.ref f0)))
    (l0 : K.lookup f0 = some ⟨oc0, od0, .func (PySem.W.fnOf "_law_cell_at" "_law_cell_at" (defArgs s_law_cell_at) (defBody s_law_cell_at) (defScope s_law_cell_at) .none kV0 dc0 pm0 an0 cd0 ct0), sl0⟩)
    (c0 : PySem.W.codeIn K cd0 "_law_cell_at" = true)
    (k0 : PySem.W.keepIn K (.ref f0) = true)
    (a1 : PySem.W.nsIn K mainGlobals "_law_mixed" = some (some (.ref f1)))
    (l1 : K.lookup f1 = some ⟨oc1, od1, .func (PySem.W.fnOf "_law_mixed" "_law_mixed" (defArgs s_law_mixed) (defBody s_law_mixed) (defScope s_law_mixed) .none kV1 dc1 pm1 an1 cd1 ct1), sl1⟩)
    (c1 : PySem.W.codeIn K cd1 "_law_mixed" = true)
    (k1 : PySem.W.keepIn K (.ref f1) = true)
    (a2 : PySem.W.nsIn K mainGlobals "_law_draw" = some (some (.ref f2)))
    (l2 : K.lookup f2 = some ⟨oc2, od2, .func (PySem.W.fnOf "_law_draw" "_law_draw" (defArgs s_law_draw) (defBody s_law_draw) (defScope s_law_draw) .none kV2 dc2 pm2 an2 cd2 ct2), sl2⟩)
    (c2 : PySem.W.codeIn K cd2 "_law_draw" = true)
    (k2 : PySem.W.keepIn K (.ref f2) = true)
    (a3 : PySem.W.nsIn K mainGlobals "_law_wheels" = some (some (.ref f3)))
    (l3 : K.lookup f3 = some ⟨oc3, od3, .func (PySem.W.fnOf "_law_wheels" "_law_wheels" (defArgs s_law_wheels_k01) (defBody s_law_wheels_k01) (defScope s_law_wheels_k01) .none kV3 dc3 pm3 an3 cd3 ct3), sl3⟩)
    (c3 : PySem.W.codeIn K cd3 "_law_wheels" = true)
    (k3 : PySem.W.keepIn K (.ref f3) = true)
    (a4 : PySem.W.nsIn K mainGlobals "is_whole" = some (some (.ref f4)))
    (l4 : K.lookup f4 = some ⟨oc4, od4, .func (PySem.W.fnOf "is_whole" "is_whole" (defArgs s_is_whole) (defBody s_is_whole) (defScope s_is_whole) .none kV4 dc4 pm4 an4 cd4 ct4), sl4⟩)
    (c4 : PySem.W.codeIn K cd4 "is_whole" = true)
    (k4 : PySem.W.keepIn K (.ref f4) = true)
    (a5 : PySem.W.nsIn K mainGlobals "are_signs" = some (some (.ref f5)))
    (l5 : K.lookup f5 = some ⟨oc5, od5, .func (PySem.W.fnOf "are_signs" "are_signs" (defArgs s_are_signs) (defBody s_are_signs) (defScope s_are_signs) .none kV5 dc5 pm5 an5 cd5 ct5), sl5⟩)
    (c5 : PySem.W.codeIn K cd5 "are_signs" = true)
    (k5 : PySem.W.keepIn K (.ref f5) = true)
    (a6 : PySem.W.nsIn K mainGlobals "is_wheel" = some (some (.ref f6)))
    (l6 : K.lookup f6 = some ⟨oc6, od6, .func (PySem.W.fnOf "is_wheel" "is_wheel" (defArgs s_is_wheel) (defBody s_is_wheel) (defScope s_is_wheel) .none kV6 dc6 pm6 an6 cd6 ct6), sl6⟩)
    (c6 : PySem.W.codeIn K cd6 "is_wheel" = true)
    (k6 : PySem.W.keepIn K (.ref f6) = true)
    (a7 : PySem.W.nsIn K mainGlobals "is_wheels" = some (some (.ref f7)))
    (l7 : K.lookup f7 = some ⟨oc7, od7, .func (PySem.W.fnOf "is_wheels" "is_wheels" (defArgs s_is_wheels) (defBody s_is_wheels) (defScope s_is_wheels) .none kV7 dc7 pm7 an7 cd7 ct7), sl7⟩)
    (c7 : PySem.W.codeIn K cd7 "is_wheels" = true)
    (k7 : PySem.W.keepIn K (.ref f7) = true)
    (a8 : PySem.W.nsIn K mainGlobals "need_wheels" = some (some (.ref f8)))
    (l8 : K.lookup f8 = some ⟨oc8, od8, .func (PySem.W.fnOf "need_wheels" "need_wheels" (defArgs s_need_wheels) (defBody s_need_wheels) (defScope s_need_wheels) .none kV8 dc8 pm8 an8 cd8 ct8), sl8⟩)
    (c8 : PySem.W.codeIn K cd8 "need_wheels" = true)
    (k8 : PySem.W.keepIn K (.ref f8) = true)
    (a9 : PySem.W.findIn K (.ref x_Office) "__init__" = some (some (.ref f9)))
    (i9 : PySem.W.isFn K (.ref f9) = true)
    (l9 : K.lookup f9 = some ⟨oc9, od9, .func (PySem.W.fnOf "__init__" "Office.__init__" (defArgs s_Office_init) (defBody s_Office_init) (defScope s_Office_init) .none kV9 dc9 pm9 an9 cd9 ct9), sl9⟩)
    (c9 : PySem.W.codeIn K cd9 "Office.__init__" = true)
    (k9 : PySem.W.keepIn K (.ref f9) = true)
    (a10 : PySem.W.nsIn K mainGlobals "_law_pick" = some (some (.ref f10)))
    (l10 : K.lookup f10 = some ⟨oc10, od10, .func (PySem.W.fnOf "_law_pick" "_law_pick" (defArgs s_law_pick) (defBody s_law_pick) (defScope s_law_pick) .none kV10 dc10 pm10 an10 cd10 ct10), sl10⟩)
    (c10 : PySem.W.codeIn K cd10 "_law_pick" = true)
    (k10 : PySem.W.keepIn K (.ref f10) = true)
    (a11 : PySem.W.nsIn K mainGlobals "_law_stand" = some (some (.ref f11)))
    (l11 : K.lookup f11 = some ⟨oc11, od11, .func (PySem.W.fnOf "_law_stand" "_law_stand" (defArgs s_law_stand_k02) (defBody s_law_stand_k02) (defScope s_law_stand_k02) .none kV11 dc11 pm11 an11 cd11 ct11), sl11⟩)
    (c11 : PySem.W.codeIn K cd11 "_law_stand" = true)
    (k11 : PySem.W.keepIn K (.ref f11) = true)
    (a12 : PySem.W.nsIn K mainGlobals "_law_row" = some (some (.ref f12)))
    (l12 : K.lookup f12 = some ⟨oc12, od12, .func (PySem.W.fnOf "_law_row" "_law_row" (defArgs s_law_row_k02) (defBody s_law_row_k02) (defScope s_law_row_k02) .none kV12 dc12 pm12 an12 cd12 ct12), sl12⟩)
    (c12 : PySem.W.codeIn K cd12 "_law_row" = true)
    (k12 : PySem.W.keepIn K (.ref f12) = true)
    (a13 : PySem.W.nsIn K mainGlobals "_law_call" = some (some (.ref f13)))
    (l13 : K.lookup f13 = some ⟨oc13, od13, .func (PySem.W.fnOf "_law_call" "_law_call" (defArgs s_law_call) (defBody s_law_call) (defScope s_law_call) .none kV13 dc13 pm13 an13 cd13 ct13), sl13⟩)
    (c13 : PySem.W.codeIn K cd13 "_law_call" = true)
    (k13 : PySem.W.keepIn K (.ref f13) = true)
    (a14 : PySem.W.nsIn K mainGlobals "_law_pulse" = some (some (.ref f14)))
    (l14 : K.lookup f14 = some ⟨oc14, od14, .func (PySem.W.fnOf "_law_pulse" "_law_pulse" (defArgs s_law_pulse_k02) (defBody s_law_pulse_k02) (defScope s_law_pulse_k02) .none kV14 dc14 pm14 an14 cd14 ct14), sl14⟩)
    (c14 : PySem.W.codeIn K cd14 "_law_pulse" = true)
    (k14 : PySem.W.keepIn K (.ref f14) = true)
    (a15 : PySem.W.nsIn K mainGlobals "_law_go" = some (some (.ref f15)))
    (l15 : K.lookup f15 = some ⟨oc15, od15, .func (PySem.W.fnOf "_law_go" "_law_go" (defArgs s_law_go) (defBody s_law_go) (defScope s_law_go) .none kV15 dc15 pm15 an15 cd15 ct15), sl15⟩)
    (c15 : PySem.W.codeIn K cd15 "_law_go" = true)
    (k15 : PySem.W.keepIn K (.ref f15) = true)
    (a16 : PySem.W.nsIn K mainGlobals "_law_with" = some (some (.ref f16)))
    (l16 : K.lookup f16 = some ⟨oc16, od16, .func (PySem.W.fnOf "_law_with" "_law_with" (defArgs s_law_with) (defBody s_law_with) (defScope s_law_with) .none kV16 dc16 pm16 an16 cd16 ct16), sl16⟩)
    (c16 : PySem.W.codeIn K cd16 "_law_with" = true)
    (k16 : PySem.W.keepIn K (.ref f16) = true)
    (a17 : PySem.W.nsIn K mainGlobals "_law_own" = some (some (.ref f17)))
    (l17 : K.lookup f17 = some ⟨oc17, od17, .func (PySem.W.fnOf "_law_own" "_law_own" (defArgs s_law_own) (defBody s_law_own) (defScope s_law_own) .none kV17 dc17 pm17 an17 cd17 ct17), sl17⟩)
    (c17 : PySem.W.codeIn K cd17 "_law_own" = true)
    (k17 : PySem.W.keepIn K (.ref f17) = true)
    (a18 : PySem.W.findIn K (.ref x_Office) "stands" = some (some (.ref f18)))
    (i18 : PySem.W.isFn K (.ref f18) = true)
    (l18 : K.lookup f18 = some ⟨oc18, od18, .func (PySem.W.fnOf "stands" "Office.stands" (defArgs s_Office_stands) (defBody s_Office_stands) (defScope s_Office_stands) .none kV18 dc18 pm18 an18 cd18 ct18), sl18⟩)
    (c18 : PySem.W.codeIn K cd18 "Office.stands" = true)
    (k18 : PySem.W.keepIn K (.ref f18) = true)
    (a19 : PySem.W.nsIn K mainGlobals "is_one" = some (some (.ref f19)))
    (l19 : K.lookup f19 = some ⟨oc19, od19, .func (PySem.W.fnOf "is_one" "is_one" (defArgs s_is_one) (defBody s_is_one) (defScope s_is_one) .none kV19 dc19 pm19 an19 cd19 ct19), sl19⟩)
    (c19 : PySem.W.codeIn K cd19 "is_one" = true)
    (k19 : PySem.W.keepIn K (.ref f19) = true)
    (a20 : PySem.W.findIn K (.ref x_Office) "in_step" = some (some (.ref f20)))
    (i20 : PySem.W.isFn K (.ref f20) = true)
    (l20 : K.lookup f20 = some ⟨oc20, od20, .func (PySem.W.fnOf "in_step" "Office.in_step" (defArgs s_Office_in_step_k12) (defBody s_Office_in_step_k12) (defScope s_Office_in_step_k12) .none kV20 dc20 pm20 an20 cd20 ct20), sl20⟩)
    (c20 : PySem.W.codeIn K cd20 "Office.in_step" = true)
    (k20 : PySem.W.keepIn K (.ref f20) = true)
    (a21 : PySem.W.nsIn K mainGlobals "places_of" = some (some (.ref f21)))
    (l21 : K.lookup f21 = some ⟨oc21, od21, .func (PySem.W.fnOf "places_of" "places_of" (defArgs s_places_of) (defBody s_places_of) (defScope s_places_of) .none kV21 dc21 pm21 an21 cd21 ct21), sl21⟩)
    (c21 : PySem.W.codeIn K cd21 "places_of" = true)
    (k21 : PySem.W.keepIn K (.ref f21) = true)
    (a22 : PySem.W.nsIn K mainGlobals "is_stand" = some (some (.ref f22)))
    (l22 : K.lookup f22 = some ⟨oc22, od22, .func (PySem.W.fnOf "is_stand" "is_stand" (defArgs s_is_stand) (defBody s_is_stand) (defScope s_is_stand) .none kV22 dc22 pm22 an22 cd22 ct22), sl22⟩)
    (c22 : PySem.W.codeIn K cd22 "is_stand" = true)
    (k22 : PySem.W.keepIn K (.ref f22) = true)
    (a23 : PySem.W.nsIn K mainGlobals "need_stand" = some (some (.ref f23)))
    (l23 : K.lookup f23 = some ⟨oc23, od23, .func (PySem.W.fnOf "need_stand" "need_stand" (defArgs s_need_stand) (defBody s_need_stand) (defScope s_need_stand) .none kV23 dc23 pm23 an23 cd23 ct23), sl23⟩)
    (c23 : PySem.W.codeIn K cd23 "need_stand" = true)
    (k23 : PySem.W.keepIn K (.ref f23) = true)
    (a24 : PySem.W.findIn K (.ref x_Office) "come" = some (some (.ref f24)))
    (i24 : PySem.W.isFn K (.ref f24) = true)
    (l24 : K.lookup f24 = some ⟨oc24, od24, .func (PySem.W.fnOf "come" "Office.come" (defArgs s_Office_come) (defBody s_Office_come) (defScope s_Office_come) .none kV24 dc24 pm24 an24 cd24 ct24), sl24⟩)
    (c24 : PySem.W.codeIn K cd24 "Office.come" = true)
    (k24 : PySem.W.keepIn K (.ref f24) = true)
    (a25 : PySem.W.nsIn K mainGlobals "is_row" = some (some (.ref f25)))
    (l25 : K.lookup f25 = some ⟨oc25, od25, .func (PySem.W.fnOf "is_row" "is_row" (defArgs s_is_row) (defBody s_is_row) (defScope s_is_row) .none kV25 dc25 pm25 an25 cd25 ct25), sl25⟩)
    (c25 : PySem.W.codeIn K cd25 "is_row" = true)
    (k25 : PySem.W.keepIn K (.ref f25) = true)
    (a26 : PySem.W.nsIn K mainGlobals "need_row" = some (some (.ref f26)))
    (l26 : K.lookup f26 = some ⟨oc26, od26, .func (PySem.W.fnOf "need_row" "need_row" (defArgs s_need_row) (defBody s_need_row) (defScope s_need_row) .none kV26 dc26 pm26 an26 cd26 ct26), sl26⟩)
    (c26 : PySem.W.codeIn K cd26 "need_row" = true)
    (k26 : PySem.W.keepIn K (.ref f26) = true)
    (a27 : PySem.W.nsIn K mainGlobals "is_caught" = some (some (.ref f27)))
    (l27 : K.lookup f27 = some ⟨oc27, od27, .func (PySem.W.fnOf "is_caught" "is_caught" (defArgs s_is_caught) (defBody s_is_caught) (defScope s_is_caught) .none kV27 dc27 pm27 an27 cd27 ct27), sl27⟩)
    (c27 : PySem.W.codeIn K cd27 "is_caught" = true)
    (k27 : PySem.W.keepIn K (.ref f27) = true)
    (a28 : PySem.W.nsIn K mainGlobals "pulsed" = some (some (.ref f28)))
    (l28 : K.lookup f28 = some ⟨oc28, od28, .func (PySem.W.fnOf "pulsed" "pulsed" (defArgs s_pulsed) (defBody s_pulsed) (defScope s_pulsed) .none kV28 dc28 pm28 an28 cd28 ct28), sl28⟩)
    (c28 : PySem.W.codeIn K cd28 "pulsed" = true)
    (k28 : PySem.W.keepIn K (.ref f28) = true)
    (a29 : PySem.W.nsIn K mainGlobals "rowed" = some (some (.ref f29)))
    (l29 : K.lookup f29 = some ⟨oc29, od29, .func (PySem.W.fnOf "rowed" "rowed" (defArgs s_rowed) (defBody s_rowed) (defScope s_rowed) .none kV29 dc29 pm29 an29 cd29 ct29), sl29⟩)
    (c29 : PySem.W.codeIn K cd29 "rowed" = true)
    (k29 : PySem.W.keepIn K (.ref f29) = true)
    (a30 : PySem.W.nsIn K mainGlobals "slipped" = some (some (.ref f30)))
    (l30 : K.lookup f30 = some ⟨oc30, od30, .func (PySem.W.fnOf "slipped" "slipped" (defArgs s_slipped) (defBody s_slipped) (defScope s_slipped) .none kV30 dc30 pm30 an30 cd30 ct30), sl30⟩)
    (c30 : PySem.W.codeIn K cd30 "slipped" = true)
    (k30 : PySem.W.keepIn K (.ref f30) = true)
    (a31 : PySem.W.findIn K (.ref x_Office) "send" = some (some (.ref f31)))
    (i31 : PySem.W.isFn K (.ref f31) = true)
    (l31 : K.lookup f31 = some ⟨oc31, od31, .func (PySem.W.fnOf "send" "Office.send" (defArgs s_Office_send) (defBody s_Office_send) (defScope s_Office_send) .none kV31 dc31 pm31 an31 cd31 ct31), sl31⟩)
    (c31 : PySem.W.codeIn K cd31 "Office.send" = true)
    (k31 : PySem.W.keepIn K (.ref f31) = true)
    (a32 : PySem.W.findIn K (.ref x_Office) "slip" = some (some (.ref f32)))
    (i32 : PySem.W.isFn K (.ref f32) = true)
    (l32 : K.lookup f32 = some ⟨oc32, od32, .func (PySem.W.fnOf "slip" "Office.slip" (defArgs s_Office_slip) (defBody s_Office_slip) (defScope s_Office_slip) .none kV32 dc32 pm32 an32 cd32 ct32), sl32⟩)
    (c32 : PySem.W.codeIn K cd32 "Office.slip" = true)
    (k32 : PySem.W.keepIn K (.ref f32) = true)
    (a33 : PySem.W.findIn K (.ref x_Office) "back" = some (some (.ref f33)))
    (i33 : PySem.W.isFn K (.ref f33) = true)
    (l33 : K.lookup f33 = some ⟨oc33, od33, .func (PySem.W.fnOf "back" "Office.back" (defArgs s_Office_back) (defBody s_Office_back) (defScope s_Office_back) .none kV33 dc33 pm33 an33 cd33 ct33), sl33⟩)
    (c33 : PySem.W.codeIn K cd33 "Office.back" = true)
    (k33 : PySem.W.keepIn K (.ref f33) = true)
    (a34 : PySem.W.nsIn K mainGlobals "_law_which" = some (some (.ref f34)))
    (l34 : K.lookup f34 = some ⟨oc34, od34, .func (PySem.W.fnOf "_law_which" "_law_which" (defArgs s_law_which) (defBody s_law_which) (defScope s_law_which) .none kV34 dc34 pm34 an34 cd34 ct34), sl34⟩)
    (c34 : PySem.W.codeIn K cd34 "_law_which" = true)
    (k34 : PySem.W.keepIn K (.ref f34) = true)
    (a35 : PySem.W.nsIn K mainGlobals "_law_do" = some (some (.ref f35)))
    (l35 : K.lookup f35 = some ⟨oc35, od35, .func (PySem.W.fnOf "_law_do" "_law_do" (defArgs s_law_do) (defBody s_law_do) (defScope s_law_do) .none kV35 dc35 pm35 an35 cd35 ct35), sl35⟩)
    (c35 : PySem.W.codeIn K cd35 "_law_do" = true)
    (k35 : PySem.W.keepIn K (.ref f35) = true)
    (a36 : PySem.W.findIn K (.ref x_Office) "tapes" = some (some (.ref f36)))
    (i36 : PySem.W.isFn K (.ref f36) = true)
    (l36 : K.lookup f36 = some ⟨oc36, od36, .func (PySem.W.fnOf "tapes" "Office.tapes" (defArgs s_Office_tapes) (defBody s_Office_tapes) (defScope s_Office_tapes) .none kV36 dc36 pm36 an36 cd36 ct36), sl36⟩)
    (c36 : PySem.W.codeIn K cd36 "Office.tapes" = true)
    (k36 : PySem.W.keepIn K (.ref f36) = true)
    (a37 : PySem.W.nsIn K mainGlobals "_law_same" = some (some (.ref f37)))
    (l37 : K.lookup f37 = some ⟨oc37, od37, .func (PySem.W.fnOf "_law_same" "_law_same" (defArgs s_law_same) (defBody s_law_same) (defScope s_law_same) .none kV37 dc37 pm37 an37 cd37 ct37), sl37⟩)
    (c37 : PySem.W.codeIn K cd37 "_law_same" = true)
    (k37 : PySem.W.keepIn K (.ref f37) = true)
    (a38 : PySem.W.nsIn K mainGlobals "law" = some (some (.ref f38)))
    (l38 : K.lookup f38 = some ⟨oc38, od38, .func (PySem.W.fnOf "law" "law" (defArgs s_law_k12) (defBody s_law_k12) (defScope s_law_k12) .none kV38 dc38 pm38 an38 cd38 ct38), sl38⟩)
    (c38 : PySem.W.codeIn K cd38 "law" = true)
    (k38 : PySem.W.keepIn K (.ref f38) = true)
    (z_ValueError : PySem.W.nsIn K mainGlobals "ValueError" = some none)
    (z_all : PySem.W.nsIn K mainGlobals "all" = some none)
    (z_bool : PySem.W.nsIn K mainGlobals "bool" = some none)
    (z_dict : PySem.W.nsIn K mainGlobals "dict" = some none)
    (z_enumerate : PySem.W.nsIn K mainGlobals "enumerate" = some none)
    (z_int : PySem.W.nsIn K mainGlobals "int" = some none)
    (z_isinstance : PySem.W.nsIn K mainGlobals "isinstance" = some none)
    (z_len : PySem.W.nsIn K mainGlobals "len" = some none)
    (z_list : PySem.W.nsIn K mainGlobals "list" = some none)
    (z_max : PySem.W.nsIn K mainGlobals "max" = some none)
    (z_range : PySem.W.nsIn K mainGlobals "range" = some none)
    (z_set : PySem.W.nsIn K mainGlobals "set" = some none)
    (z_str : PySem.W.nsIn K mainGlobals "str" = some none)
    (z_tuple : PySem.W.nsIn K mainGlobals "tuple" = some none)
    (z_zip : PySem.W.nsIn K mainGlobals "zip" = some none)
    (n_LEAST : PySem.W.nsIn K mainGlobals "LEAST" = some (some (.int 2 t_LEAST)))
    (n_LONG : PySem.W.nsIn K mainGlobals "LONG" = some (some (.int 400 t_LONG)))
    (n_MOST : PySem.W.nsIn K mainGlobals "MOST" = some (some (.int 30 t_MOST)))
    (n_PULSES : PySem.W.nsIn K mainGlobals "PULSES" = some (some (.str "splf" t_PULSES)))
    (n_SIGNS : PySem.W.nsIn K mainGlobals "SIGNS" = some (some (.str "abcdefghijklmnopqrstuvwxyz0123456789 .,-" t_SIGNS)))
    (n_TURNS : PySem.W.nsIn K mainGlobals "TURNS" = some (some (.int 3 t_TURNS)))
    (n_WORDS : PySem.W.nsIn K mainGlobals "WORDS" = some (some (.ref a_WORDS)))
    (o_WORDS : K.lookup a_WORDS = some ⟨.type "tuple", od_WORDS, .seq #[.str "lost" t0_WORDS, .str "twice" t1_WORDS] k_WORDS, sl_WORDS⟩)
    (n_NoPrinter : PySem.W.nsIn K mainGlobals "NoPrinter" = some (some (.ref x_NoPrinter)))
    (q_NoPrinter : PySem.W.excIn K x_NoPrinter [.type "ValueError", .type "Exception", .type "BaseException", .type "object"] "ValueError.__new__" = true)
    (p_NoPrinter : PySem.W.keepIn K (.ref x_NoPrinter) = true)
    (e_NoPrinter : PySem.W.subIn K (.ref x_NoPrinter) (.type "BaseException") = some true)
    (t_NoPrinter : PySem.W.typeIn K (.ref x_NoPrinter) = some (.type "type"))
    (n_NoRow : PySem.W.nsIn K mainGlobals "NoRow" = some (some (.ref x_NoRow)))
    (q_NoRow : PySem.W.excIn K x_NoRow [.type "ValueError", .type "Exception", .type "BaseException", .type "object"] "ValueError.__new__" = true)
    (p_NoRow : PySem.W.keepIn K (.ref x_NoRow) = true)
    (e_NoRow : PySem.W.subIn K (.ref x_NoRow) (.type "BaseException") = some true)
    (t_NoRow : PySem.W.typeIn K (.ref x_NoRow) = some (.type "type"))
    (n_NoStand : PySem.W.nsIn K mainGlobals "NoStand" = some (some (.ref x_NoStand)))
    (q_NoStand : PySem.W.excIn K x_NoStand [.type "ValueError", .type "Exception", .type "BaseException", .type "object"] "ValueError.__new__" = true)
    (p_NoStand : PySem.W.keepIn K (.ref x_NoStand) = true)
    (e_NoStand : PySem.W.subIn K (.ref x_NoStand) (.type "BaseException") = some true)
    (t_NoStand : PySem.W.typeIn K (.ref x_NoStand) = some (.type "type"))
    (n_NoWheels : PySem.W.nsIn K mainGlobals "NoWheels" = some (some (.ref x_NoWheels)))
    (q_NoWheels : PySem.W.excIn K x_NoWheels [.type "ValueError", .type "Exception", .type "BaseException", .type "object"] "ValueError.__new__" = true)
    (p_NoWheels : PySem.W.keepIn K (.ref x_NoWheels) = true)
    (e_NoWheels : PySem.W.subIn K (.ref x_NoWheels) (.type "BaseException") = some true)
    (t_NoWheels : PySem.W.typeIn K (.ref x_NoWheels) = some (.type "type"))
    (n_NoWord : PySem.W.nsIn K mainGlobals "NoWord" = some (some (.ref x_NoWord)))
    (q_NoWord : PySem.W.excIn K x_NoWord [.type "ValueError", .type "Exception", .type "BaseException", .type "object"] "ValueError.__new__" = true)
    (p_NoWord : PySem.W.keepIn K (.ref x_NoWord) = true)
    (e_NoWord : PySem.W.subIn K (.ref x_NoWord) (.type "BaseException") = some true)
    (t_NoWord : PySem.W.typeIn K (.ref x_NoWord) = some (.type "type"))
    (n_Nothing : PySem.W.nsIn K mainGlobals "Nothing" = some (some (.ref x_Nothing)))
    (q_Nothing : PySem.W.excIn K x_Nothing [.type "ValueError", .type "Exception", .type "BaseException", .type "object"] "ValueError.__new__" = true)
    (p_Nothing : PySem.W.keepIn K (.ref x_Nothing) = true)
    (e_Nothing : PySem.W.subIn K (.ref x_Nothing) (.type "BaseException") = some true)
    (t_Nothing : PySem.W.typeIn K (.ref x_Nothing) = some (.type "type"))
    (n_WheelError : PySem.W.nsIn K mainGlobals "WheelError" = some (some (.ref x_WheelError)))
    (t_WheelError : PySem.W.typeIn K (.ref x_WheelError) = some (.type "type"))
    (n_NoSlips : PySem.W.nsIn K mainGlobals "NoSlips" = some (some (.ref x_NoSlips)))
    (t_NoSlips : PySem.W.typeIn K (.ref x_NoSlips) = some (.type "type"))
    (n_NoText : PySem.W.nsIn K mainGlobals "NoText" = some (some (.ref x_NoText)))
    (t_NoText : PySem.W.typeIn K (.ref x_NoText) = some (.type "type"))
    (n_NoPlace : PySem.W.nsIn K mainGlobals "NoPlace" = some (some (.ref x_NoPlace)))
    (t_NoPlace : PySem.W.typeIn K (.ref x_NoPlace) = some (.type "type"))
    (d_WheelError : PySem.W.hasDictIn K x_WheelError = true)
    (d_NoWheels : PySem.W.hasDictIn K x_NoWheels = true)
    (d_NoStand : PySem.W.hasDictIn K x_NoStand = true)
    (d_NoRow : PySem.W.hasDictIn K x_NoRow = true)
    (d_NoSlips : PySem.W.hasDictIn K x_NoSlips = true)
    (d_NoText : PySem.W.hasDictIn K x_NoText = true)
    (d_NoPlace : PySem.W.hasDictIn K x_NoPlace = true)
    (d_NoPrinter : PySem.W.hasDictIn K x_NoPrinter = true)
    (d_NoWord : PySem.W.hasDictIn K x_NoWord = true)
    (d_Nothing : PySem.W.hasDictIn K x_Nothing = true)
    (e_WheelError : PySem.W.subIn K (.ref x_WheelError) (.type "BaseException") = some true)
    (hn_ : PySem.W.specialIn K (.builtin "object.__class__") "__get__" = some (some (.builtin "getset_descriptor.__get__")))
    (ht_ : PySem.W.takesIn K (.builtin "object.__class__") = some true)
    (ga_NoPrinter : PySem.W.findIn K (.ref x_NoPrinter) "__getattribute__" = some (some (.builtin "BaseException.__getattribute__")))
    (gb_NoPrinter : PySem.W.findIn K (.ref x_NoPrinter) "__getattr__" = some none)
    (gc_NoPrinter : PySem.W.findIn K (.ref x_NoPrinter) "__class__" = some (some (.builtin "object.__class__")))
    (gm_NoPrinter : PySem.W.mroIn K x_NoPrinter (.type "object") = some true)
    (gv_NoPrinter : PySem.W.subIn K (.ref x_NoPrinter) (.type "ValueError") = some true)
    (gw_NoPrinter : PySem.W.subIn K (.ref x_NoPrinter) (.ref x_WheelError) = some true)
    (s_NoPrinter_NoWheels : PySem.W.subIn K (.ref x_NoPrinter) (.ref x_NoWheels) = some false)
    (s_NoPrinter_NoStand : PySem.W.subIn K (.ref x_NoPrinter) (.ref x_NoStand) = some false)
    (s_NoPrinter_NoRow : PySem.W.subIn K (.ref x_NoPrinter) (.ref x_NoRow) = some false)
    (s_NoPrinter_NoSlips : PySem.W.subIn K (.ref x_NoPrinter) (.ref x_NoSlips) = some false)
    (s_NoPrinter_NoText : PySem.W.subIn K (.ref x_NoPrinter) (.ref x_NoText) = some false)
    (s_NoPrinter_NoPlace : PySem.W.subIn K (.ref x_NoPrinter) (.ref x_NoPlace) = some false)
    (s_NoPrinter_NoPrinter : PySem.W.subIn K (.ref x_NoPrinter) (.ref x_NoPrinter) = some true)
    (s_NoPrinter_NoWord : PySem.W.subIn K (.ref x_NoPrinter) (.ref x_NoWord) = some false)
    (s_NoPrinter_Nothing : PySem.W.subIn K (.ref x_NoPrinter) (.ref x_Nothing) = some false)
    (ga_NoRow : PySem.W.findIn K (.ref x_NoRow) "__getattribute__" = some (some (.builtin "BaseException.__getattribute__")))
    (gb_NoRow : PySem.W.findIn K (.ref x_NoRow) "__getattr__" = some none)
    (gc_NoRow : PySem.W.findIn K (.ref x_NoRow) "__class__" = some (some (.builtin "object.__class__")))
    (gm_NoRow : PySem.W.mroIn K x_NoRow (.type "object") = some true)
    (gv_NoRow : PySem.W.subIn K (.ref x_NoRow) (.type "ValueError") = some true)
    (gw_NoRow : PySem.W.subIn K (.ref x_NoRow) (.ref x_WheelError) = some true)
    (s_NoRow_NoWheels : PySem.W.subIn K (.ref x_NoRow) (.ref x_NoWheels) = some false)
    (s_NoRow_NoStand : PySem.W.subIn K (.ref x_NoRow) (.ref x_NoStand) = some false)
    (s_NoRow_NoRow : PySem.W.subIn K (.ref x_NoRow) (.ref x_NoRow) = some true)
    (s_NoRow_NoSlips : PySem.W.subIn K (.ref x_NoRow) (.ref x_NoSlips) = some false)
    (s_NoRow_NoText : PySem.W.subIn K (.ref x_NoRow) (.ref x_NoText) = some false)
    (s_NoRow_NoPlace : PySem.W.subIn K (.ref x_NoRow) (.ref x_NoPlace) = some false)
    (s_NoRow_NoPrinter : PySem.W.subIn K (.ref x_NoRow) (.ref x_NoPrinter) = some false)
    (s_NoRow_NoWord : PySem.W.subIn K (.ref x_NoRow) (.ref x_NoWord) = some false)
    (s_NoRow_Nothing : PySem.W.subIn K (.ref x_NoRow) (.ref x_Nothing) = some false)
    (ga_NoStand : PySem.W.findIn K (.ref x_NoStand) "__getattribute__" = some (some (.builtin "BaseException.__getattribute__")))
    (gb_NoStand : PySem.W.findIn K (.ref x_NoStand) "__getattr__" = some none)
    (gc_NoStand : PySem.W.findIn K (.ref x_NoStand) "__class__" = some (some (.builtin "object.__class__")))
    (gm_NoStand : PySem.W.mroIn K x_NoStand (.type "object") = some true)
    (gv_NoStand : PySem.W.subIn K (.ref x_NoStand) (.type "ValueError") = some true)
    (gw_NoStand : PySem.W.subIn K (.ref x_NoStand) (.ref x_WheelError) = some true)
    (s_NoStand_NoWheels : PySem.W.subIn K (.ref x_NoStand) (.ref x_NoWheels) = some false)
    (s_NoStand_NoStand : PySem.W.subIn K (.ref x_NoStand) (.ref x_NoStand) = some true)
    (s_NoStand_NoRow : PySem.W.subIn K (.ref x_NoStand) (.ref x_NoRow) = some false)
    (s_NoStand_NoSlips : PySem.W.subIn K (.ref x_NoStand) (.ref x_NoSlips) = some false)
    (s_NoStand_NoText : PySem.W.subIn K (.ref x_NoStand) (.ref x_NoText) = some false)
    (s_NoStand_NoPlace : PySem.W.subIn K (.ref x_NoStand) (.ref x_NoPlace) = some false)
    (s_NoStand_NoPrinter : PySem.W.subIn K (.ref x_NoStand) (.ref x_NoPrinter) = some false)
    (s_NoStand_NoWord : PySem.W.subIn K (.ref x_NoStand) (.ref x_NoWord) = some false)
    (s_NoStand_Nothing : PySem.W.subIn K (.ref x_NoStand) (.ref x_Nothing) = some false)
    (ga_NoWheels : PySem.W.findIn K (.ref x_NoWheels) "__getattribute__" = some (some (.builtin "BaseException.__getattribute__")))
    (gb_NoWheels : PySem.W.findIn K (.ref x_NoWheels) "__getattr__" = some none)
    (gc_NoWheels : PySem.W.findIn K (.ref x_NoWheels) "__class__" = some (some (.builtin "object.__class__")))
    (gm_NoWheels : PySem.W.mroIn K x_NoWheels (.type "object") = some true)
    (gv_NoWheels : PySem.W.subIn K (.ref x_NoWheels) (.type "ValueError") = some true)
    (gw_NoWheels : PySem.W.subIn K (.ref x_NoWheels) (.ref x_WheelError) = some true)
    (s_NoWheels_NoWheels : PySem.W.subIn K (.ref x_NoWheels) (.ref x_NoWheels) = some true)
    (s_NoWheels_NoStand : PySem.W.subIn K (.ref x_NoWheels) (.ref x_NoStand) = some false)
    (s_NoWheels_NoRow : PySem.W.subIn K (.ref x_NoWheels) (.ref x_NoRow) = some false)
    (s_NoWheels_NoSlips : PySem.W.subIn K (.ref x_NoWheels) (.ref x_NoSlips) = some false)
    (s_NoWheels_NoText : PySem.W.subIn K (.ref x_NoWheels) (.ref x_NoText) = some false)
    (s_NoWheels_NoPlace : PySem.W.subIn K (.ref x_NoWheels) (.ref x_NoPlace) = some false)
    (s_NoWheels_NoPrinter : PySem.W.subIn K (.ref x_NoWheels) (.ref x_NoPrinter) = some false)
    (s_NoWheels_NoWord : PySem.W.subIn K (.ref x_NoWheels) (.ref x_NoWord) = some false)
    (s_NoWheels_Nothing : PySem.W.subIn K (.ref x_NoWheels) (.ref x_Nothing) = some false)
    (ga_NoWord : PySem.W.findIn K (.ref x_NoWord) "__getattribute__" = some (some (.builtin "BaseException.__getattribute__")))
    (gb_NoWord : PySem.W.findIn K (.ref x_NoWord) "__getattr__" = some none)
    (gc_NoWord : PySem.W.findIn K (.ref x_NoWord) "__class__" = some (some (.builtin "object.__class__")))
    (gm_NoWord : PySem.W.mroIn K x_NoWord (.type "object") = some true)
    (gv_NoWord : PySem.W.subIn K (.ref x_NoWord) (.type "ValueError") = some true)
    (gw_NoWord : PySem.W.subIn K (.ref x_NoWord) (.ref x_WheelError) = some true)
    (s_NoWord_NoWheels : PySem.W.subIn K (.ref x_NoWord) (.ref x_NoWheels) = some false)
    (s_NoWord_NoStand : PySem.W.subIn K (.ref x_NoWord) (.ref x_NoStand) = some false)
    (s_NoWord_NoRow : PySem.W.subIn K (.ref x_NoWord) (.ref x_NoRow) = some false)
    (s_NoWord_NoSlips : PySem.W.subIn K (.ref x_NoWord) (.ref x_NoSlips) = some false)
    (s_NoWord_NoText : PySem.W.subIn K (.ref x_NoWord) (.ref x_NoText) = some false)
    (s_NoWord_NoPlace : PySem.W.subIn K (.ref x_NoWord) (.ref x_NoPlace) = some false)
    (s_NoWord_NoPrinter : PySem.W.subIn K (.ref x_NoWord) (.ref x_NoPrinter) = some false)
    (s_NoWord_NoWord : PySem.W.subIn K (.ref x_NoWord) (.ref x_NoWord) = some true)
    (s_NoWord_Nothing : PySem.W.subIn K (.ref x_NoWord) (.ref x_Nothing) = some false)
    (ga_Nothing : PySem.W.findIn K (.ref x_Nothing) "__getattribute__" = some (some (.builtin "BaseException.__getattribute__")))
    (gb_Nothing : PySem.W.findIn K (.ref x_Nothing) "__getattr__" = some none)
    (gc_Nothing : PySem.W.findIn K (.ref x_Nothing) "__class__" = some (some (.builtin "object.__class__")))
    (gm_Nothing : PySem.W.mroIn K x_Nothing (.type "object") = some true)
    (gv_Nothing : PySem.W.subIn K (.ref x_Nothing) (.type "ValueError") = some true)
    (gw_Nothing : PySem.W.subIn K (.ref x_Nothing) (.ref x_WheelError) = some true)
    (s_Nothing_NoWheels : PySem.W.subIn K (.ref x_Nothing) (.ref x_NoWheels) = some false)
    (s_Nothing_NoStand : PySem.W.subIn K (.ref x_Nothing) (.ref x_NoStand) = some false)
    (s_Nothing_NoRow : PySem.W.subIn K (.ref x_Nothing) (.ref x_NoRow) = some false)
    (s_Nothing_NoSlips : PySem.W.subIn K (.ref x_Nothing) (.ref x_NoSlips) = some false)
    (s_Nothing_NoText : PySem.W.subIn K (.ref x_Nothing) (.ref x_NoText) = some false)
    (s_Nothing_NoPlace : PySem.W.subIn K (.ref x_Nothing) (.ref x_NoPlace) = some false)
    (s_Nothing_NoPrinter : PySem.W.subIn K (.ref x_Nothing) (.ref x_NoPrinter) = some false)
    (s_Nothing_NoWord : PySem.W.subIn K (.ref x_Nothing) (.ref x_NoWord) = some false)
    (s_Nothing_Nothing : PySem.W.subIn K (.ref x_Nothing) (.ref x_Nothing) = some true) :
    ∃ fd : FuncData, (∀ (s : Shared) (u : Value), BindsTo s fd ⟨[u], []⟩ [("script", u)]) ∧ ∀ base : Heap, K.In base → base.Ns mainGlobals mg → FnOk P w K mg base (L2.CX P w) 8 fa fd ["script"] (spTop K) := by
  have e := hfa.symm.trans (PySem.W.mg_of X G a38)
  cases e
  have F0 := fun_mk (st := s_law_cell_at) l0 c0 k0
  have B0 := F0.binds (ps := ["script", "k"]) fun _ _ _ _ _ _ us hl => match us, hl with | [_, _], _ => rfl
  have F1 := fun_mk (st := s_law_mixed) l1 c1 k1
  have B1 := F1.binds (ps := ["script", "k", "many"]) fun _ _ _ _ _ _ us hl => match us, hl with | [_, _, _], _ => rfl
  have F2 := fun_mk (st := s_law_draw) l2 c2 k2
  have B2 := F2.binds (ps := ["script", "town", "many"]) fun _ _ _ _ _ _ us hl => match us, hl with | [_, _, _], _ => rfl
  have F3 := fun_mk (st := s_law_wheels_k01) l3 c3 k3
  have B3 := F3.binds (ps := ["script", "town", "most"]) fun _ _ _ _ _ _ us hl => match us, hl with | [_, _, _], _ => rfl
  have F4 := fun_mk (st := s_is_whole) l4 c4 k4
  have B4 := F4.binds (ps := ["thing", "low", "most"]) fun _ _ _ _ _ _ us hl => match us, hl with | [_, _, _], _ => rfl
  have F5 := fun_mk (st := s_are_signs) l5 c5 k5
  have B5 := F5.binds (ps := ["thing", "low", "most"]) fun _ _ _ _ _ _ us hl => match us, hl with | [_, _, _], _ => rfl
  have F6 := fun_mk (st := s_is_wheel) l6 c6 k6
  have B6 := F6.binds (ps := ["thing"]) fun _ _ _ _ _ _ us hl => match us, hl with | [_], _ => rfl
  have F7 := fun_mk (st := s_is_wheels) l7 c7 k7
  have B7 := F7.binds (ps := ["thing"]) fun _ _ _ _ _ _ us hl => match us, hl with | [_], _ => rfl
  have F8 := fun_mk (st := s_need_wheels) l8 c8 k8
  have B8 := F8.binds (ps := ["thing"]) fun _ _ _ _ _ _ us hl => match us, hl with | [_], _ => rfl
  have F9 := fun_mk (st := s_Office_init) l9 c9 k9
  have B9 := F9.binds (ps := ["self", "wheels"]) fun _ _ _ _ _ _ us hl => match us, hl with | [_, _], _ => rfl
  have F10 := fun_mk (st := s_law_pick) l10 c10 k10
  have B10 := F10.binds (ps := ["script", "town", "some"]) fun _ _ _ _ _ _ us hl => match us, hl with | [_, _, _], _ => rfl
  have F11 := fun_mk (st := s_law_stand_k02) l11 c11 k11
  have B11 := F11.binds (ps := ["script", "town", "wheels"]) fun _ _ _ _ _ _ us hl => match us, hl with | [_, _, _], _ => rfl
  have F12 := fun_mk (st := s_law_row_k02) l12 c12 k12
  have B12 := F12.binds (ps := ["script", "town", "wheels", "most"]) fun _ _ _ _ _ _ us hl => match us, hl with | [_, _, _, _], _ => rfl
  have F13 := fun_mk (st := s_law_call) l13 c13 k13
  have B13 := F13.binds (ps := ["script", "town", "wheels", "model"]) fun _ _ _ _ _ _ us hl => match us, hl with | [_, _, _, _], _ => rfl
  have F14 := fun_mk (st := s_law_pulse_k02) l14 c14 k14
  have B14 := F14.binds (ps := ["wheels", "stand", "pulse"]) fun _ _ _ _ _ _ us hl => match us, hl with | [_, _, _], _ => rfl
  have F15 := fun_mk (st := s_law_go) l15 c15 k15
  have B15 := F15.binds (ps := ["wheels", "stand", "row"]) fun _ _ _ _ _ _ us hl => match us, hl with | [_, _, _], _ => rfl
  have F16 := fun_mk (st := s_law_with) l16 c16 k16
  have B16 := F16.binds (ps := ["row", "slips"]) fun _ _ _ _ _ _ us hl => match us, hl with | [_, _], _ => rfl
  have F17 := fun_mk (st := s_law_own) l17 c17 k17
  have B17 := F17.binds (ps := ["model", "past", "wheels", "call"]) fun _ _ _ _ _ _ us hl => match us, hl with | [_, _, _, _], _ => rfl
  have F18 := fun_mk (st := s_Office_stands) l18 c18 k18
  have B18 := F18.binds (ps := ["self"]) fun _ _ _ _ _ _ us hl => match us, hl with | [_], _ => rfl
  have F19 := fun_mk (st := s_is_one) l19 c19 k19
  have B19 := F19.binds (ps := ["things"]) fun _ _ _ _ _ _ us hl => match us, hl with | [_], _ => rfl
  have F20 := fun_mk (st := s_Office_in_step_k12) l20 c20 k20
  have B20 := F20.binds (ps := ["self"]) fun _ _ _ _ _ _ us hl => match us, hl with | [_], _ => rfl
  have F21 := fun_mk (st := s_places_of) l21 c21 k21
  have B21 := F21.binds (ps := ["wheels"]) fun _ _ _ _ _ _ us hl => match us, hl with | [_], _ => rfl
  have F22 := fun_mk (st := s_is_stand) l22 c22 k22
  have B22 := F22.binds (ps := ["wheels", "thing"]) fun _ _ _ _ _ _ us hl => match us, hl with | [_, _], _ => rfl
  have F23 := fun_mk (st := s_need_stand) l23 c23 k23
  have B23 := F23.binds (ps := ["wheels", "thing"]) fun _ _ _ _ _ _ us hl => match us, hl with | [_, _], _ => rfl
  have F24 := fun_mk (st := s_Office_come) l24 c24 k24
  have B24 := F24.binds (ps := ["self", "stand"]) fun _ _ _ _ _ _ us hl => match us, hl with | [_, _], _ => rfl
  have F25 := fun_mk (st := s_is_row) l25 c25 k25
  have B25 := F25.binds (ps := ["thing", "most"]) fun _ _ _ _ _ _ us hl => match us, hl with | [_, _], _ => rfl
  have F26 := fun_mk (st := s_need_row) l26 c26 k26
  have B26 := F26.binds (ps := ["thing", "most"]) fun _ _ _ _ _ _ us hl => match us, hl with | [_, _], _ => rfl
  have F27 := fun_mk (st := s_is_caught) l27 c27 k27
  have B27 := F27.binds (ps := ["wheels", "stand"]) fun _ _ _ _ _ _ us hl => match us, hl with | [_, _], _ => rfl
  have F28 := fun_mk (st := s_pulsed) l28 c28 k28
  have B28 := F28.binds (ps := ["wheels", "stand", "pulse"]) fun _ _ _ _ _ _ us hl => match us, hl with | [_, _, _], _ => rfl
  have F29 := fun_mk (st := s_rowed) l29 c29 k29
  have B29 := F29.binds (ps := ["wheels", "stand", "row"]) fun _ _ _ _ _ _ us hl => match us, hl with | [_, _, _], _ => rfl
  have F30 := fun_mk (st := s_slipped) l30 c30 k30
  have B30 := F30.binds (ps := ["row", "slips"]) fun _ _ _ _ _ _ us hl => match us, hl with | [_, _], _ => rfl
  have F31 := fun_mk (st := s_Office_send) l31 c31 k31
  have B31 := F31.binds (ps := ["self", "row"]) fun _ _ _ _ _ _ us hl => match us, hl with | [_, _], _ => rfl
  have F32 := fun_mk (st := s_Office_slip) l32 c32 k32
  have B32 := F32.binds (ps := ["self", "number", "word"]) fun _ _ _ _ _ _ us hl => match us, hl with | [_, _, _], _ => rfl
  have F33 := fun_mk (st := s_Office_back) l33 c33 k33
  have B33 := F33.binds (ps := ["self"]) fun _ _ _ _ _ _ us hl => match us, hl with | [_], _ => rfl
  have F34 := fun_mk (st := s_law_which) l34 c34 k34
  have B34 := F34.binds (ps := ["e"]) fun _ _ _ _ _ _ us hl => match us, hl with | [_], _ => rfl
  have F35 := fun_mk (st := s_law_do) l35 c35 k35
  have B35 := F35.binds (ps := ["office", "call"]) fun _ _ _ _ _ _ us hl => match us, hl with | [_, _], _ => rfl
  have F36 := fun_mk (st := s_Office_tapes) l36 c36 k36
  have B36 := F36.binds (ps := ["self"]) fun _ _ _ _ _ _ us hl => match us, hl with | [_], _ => rfl
  have F37 := fun_mk (st := s_law_same) l37 c37 k37
  have B37 := F37.binds (ps := ["office", "model"]) fun _ _ _ _ _ _ us hl => match us, hl with | [_, _], _ => rfl
  have F38 := fun_mk (st := s_law_k12) l38 c38 k38
  have B38 := F38.binds (ps := ["script"]) fun _ _ _ _ _ _ us hl => match us, hl with | [_], _ => rfl
  let T : Txt ⟨K, fun c => none, fun c => if c = "Office" then .ref x_Office else if c = "NoPrinter" then .ref x_NoPrinter else if c = "NoRow" then .ref x_NoRow else if c = "NoStand" then .ref x_NoStand else if c = "NoWheels" then .ref x_NoWheels else if c = "NoWord" then .ref x_NoWord else if c = "Nothing" then .ref x_Nothing else .none, none, w⟩ mg := { x_Office := x_Office, c_Office := rfl, n_Office := PySem.W.mg_of X G nC_Office, cl_Office := ⟨pg_Office, hd_Office, po_Office, sa_Office⟩, na_Office_all_stands := na_Office_all_stands, na_Office_all_tapes := na_Office_all_tapes, na_Office_past := na_Office_past, na_Office_waits := na_Office_waits, na_Office_wheels := na_Office_wheels, f_law_cell_at := _, fd_law_cell_at := _, F_law_cell_at := F0, b_law_cell_at := B0, g_law_cell_at := PySem.W.mg_of X G a0, f_law_mixed := _, fd_law_mixed := _, F_law_mixed := F1, b_law_mixed := B1, g_law_mixed := PySem.W.mg_of X G a1, f_law_draw := _, fd_law_draw := _, F_law_draw := F2, b_law_draw := B2, g_law_draw := PySem.W.mg_of X G a2, f_law_wheels_k01 := _, fd_law_wheels_k01 := _, F_law_wheels_k01 := F3, b_law_wheels_k01 := B3, g_law_wheels_k01 := PySem.W.mg_of X G a3, f_is_whole := _, fd_is_whole := _, F_is_whole := F4, b_is_whole := B4, g_is_whole := PySem.W.mg_of X G a4, f_are_signs := _, fd_are_signs := _, F_are_signs := F5, b_are_signs := B5, g_are_signs := PySem.W.mg_of X G a5, f_is_wheel := _, fd_is_wheel := _, F_is_wheel := F6, b_is_wheel := B6, g_is_wheel := PySem.W.mg_of X G a6, f_is_wheels := _, fd_is_wheels := _, F_is_wheels := F7, b_is_wheels := B7, g_is_wheels := PySem.W.mg_of X G a7, f_need_wheels := _, fd_need_wheels := _, F_need_wheels := F8, b_need_wheels := B8, g_need_wheels := PySem.W.mg_of X G a8, f_Office_init := _, fd_Office_init := _, F_Office_init := F9, b_Office_init := B9, mk_Office := ⟨mk_Office, a9, i9, kc_Office⟩, f_law_pick := _, fd_law_pick := _, F_law_pick := F10, b_law_pick := B10, g_law_pick := PySem.W.mg_of X G a10, f_law_stand_k02 := _, fd_law_stand_k02 := _, F_law_stand_k02 := F11, b_law_stand_k02 := B11, g_law_stand_k02 := PySem.W.mg_of X G a11, f_law_row_k02 := _, fd_law_row_k02 := _, F_law_row_k02 := F12, b_law_row_k02 := B12, g_law_row_k02 := PySem.W.mg_of X G a12, f_law_call := _, fd_law_call := _, F_law_call := F13, b_law_call := B13, g_law_call := PySem.W.mg_of X G a13, f_law_pulse_k02 := _, fd_law_pulse_k02 := _, F_law_pulse_k02 := F14, b_law_pulse_k02 := B14, g_law_pulse_k02 := PySem.W.mg_of X G a14, f_law_go := _, fd_law_go := _, F_law_go := F15, b_law_go := B15, g_law_go := PySem.W.mg_of X G a15, f_law_with := _, fd_law_with := _, F_law_with := F16, b_law_with := B16, g_law_with := PySem.W.mg_of X G a16, f_law_own := _, fd_law_own := _, F_law_own := F17, b_law_own := B17, g_law_own := PySem.W.mg_of X G a17, f_Office_stands := _, fd_Office_stands := _, F_Office_stands := F18, b_Office_stands := B18, mt_Office_stands := ⟨a18, i18, k18⟩, f_is_one := _, fd_is_one := _, F_is_one := F19, b_is_one := B19, g_is_one := PySem.W.mg_of X G a19, f_Office_in_step_k12 := _, fd_Office_in_step_k12 := _, F_Office_in_step_k12 := F20, b_Office_in_step_k12 := B20, mt_Office_in_step_k12 := ⟨a20, i20, k20⟩, f_places_of := _, fd_places_of := _, F_places_of := F21, b_places_of := B21, g_places_of := PySem.W.mg_of X G a21, f_is_stand := _, fd_is_stand := _, F_is_stand := F22, b_is_stand := B22, g_is_stand := PySem.W.mg_of X G a22, f_need_stand := _, fd_need_stand := _, F_need_stand := F23, b_need_stand := B23, g_need_stand := PySem.W.mg_of X G a23, f_Office_come := _, fd_Office_come := _, F_Office_come := F24, b_Office_come := B24, mt_Office_come := ⟨a24, i24, k24⟩, f_is_row := _, fd_is_row := _, F_is_row := F25, b_is_row := B25, g_is_row := PySem.W.mg_of X G a25, f_need_row := _, fd_need_row := _, F_need_row := F26, b_need_row := B26, g_need_row := PySem.W.mg_of X G a26, f_is_caught := _, fd_is_caught := _, F_is_caught := F27, b_is_caught := B27, g_is_caught := PySem.W.mg_of X G a27, f_pulsed := _, fd_pulsed := _, F_pulsed := F28, b_pulsed := B28, g_pulsed := PySem.W.mg_of X G a28, f_rowed := _, fd_rowed := _, F_rowed := F29, b_rowed := B29, g_rowed := PySem.W.mg_of X G a29, f_slipped := _, fd_slipped := _, F_slipped := F30, b_slipped := B30, g_slipped := PySem.W.mg_of X G a30, f_Office_send := _, fd_Office_send := _, F_Office_send := F31, b_Office_send := B31, mt_Office_send := ⟨a31, i31, k31⟩, f_Office_slip := _, fd_Office_slip := _, F_Office_slip := F32, b_Office_slip := B32, mt_Office_slip := ⟨a32, i32, k32⟩, f_Office_back := _, fd_Office_back := _, F_Office_back := F33, b_Office_back := B33, mt_Office_back := ⟨a33, i33, k33⟩, f_law_which := _, fd_law_which := _, F_law_which := F34, b_law_which := B34, g_law_which := PySem.W.mg_of X G a34, f_law_do := _, fd_law_do := _, F_law_do := F35, b_law_do := B35, g_law_do := PySem.W.mg_of X G a35, f_Office_tapes := _, fd_Office_tapes := _, F_Office_tapes := F36, b_Office_tapes := B36, mt_Office_tapes := ⟨a36, i36, k36⟩, f_law_same := _, fd_law_same := _, F_law_same := F37, b_law_same := B37, g_law_same := PySem.W.mg_of X G a37, f_law_k12 := _, fd_law_k12 := _, F_law_k12 := F38, b_law_k12 := B38, g_law_k12 := PySem.W.mg_of X G a38, z_ValueError := PySem.W.mg_none_of X G z_ValueError, z_all := PySem.W.mg_none_of X G z_all, z_bool := PySem.W.mg_none_of X G z_bool, z_dict := PySem.W.mg_none_of X G z_dict, z_enumerate := PySem.W.mg_none_of X G z_enumerate, z_int := PySem.W.mg_none_of X G z_int, z_isinstance := PySem.W.mg_none_of X G z_isinstance, z_len := PySem.W.mg_none_of X G z_len, z_list := PySem.W.mg_none_of X G z_list, z_max := PySem.W.mg_none_of X G z_max, z_range := PySem.W.mg_none_of X G z_range, z_set := PySem.W.mg_none_of X G z_set, z_str := PySem.W.mg_none_of X G z_str, z_tuple := PySem.W.mg_none_of X G z_tuple, z_zip := PySem.W.mg_none_of X G z_zip, k_LEAST := con_int (PySem.W.mg_of X G n_LEAST), k_LONG := con_int (PySem.W.mg_of X G n_LONG), k_MOST := con_int (PySem.W.mg_of X G n_MOST), k_PULSES := con_str (PySem.W.mg_of X G n_PULSES) (by decide +kernel) (by decide +kernel), k_SIGNS := con_str (PySem.W.mg_of X G n_SIGNS) (by decide +kernel) (by decide +kernel), k_TURNS := con_int (PySem.W.mg_of X G n_TURNS), k_WORDS := con_tup (xs := [.str "lost", .str "twice"]) (PySem.W.mg_of X G n_WORDS) o_WORDS (by show 2 ≤ sizeLine; decide) (.cons ⟨_, rfl⟩ (.cons ⟨_, rfl⟩ .nil)) (cl_str (by decide +kernel) (by decide +kernel) (cl_str (by decide +kernel) (by decide +kernel) cl_nil)), x_NoPrinter := x_NoPrinter, q_NoPrinter := q_NoPrinter, n_NoPrinter := PySem.W.mg_of X G n_NoPrinter, p_NoPrinter := p_NoPrinter, e_NoPrinter := e_NoPrinter, t_NoPrinter := t_NoPrinter, c_NoPrinter := rfl, x_NoRow := x_NoRow, q_NoRow := q_NoRow, n_NoRow := PySem.W.mg_of X G n_NoRow, p_NoRow := p_NoRow, e_NoRow := e_NoRow, t_NoRow := t_NoRow, c_NoRow := rfl, x_NoStand := x_NoStand, q_NoStand := q_NoStand, n_NoStand := PySem.W.mg_of X G n_NoStand, p_NoStand := p_NoStand, e_NoStand := e_NoStand, t_NoStand := t_NoStand, c_NoStand := rfl, x_NoWheels := x_NoWheels, q_NoWheels := q_NoWheels, n_NoWheels := PySem.W.mg_of X G n_NoWheels, p_NoWheels := p_NoWheels, e_NoWheels := e_NoWheels, t_NoWheels := t_NoWheels, c_NoWheels := rfl, x_NoWord := x_NoWord, q_NoWord := q_NoWord, n_NoWord := PySem.W.mg_of X G n_NoWord, p_NoWord := p_NoWord, e_NoWord := e_NoWord, t_NoWord := t_NoWord, c_NoWord := rfl, x_Nothing := x_Nothing, q_Nothing := q_Nothing, n_Nothing := PySem.W.mg_of X G n_Nothing, p_Nothing := p_Nothing, e_Nothing := e_Nothing, t_Nothing := t_Nothing, c_Nothing := rfl, x_WheelError := x_WheelError, n_WheelError := PySem.W.mg_of X G n_WheelError, x_NoSlips := x_NoSlips, n_NoSlips := PySem.W.mg_of X G n_NoSlips, x_NoText := x_NoText, n_NoText := PySem.W.mg_of X G n_NoText, x_NoPlace := x_NoPlace, n_NoPlace := PySem.W.mg_of X G n_NoPlace, h_NoPrinter := PySem.W.exm_ref e_WheelError d_WheelError t_WheelError gw_NoPrinter, w_NoPrinter := ⟨⟨ga_NoPrinter, gb_NoPrinter, e_NoPrinter, d_NoPrinter, gc_NoPrinter, hn_, ht_, gm_NoPrinter⟩, ⟨kit_own2 s_NoPrinter_NoWheels s_NoPrinter_NoPrinter d_NoWheels t_NoWheels, kit_own2 s_NoPrinter_NoStand s_NoPrinter_NoPrinter d_NoStand t_NoStand, kit_own2 s_NoPrinter_NoRow s_NoPrinter_NoPrinter d_NoRow t_NoRow, kit_own2 s_NoPrinter_NoSlips s_NoPrinter_NoPrinter d_NoSlips t_NoSlips, kit_own2 s_NoPrinter_NoText s_NoPrinter_NoPrinter d_NoText t_NoText, kit_own2 s_NoPrinter_NoPlace s_NoPrinter_NoPrinter d_NoPlace t_NoPlace, kit_own2 s_NoPrinter_NoPrinter s_NoPrinter_NoPrinter d_NoPrinter t_NoPrinter, kit_own2 s_NoPrinter_NoWord s_NoPrinter_NoPrinter d_NoWord t_NoWord, kit_own2 s_NoPrinter_Nothing s_NoPrinter_NoPrinter d_Nothing t_Nothing, trivial⟩, kit_val gv_NoPrinter (by decide +kernel)⟩, h_NoRow := PySem.W.exm_ref e_WheelError d_WheelError t_WheelError gw_NoRow, w_NoRow := ⟨⟨ga_NoRow, gb_NoRow, e_NoRow, d_NoRow, gc_NoRow, hn_, ht_, gm_NoRow⟩, ⟨kit_own2 s_NoRow_NoWheels s_NoRow_NoRow d_NoWheels t_NoWheels, kit_own2 s_NoRow_NoStand s_NoRow_NoRow d_NoStand t_NoStand, kit_own2 s_NoRow_NoRow s_NoRow_NoRow d_NoRow t_NoRow, kit_own2 s_NoRow_NoSlips s_NoRow_NoRow d_NoSlips t_NoSlips, kit_own2 s_NoRow_NoText s_NoRow_NoRow d_NoText t_NoText, kit_own2 s_NoRow_NoPlace s_NoRow_NoRow d_NoPlace t_NoPlace, kit_own2 s_NoRow_NoPrinter s_NoRow_NoRow d_NoPrinter t_NoPrinter, kit_own2 s_NoRow_NoWord s_NoRow_NoRow d_NoWord t_NoWord, kit_own2 s_NoRow_Nothing s_NoRow_NoRow d_Nothing t_Nothing, trivial⟩, kit_val gv_NoRow (by decide +kernel)⟩, h_NoStand := PySem.W.exm_ref e_WheelError d_WheelError t_WheelError gw_NoStand, w_NoStand := ⟨⟨ga_NoStand, gb_NoStand, e_NoStand, d_NoStand, gc_NoStand, hn_, ht_, gm_NoStand⟩, ⟨kit_own2 s_NoStand_NoWheels s_NoStand_NoStand d_NoWheels t_NoWheels, kit_own2 s_NoStand_NoStand s_NoStand_NoStand d_NoStand t_NoStand, kit_own2 s_NoStand_NoRow s_NoStand_NoStand d_NoRow t_NoRow, kit_own2 s_NoStand_NoSlips s_NoStand_NoStand d_NoSlips t_NoSlips, kit_own2 s_NoStand_NoText s_NoStand_NoStand d_NoText t_NoText, kit_own2 s_NoStand_NoPlace s_NoStand_NoStand d_NoPlace t_NoPlace, kit_own2 s_NoStand_NoPrinter s_NoStand_NoStand d_NoPrinter t_NoPrinter, kit_own2 s_NoStand_NoWord s_NoStand_NoStand d_NoWord t_NoWord, kit_own2 s_NoStand_Nothing s_NoStand_NoStand d_Nothing t_Nothing, trivial⟩, kit_val gv_NoStand (by decide +kernel)⟩, h_NoWheels := PySem.W.exm_ref e_WheelError d_WheelError t_WheelError gw_NoWheels, w_NoWheels := ⟨⟨ga_NoWheels, gb_NoWheels, e_NoWheels, d_NoWheels, gc_NoWheels, hn_, ht_, gm_NoWheels⟩, ⟨kit_own2 s_NoWheels_NoWheels s_NoWheels_NoWheels d_NoWheels t_NoWheels, kit_own2 s_NoWheels_NoStand s_NoWheels_NoWheels d_NoStand t_NoStand, kit_own2 s_NoWheels_NoRow s_NoWheels_NoWheels d_NoRow t_NoRow, kit_own2 s_NoWheels_NoSlips s_NoWheels_NoWheels d_NoSlips t_NoSlips, kit_own2 s_NoWheels_NoText s_NoWheels_NoWheels d_NoText t_NoText, kit_own2 s_NoWheels_NoPlace s_NoWheels_NoWheels d_NoPlace t_NoPlace, kit_own2 s_NoWheels_NoPrinter s_NoWheels_NoWheels d_NoPrinter t_NoPrinter, kit_own2 s_NoWheels_NoWord s_NoWheels_NoWheels d_NoWord t_NoWord, kit_own2 s_NoWheels_Nothing s_NoWheels_NoWheels d_Nothing t_Nothing, trivial⟩, kit_val gv_NoWheels (by decide +kernel)⟩, h_NoWord := PySem.W.exm_ref e_WheelError d_WheelError t_WheelError gw_NoWord, w_NoWord := ⟨⟨ga_NoWord, gb_NoWord, e_NoWord, d_NoWord, gc_NoWord, hn_, ht_, gm_NoWord⟩, ⟨kit_own2 s_NoWord_NoWheels s_NoWord_NoWord d_NoWheels t_NoWheels, kit_own2 s_NoWord_NoStand s_NoWord_NoWord d_NoStand t_NoStand, kit_own2 s_NoWord_NoRow s_NoWord_NoWord d_NoRow t_NoRow, kit_own2 s_NoWord_NoSlips s_NoWord_NoWord d_NoSlips t_NoSlips, kit_own2 s_NoWord_NoText s_NoWord_NoWord d_NoText t_NoText, kit_own2 s_NoWord_NoPlace s_NoWord_NoWord d_NoPlace t_NoPlace, kit_own2 s_NoWord_NoPrinter s_NoWord_NoWord d_NoPrinter t_NoPrinter, kit_own2 s_NoWord_NoWord s_NoWord_NoWord d_NoWord t_NoWord, kit_own2 s_NoWord_Nothing s_NoWord_NoWord d_Nothing t_Nothing, trivial⟩, kit_val gv_NoWord (by decide +kernel)⟩, h_Nothing := PySem.W.exm_ref e_WheelError d_WheelError t_WheelError gw_Nothing, w_Nothing := ⟨⟨ga_Nothing, gb_Nothing, e_Nothing, d_Nothing, gc_Nothing, hn_, ht_, gm_Nothing⟩, ⟨kit_own2 s_Nothing_NoWheels s_Nothing_Nothing d_NoWheels t_NoWheels, kit_own2 s_Nothing_NoStand s_Nothing_Nothing d_NoStand t_NoStand, kit_own2 s_Nothing_NoRow s_Nothing_Nothing d_NoRow t_NoRow, kit_own2 s_Nothing_NoSlips s_Nothing_Nothing d_NoSlips t_NoSlips, kit_own2 s_Nothing_NoText s_Nothing_Nothing d_NoText t_NoText, kit_own2 s_Nothing_NoPlace s_Nothing_Nothing d_NoPlace t_NoPlace, kit_own2 s_Nothing_NoPrinter s_Nothing_Nothing d_NoPrinter t_NoPrinter, kit_own2 s_Nothing_NoWord s_Nothing_Nothing d_NoWord t_NoWord, kit_own2 s_Nothing_Nothing s_Nothing_Nothing d_Nothing t_Nothing, trivial⟩, kit_val gv_Nothing (by decide +kernel)⟩ }
  exact ⟨PySem.W.fnOf "law" "law" (defArgs s_law_k12) (defBody s_law_k12) (defScope s_law_k12) .none kV38 dc38 pm38 an38 cd38 ct38, fun s v => .of_eq rfl, fun base _ _ => (ok_law_k12 T).imp fun vs H Q E h => top_imp pure_law_k12 vs H Q E h⟩
end LW.K12
open PySem PySem.W PyProof.Rows
set_option maxHeartbeats 0 in
theorem PySem.Challenge.cw_letterwheels_k12_whole_offices_holds : PySem.Challenge.rw_letterwheels_k12_whole_offices.Holds := by
  w_on; o_law; k_head; (case hw => w_witness2)
  k_fill
  refine L2.walk_of (l := PySem.Challenge.rw_letterwheels_k12_whole_offices) (n := 63) (k := 8) (x := "script") (CX := fun w => L2.CX PySem.Challenge.rw_letterwheels_k12_whole_offices.prog w) (sp := fun w => LW.spTop _) rfl (by decide) rfl ⟨rfl, by decide, by decide⟩ (fun w h Y => PySem.W.kIn_of Y) ?F (fun _ _ a ns hl hO hS => ⟨a, ns, rfl, hS, hO, hl, fun _ _ e => e⟩) (fun _ H s e s' h => LW.cx_no H s e s' h)
  case F =>
    intro w mg fa h KX G hmg
    refine' LW.K12.all_mk KX G hmg ?nC_Office ?pg_Office ?hd_Office ?po_Office ?sa_Office ?mk_Office ?kc_Office ?na_Office_all_stands ?na_Office_all_tapes ?na_Office_past ?na_Office_waits ?na_Office_wheels ?a0 ?l0 ?c0 ?k0 ?a1 ?l1 ?c1 ?k1 ?a2 ?l2 ?c2 ?k2 ?a3 ?l3 ?c3 ?k3 ?a4 ?l4 ?c4 ?k4 ?a5 ?l5 ?c5 ?k5 ?a6 ?l6 ?c6 ?k6 ?a7 ?l7 ?c7 ?k7 ?a8 ?l8 ?c8 ?k8 ?a9 ?i9 ?l9 ?c9 ?k9 ?a10 ?l10 ?c10 ?k10 ?a11 ?l11 ?c11 ?k11 ?a12 ?l12 ?c12 ?k12 ?a13 ?l13 ?c13 ?k13 ?a14 ?l14 ?c14 ?k14 ?a15 ?l15 ?c15 ?k15 ?a16 ?l16 ?c16 ?k16 ?a17 ?l17 ?c17 ?k17 ?a18 ?i18 ?l18 ?c18 ?k18 ?a19 ?l19 ?c19 ?k19 ?a20 ?i20 ?l20 ?c20 ?k20 ?a21 ?l21 ?c21 ?k21 ?a22 ?l22 ?c22 ?k22 ?a23 ?l23 ?c23 ?k23 ?a24 ?i24 ?l24 ?c24 ?k24 ?a25 ?l25 ?c25 ?k25 ?a26 ?l26 ?c26 ?k26 ?a27 ?l27 ?c27 ?k27 ?a28 ?l28 ?c28 ?k28 ?a29 ?l29 ?c29 ?k29 ?a30 ?l30 ?c30 ?k30 ?a31 ?i31 ?l31 ?c31 ?k31 ?a32 ?i32 ?l32 ?c32 ?k32 ?a33 ?i33 ?l33 ?c33 ?k33 ?a34 ?l34 ?c34 ?k34 ?a35 ?l35 ?c35 ?k35 ?a36 ?i36 ?l36 ?c36 ?k36 ?a37 ?l37 ?c37 ?k37 ?a38 ?l38 ?c38 ?k38 ?z_ValueError ?z_all ?z_bool ?z_dict ?z_enumerate ?z_int ?z_isinstance ?z_len ?z_list ?z_max ?z_range ?z_set ?z_str ?z_tuple ?z_zip ?n_LEAST ?n_LONG ?n_MOST ?n_PULSES ?n_SIGNS ?n_TURNS ?o_WORDS ?n_WORDS ?n_NoPrinter ?q_NoPrinter ?p_NoPrinter ?e_NoPrinter ?t_NoPrinter ?n_NoRow ?q_NoRow ?p_NoRow ?e_NoRow ?t_NoRow ?n_NoStand ?q_NoStand ?p_NoStand ?e_NoStand ?t_NoStand ?n_NoWheels ?q_NoWheels ?p_NoWheels ?e_NoWheels ?t_NoWheels ?n_NoWord ?q_NoWord ?p_NoWord ?e_NoWord ?t_NoWord ?n_Nothing ?q_Nothing ?p_Nothing ?e_Nothing ?t_Nothing ?n_WheelError ?t_WheelError ?n_NoSlips ?t_NoSlips ?n_NoText ?t_NoText ?n_NoPlace ?t_NoPlace ?d_WheelError ?d_NoWheels ?d_NoStand ?d_NoRow ?d_NoSlips ?d_NoText ?d_NoPlace ?d_NoPrinter ?d_NoWord ?d_Nothing ?e_WheelError ?hn_ ?ht_ ?ga_NoPrinter ?gb_NoPrinter ?gc_NoPrinter ?gm_NoPrinter ?gv_NoPrinter ?gw_NoPrinter ?s_NoPrinter_NoWheels ?s_NoPrinter_NoStand ?s_NoPrinter_NoRow ?s_NoPrinter_NoSlips ?s_NoPrinter_NoText ?s_NoPrinter_NoPlace ?s_NoPrinter_NoPrinter ?s_NoPrinter_NoWord ?s_NoPrinter_Nothing ?ga_NoRow ?gb_NoRow ?gc_NoRow ?gm_NoRow ?gv_NoRow ?gw_NoRow ?s_NoRow_NoWheels ?s_NoRow_NoStand ?s_NoRow_NoRow ?s_NoRow_NoSlips ?s_NoRow_NoText ?s_NoRow_NoPlace ?s_NoRow_NoPrinter ?s_NoRow_NoWord ?s_NoRow_Nothing ?ga_NoStand ?gb_NoStand ?gc_NoStand ?gm_NoStand ?gv_NoStand ?gw_NoStand ?s_NoStand_NoWheels ?s_NoStand_NoStand ?s_NoStand_NoRow ?s_NoStand_NoSlips ?s_NoStand_NoText ?s_NoStand_NoPlace ?s_NoStand_NoPrinter ?s_NoStand_NoWord ?s_NoStand_Nothing ?ga_NoWheels ?gb_NoWheels ?gc_NoWheels ?gm_NoWheels ?gv_NoWheels ?gw_NoWheels ?s_NoWheels_NoWheels ?s_NoWheels_NoStand ?s_NoWheels_NoRow ?s_NoWheels_NoSlips ?s_NoWheels_NoText ?s_NoWheels_NoPlace ?s_NoWheels_NoPrinter ?s_NoWheels_NoWord ?s_NoWheels_Nothing ?ga_NoWord ?gb_NoWord ?gc_NoWord ?gm_NoWord ?gv_NoWord ?gw_NoWord ?s_NoWord_NoWheels ?s_NoWord_NoStand ?s_NoWord_NoRow ?s_NoWord_NoSlips ?s_NoWord_NoText ?s_NoWord_NoPlace ?s_NoWord_NoPrinter ?s_NoWord_NoWord ?s_NoWord_Nothing ?ga_Nothing ?gb_Nothing ?gc_Nothing ?gm_Nothing ?gv_Nothing ?gw_Nothing ?s_Nothing_NoWheels ?s_Nothing_NoStand ?s_Nothing_NoRow ?s_Nothing_NoSlips ?s_Nothing_NoText ?s_Nothing_NoPlace ?s_Nothing_NoPrinter ?s_Nothing_NoWord ?s_Nothing_Nothing
    (case nC_Office => k_is)
    (case pg_Office => k_is)
    (case hd_Office => k_is)
    (case po_Office => k_is)
    (case sa_Office => k_is)
    (case mk_Office => k_is)
    (case kc_Office => k_is)
    (case na_Office_all_stands => k_is)
    (case na_Office_all_tapes => k_is)
    (case na_Office_past => k_is)
    (case na_Office_waits => k_is)
    (case na_Office_wheels => k_is)
    (case a0 => k_is)
    (case l0 => k_is)
    (case c0 => k_is)
    (case k0 => k_is)
    (case a1 => k_is)
    (case l1 => k_is)
    (case c1 => k_is)
    (case k1 => k_is)
    (case a2 => k_is)
    (case l2 => k_is)
    (case c2 => k_is)
    (case k2 => k_is)
    (case a3 => k_is)
    (case l3 => k_is)
    (case c3 => k_is)
    (case k3 => k_is)
    (case a4 => k_is)
    (case l4 => k_is)
    (case c4 => k_is)
    (case k4 => k_is)
    (case a5 => k_is)
    (case l5 => k_is)
    (case c5 => k_is)
    (case k5 => k_is)
    (case a6 => k_is)
    (case l6 => k_is)
    (case c6 => k_is)
    (case k6 => k_is)
    (case a7 => k_is)
    (case l7 => k_is)
    (case c7 => k_is)
    (case k7 => k_is)
    (case a8 => k_is)
    (case l8 => k_is)
    (case c8 => k_is)
    (case k8 => k_is)
    (case a9 => k_is)
    (case i9 => k_is)
    (case l9 => k_is)
    (case c9 => k_is)
    (case k9 => k_is)
    (case a10 => k_is)
    (case l10 => k_is)
    (case c10 => k_is)
    (case k10 => k_is)
    (case a11 => k_is)
    (case l11 => k_is)
    (case c11 => k_is)
    (case k11 => k_is)
    (case a12 => k_is)
    (case l12 => k_is)
    (case c12 => k_is)
    (case k12 => k_is)
    (case a13 => k_is)
    (case l13 => k_is)
    (case c13 => k_is)
    (case k13 => k_is)
    (case a14 => k_is)
    (case l14 => k_is)
    (case c14 => k_is)
    (case k14 => k_is)
    (case a15 => k_is)
    (case l15 => k_is)
    (case c15 => k_is)
    (case k15 => k_is)
    (case a16 => k_is)
    (case l16 => k_is)
    (case c16 => k_is)
    (case k16 => k_is)
    (case a17 => k_is)
    (case l17 => k_is)
    (case c17 => k_is)
    (case k17 => k_is)
    (case a18 => k_is)
    (case i18 => k_is)
    (case l18 => k_is)
    (case c18 => k_is)
    (case k18 => k_is)
    (case a19 => k_is)
    (case l19 => k_is)
    (case c19 => k_is)
    (case k19 => k_is)
    (case a20 => k_is)
    (case i20 => k_is)
    (case l20 => k_is)
    (case c20 => k_is)
    (case k20 => k_is)
    (case a21 => k_is)
    (case l21 => k_is)
    (case c21 => k_is)
    (case k21 => k_is)
    (case a22 => k_is)
    (case l22 => k_is)
    (case c22 => k_is)
    (case k22 => k_is)
    (case a23 => k_is)
    (case l23 => k_is)
    (case c23 => k_is)
    (case k23 => k_is)
    (case a24 => k_is)
    (case i24 => k_is)
    (case l24 => k_is)
    (case c24 => k_is)
    (case k24 => k_is)
    (case a25 => k_is)
    (case l25 => k_is)
    (case c25 => k_is)
    (case k25 => k_is)
    (case a26 => k_is)
    (case l26 => k_is)
    (case c26 => k_is)
    (case k26 => k_is)
    (case a27 => k_is)
    (case l27 => k_is)
    (case c27 => k_is)
    (case k27 => k_is)
    (case a28 => k_is)
    (case l28 => k_is)
    (case c28 => k_is)
    (case k28 => k_is)
    (case a29 => k_is)
    (case l29 => k_is)
    (case c29 => k_is)
    (case k29 => k_is)
    (case a30 => k_is)
    (case l30 => k_is)
    (case c30 => k_is)
    (case k30 => k_is)
    (case a31 => k_is)
    (case i31 => k_is)
    (case l31 => k_is)
    (case c31 => k_is)
    (case k31 => k_is)
    (case a32 => k_is)
    (case i32 => k_is)
    (case l32 => k_is)
    (case c32 => k_is)
    (case k32 => k_is)
    (case a33 => k_is)
    (case i33 => k_is)
    (case l33 => k_is)
    (case c33 => k_is)
    (case k33 => k_is)
    (case a34 => k_is)
    (case l34 => k_is)
    (case c34 => k_is)
    (case k34 => k_is)
    (case a35 => k_is)
    (case l35 => k_is)
    (case c35 => k_is)
    (case k35 => k_is)
    (case a36 => k_is)
    (case i36 => k_is)
    (case l36 => k_is)
    (case c36 => k_is)
    (case k36 => k_is)
    (case a37 => k_is)
    (case l37 => k_is)
    (case c37 => k_is)
    (case k37 => k_is)
    (case a38 => k_is)
    (case l38 => k_is)
    (case c38 => k_is)
    (case k38 => k_is)
    (case z_ValueError => k_is)
    (case z_all => k_is)
    (case z_bool => k_is)
    (case z_dict => k_is)
    (case z_enumerate => k_is)
    (case z_int => k_is)
    (case z_isinstance => k_is)
    (case z_len => k_is)
    (case z_list => k_is)
    (case z_max => k_is)
    (case z_range => k_is)
    (case z_set => k_is)
    (case z_str => k_is)
    (case z_tuple => k_is)
    (case z_zip => k_is)
    (case n_LEAST => k_is)
    (case n_LONG => k_is)
    (case n_MOST => k_is)
    (case n_PULSES => k_is)
    (case n_SIGNS => k_is)
    (case n_TURNS => k_is)
    (case o_WORDS => k_is)
    (case n_WORDS => k_is)
    (case n_NoPrinter => k_is)
    (case q_NoPrinter => k_exc)
    (case p_NoPrinter => k_is)
    (case e_NoPrinter => k_is)
    (case t_NoPrinter => k_is)
    (case n_NoRow => k_is)
    (case q_NoRow => k_exc)
    (case p_NoRow => k_is)
    (case e_NoRow => k_is)
    (case t_NoRow => k_is)
    (case n_NoStand => k_is)
    (case q_NoStand => k_exc)
    (case p_NoStand => k_is)
    (case e_NoStand => k_is)
    (case t_NoStand => k_is)
    (case n_NoWheels => k_is)
    (case q_NoWheels => k_exc)
    (case p_NoWheels => k_is)
    (case e_NoWheels => k_is)
    (case t_NoWheels => k_is)
    (case n_NoWord => k_is)
    (case q_NoWord => k_exc)
    (case p_NoWord => k_is)
    (case e_NoWord => k_is)
    (case t_NoWord => k_is)
    (case n_Nothing => k_is)
    (case q_Nothing => k_exc)
    (case p_Nothing => k_is)
    (case e_Nothing => k_is)
    (case t_Nothing => k_is)
    (case n_WheelError => k_is)
    (case t_WheelError => k_is)
    (case n_NoSlips => k_is)
    (case t_NoSlips => k_is)
    (case n_NoText => k_is)
    (case t_NoText => k_is)
    (case n_NoPlace => k_is)
    (case t_NoPlace => k_is)
    (case d_WheelError => k_is)
    (case d_NoWheels => k_is)
    (case d_NoStand => k_is)
    (case d_NoRow => k_is)
    (case d_NoSlips => k_is)
    (case d_NoText => k_is)
    (case d_NoPlace => k_is)
    (case d_NoPrinter => k_is)
    (case d_NoWord => k_is)
    (case d_Nothing => k_is)
    (case e_WheelError => k_is)
    (case hn_ => k_is)
    (case ht_ => k_is)
    (case ga_NoPrinter => k_is)
    (case gb_NoPrinter => k_is)
    (case gc_NoPrinter => k_is)
    (case gm_NoPrinter => k_is)
    (case gv_NoPrinter => k_is)
    (case gw_NoPrinter => k_is)
    (case s_NoPrinter_NoWheels => k_is)
    (case s_NoPrinter_NoStand => k_is)
    (case s_NoPrinter_NoRow => k_is)
    (case s_NoPrinter_NoSlips => k_is)
    (case s_NoPrinter_NoText => k_is)
    (case s_NoPrinter_NoPlace => k_is)
    (case s_NoPrinter_NoPrinter => k_is)
    (case s_NoPrinter_NoWord => k_is)
    (case s_NoPrinter_Nothing => k_is)
    (case ga_NoRow => k_is)
    (case gb_NoRow => k_is)
    (case gc_NoRow => k_is)
    (case gm_NoRow => k_is)
    (case gv_NoRow => k_is)
    (case gw_NoRow => k_is)
    (case s_NoRow_NoWheels => k_is)
    (case s_NoRow_NoStand => k_is)
    (case s_NoRow_NoRow => k_is)
    (case s_NoRow_NoSlips => k_is)
    (case s_NoRow_NoText => k_is)
    (case s_NoRow_NoPlace => k_is)
    (case s_NoRow_NoPrinter => k_is)
    (case s_NoRow_NoWord => k_is)
    (case s_NoRow_Nothing => k_is)
    (case ga_NoStand => k_is)
    (case gb_NoStand => k_is)
    (case gc_NoStand => k_is)
    (case gm_NoStand => k_is)
    (case gv_NoStand => k_is)
    (case gw_NoStand => k_is)
    (case s_NoStand_NoWheels => k_is)
    (case s_NoStand_NoStand => k_is)
    (case s_NoStand_NoRow => k_is)
    (case s_NoStand_NoSlips => k_is)
    (case s_NoStand_NoText => k_is)
    (case s_NoStand_NoPlace => k_is)
    (case s_NoStand_NoPrinter => k_is)
    (case s_NoStand_NoWord => k_is)
    (case s_NoStand_Nothing => k_is)
    (case ga_NoWheels => k_is)
    (case gb_NoWheels => k_is)
    (case gc_NoWheels => k_is)
    (case gm_NoWheels => k_is)
    (case gv_NoWheels => k_is)
    (case gw_NoWheels => k_is)
    (case s_NoWheels_NoWheels => k_is)
    (case s_NoWheels_NoStand => k_is)
    (case s_NoWheels_NoRow => k_is)
    (case s_NoWheels_NoSlips => k_is)
    (case s_NoWheels_NoText => k_is)
    (case s_NoWheels_NoPlace => k_is)
    (case s_NoWheels_NoPrinter => k_is)
    (case s_NoWheels_NoWord => k_is)
    (case s_NoWheels_Nothing => k_is)
    (case ga_NoWord => k_is)
    (case gb_NoWord => k_is)
    (case gc_NoWord => k_is)
    (case gm_NoWord => k_is)
    (case gv_NoWord => k_is)
    (case gw_NoWord => k_is)
    (case s_NoWord_NoWheels => k_is)
    (case s_NoWord_NoStand => k_is)
    (case s_NoWord_NoRow => k_is)
    (case s_NoWord_NoSlips => k_is)
    (case s_NoWord_NoText => k_is)
    (case s_NoWord_NoPlace => k_is)
    (case s_NoWord_NoPrinter => k_is)
    (case s_NoWord_NoWord => k_is)
    (case s_NoWord_Nothing => k_is)
    (case ga_Nothing => k_is)
    (case gb_Nothing => k_is)
    (case gc_Nothing => k_is)
    (case gm_Nothing => k_is)
    (case gv_Nothing => k_is)
    (case gw_Nothing => k_is)
    (case s_Nothing_NoWheels => k_is)
    (case s_Nothing_NoStand => k_is)
    (case s_Nothing_NoRow => k_is)
    (case s_Nothing_NoSlips => k_is)
    (case s_Nothing_NoText => k_is)
    (case s_Nothing_NoPlace => k_is)
    (case s_Nothing_NoPrinter => k_is)
    (case s_Nothing_NoWord => k_is)
    (case s_Nothing_Nothing => k_is)
