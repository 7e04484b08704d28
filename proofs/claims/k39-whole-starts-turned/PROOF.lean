import PyProof.Rows.All
import HandS.ForMost
import HandS.ForExc
import KE.KeyNested
import HandS.TupAny
import HandS.IsInst
import HandS.Conv
import HandS.Set
import HandS.SetTxt0
import HandS.Strs
import KE.GoesEnum
import KE.GoesMore
import HandS.Zip
import HandS.NoneIn
import KE.KDictPairs
import HandS.HotCalls
import HandS.ExcIs
import HandS.SetFor
import KE.KDictDisplayH
import PyProof.Rows.TupTab
import HandS.Style
import KE.KDictWalk
import KE.DataMinMax
import HandS.Replace
import PySem.Challenge.RW_letterwheels_k39_whole_starts_turned
set_option Elab.async false
set_option linter.all false
set_option maxRecDepth 100000
set_option maxHeartbeats 4000000
set_option autoImplicit false
/-! LwD: plain data, a memory of things that change, a monad with refusals; the readings of Python's constructs over them. Core Lean alone. -/
namespace LW

/-- a value as plain data: tuples, lists and dicts that nobody changes stand by their contents, things that change by their number -/
inductive D where
  | non | bl (b : Bool) | int (i : Int) | str (s : List Nat) | tup (ds : List D) | lst (ds : List D) | dct (ks vs : List D)
  | gdz (ks vs : List D) | tpx (ds : List D) | scr (ns : List Int) | ref (n : Nat) | ty (n : String) | fn (x : String) | exc (c : String)
deriving Inhabited

/-- a thing that changes -/
inductive MO where
  | lst (ds : List D) | dct (ks vs : List D) | ins (c : String) (fs : List (String × D)) | gd (ks vs : List D) | gone
deriving Inhabited

abbrev Mem := List MO
abbrev Env := List (Option D)

inductive R (α : Type) where
  | ok (a : α) (m : Mem) | exc (c : String) (m : Mem) | bad

def R.bind {α β : Type} (r : R α) (f : α → Mem → R β) : R β :=
  match r with
  | .ok a m => f a m
  | .exc c m => .exc c m
  | .bad => .bad

@[simp] theorem R.bind_ok {α β : Type} (a : α) (m : Mem) (f : α → Mem → R β) : (R.ok a m).bind f = f a m := rfl
@[simp] theorem R.bind_exc {α β : Type} (c : String) (m : Mem) (f : α → Mem → R β) : (R.exc c m : R α).bind f = .exc c m := rfl
@[simp] theorem R.bind_bad {α β : Type} (f : α → Mem → R β) : (R.bad : R α).bind f = .bad := rfl

/-- what came of a statement -/
inductive Out where
  | nx (e : Env) | rt (d : D) | bk (e : Env) | ct (e : Env)

abbrev Ex := Env → Mem → R D
abbrev Ts := Env → Mem → R Bool
abbrev Ar := Env → Mem → R (List D)
abbrev Sm := Env → Mem → R Out
abbrev Tg := D → Env → Mem → R Env
/-- a def: its arguments, the memory -/
abbrev Fn := List D → Mem → R D

def lim : Nat := 16777216

/-- from an option -/
def opt {α : Type} (o : Option α) (m : Mem) : R α := match o with | some a => .ok a m | none => .bad
@[simp] theorem opt_some {α : Type} (a : α) (m : Mem) : opt (some a) m = .ok a m := rfl
@[simp] theorem opt_none {α : Type} (m : Mem) : opt (none : Option α) m = .bad := rfl

/-! ### expressions -/
@[simp] def cE (d : D) : Ex := fun _ m => .ok d m
@[simp] def vE (i : Nat) : Ex := fun g m => match g[i]? with | some (some d) => .ok d m | _ => .bad
/-- a two-place operation on data -/
abbrev Op := Mem → D → D → Option D
@[simp] def opE (f : Op) (a b : Ex) : Ex := fun g m => (a g m).bind fun x m1 => (b g m1).bind fun y m2 => opt (f m2 x y) m2
abbrev Un := Mem → D → Option D
@[simp] def unE (f : Un) (a : Ex) : Ex := fun g m => (a g m).bind fun x m1 => opt (f m1 x) m1
/-- a two-place operation, then a third value: a op b op' c -/
@[simp] def chE (f f' : Op) (a b c : Ex) : Ex := fun g m => (a g m).bind fun x m1 => (b g m1).bind fun y m2 => match f m2 x y with
  | some (.bl true) => (c g m2).bind fun z m3 => opt (f' m3 y z) m3
  | some (.bl false) => .ok (.bl false) m2
  | _ => .bad
/-- a value that is True or False -/
@[simp] def asB (d : D) (m : Mem) : R Bool := match d with | .bl b => .ok b m | _ => .bad
@[simp] def tE (a : Ex) : Ts := fun g m => (a g m).bind asB
@[simp] def eT (t : Ts) : Ex := fun g m => (t g m).bind fun b m1 => .ok (.bl b) m1
@[simp] def andE (a b : Ex) : Ex := fun g m => (a g m).bind fun x m1 => match x with
  | .bl true => b g m1 | .bl false => .ok (.bl false) m1 | _ => .bad
@[simp] def orE (a b : Ex) : Ex := fun g m => (a g m).bind fun x m1 => match x with
  | .bl false => b g m1 | .bl true => .ok (.bl true) m1 | _ => .bad
@[simp] def notE (a : Ex) : Ex := fun g m => (a g m).bind fun x m1 => match x with
  | .bl b => .ok (.bl (!b)) m1 | _ => .bad
@[simp] def andT (a b : Ts) : Ts := fun g m => (a g m).bind fun x m1 => if x then b g m1 else .ok false m1
@[simp] def orT (a b : Ts) : Ts := fun g m => (a g m).bind fun x m1 => if x then .ok true m1 else b g m1
@[simp] def notT (a : Ts) : Ts := fun g m => (a g m).bind fun x m1 => .ok (!x) m1
@[simp] def ifE (t : Ts) (a b : Ex) : Ex := fun g m => (t g m).bind fun x m1 => if x then a g m1 else b g m1
/-- argument lists -/
@[simp] def nilA : Ar := fun _ m => .ok [] m
@[simp] def consA (a : Ex) (r : Ar) : Ar := fun g m => (a g m).bind fun x m1 => (r g m1).bind fun xs m2 => .ok (x :: xs) m2
@[simp] def tupE (a : Ar) : Ex := fun g m => (a g m).bind fun xs m1 => if xs.length ≤ lim then .ok (.tup xs) m1 else .bad
@[simp] def lstE (a : Ar) : Ex := fun g m => (a g m).bind fun xs m1 => if xs.length ≤ lim then .ok (.lst xs) m1 else .bad
/-- a call of a function on data that changes nothing -/
abbrev Bf := Mem → List D → Option D
@[simp] def bE (f : Bf) (a : Ar) : Ex := fun g m => (a g m).bind fun xs m1 => opt (f m1 xs) m1
/-- a call of a def -/
@[simp] def callE (f : Fn) (a : Ar) : Ex := fun g m => (a g m).bind fun xs m1 => f xs m1

/-! ### statements -/
@[simp] def nxS : Sm := fun g m => .ok (.nx g) m
@[simp] def badS : Sm := fun _ _ => .bad
def seqS (a b : Sm) : Sm := fun g m => (a g m).bind fun o m1 => match o with | .nx g1 => b g1 m1 | o => .ok o m1
@[simp] def retS (a : Ex) : Sm := fun g m => (a g m).bind fun x m1 => .ok (.rt x) m1
@[simp] def retN : Sm := fun _ m => .ok (.rt .non) m
@[simp] def bkS : Sm := fun g m => .ok (.bk g) m
@[simp] def ctS : Sm := fun g m => .ok (.ct g) m
@[simp] def ifS (t : Ts) (a b : Sm) : Sm := fun g m => (t g m).bind fun x m1 => if x then a g m1 else b g m1
@[simp] def exS (a : Ex) : Sm := fun g m => (a g m).bind fun _ m1 => .ok (.nx g) m1
@[simp] def raiseS (c : String) : Sm := fun _ m => .exc c m
@[simp] def nmG (i : Nat) : Tg := fun d g m => .ok (g.set i (some d)) m
/-- several targets in a row -/
abbrev Gs := List D → Env → Mem → R Env
@[simp] def nilG : Gs := fun ds g m => match ds with | [] => .ok g m | _ => .bad
@[simp] def consG (t : Tg) (r : Gs) : Gs := fun ds g m => match ds with | d :: ds => (t d g m).bind fun g1 m1 => r ds g1 m1 | [] => .bad
@[simp] def tupG (t : Gs) : Tg := fun d g m => match d with | .tup ds => t ds g m | _ => .bad
@[simp] def asgS (t : Tg) (a : Ex) : Sm := fun g m => (a g m).bind fun x m1 => (t x g m1).bind fun g1 m2 => .ok (.nx g1) m2
/-- a, b = x, y: no tuple is looked at -/
@[simp] def parS (i j : Nat) (a b : Ex) : Sm := fun g m => (a g m).bind fun x m1 => (b g m1).bind fun y m2 => .ok (.nx ((g.set i (some x)).set j (some y))) m2

@[simp] theorem seqS_eq (a b : Sm) (g : Env) (m : Mem) : seqS a b g m = (a g m).bind fun o m1 => match o with | .nx g1 => b g1 m1 | o => .ok o m1 := rfl

def forL (t : Tg) (b : Sm) : List D → Env → Mem → R Out
  | [], g, m => .ok (.nx g) m
  | d :: ds, g, m => (t d g m).bind fun g1 m1 => (b g1 m1).bind fun o m2 => match o with
    | .nx g2 => forL t b ds g2 m2
    | .ct g2 => forL t b ds g2 m2
    | .bk g2 => .ok (.nx g2) m2
    | .rt d => .ok (.rt d) m2
@[simp] def forS (it : Ar) (t : Tg) (b : Sm) : Sm := fun g m => (it g m).bind fun ds m1 => forL t b ds g m1
def whileL (c : Ts) (b : Sm) : Nat → Env → Mem → R Out
  | 0, _, _ => .bad
  | n + 1, g, m => (c g m).bind fun x m1 => if x then (b g m1).bind fun o m2 => match o with
      | .nx g2 => whileL c b n g2 m2
      | .ct g2 => whileL c b n g2 m2
      | .bk g2 => .ok (.nx g2) m2
      | .rt d => .ok (.rt d) m2
    else .ok (.nx g) m1
@[simp] def whileS (n : Nat) (c : Ts) (b : Sm) : Sm := fun g m => whileL c b n g m

/-- the slots of a comprehension's own names forgotten -/
def wipeD (g : Env) : List Nat → Env
  | [] => g
  | v :: vs => (wipeD g vs).set v none
@[simp] theorem wipeD_nil (g : Env) : wipeD g [] = g := rfl
@[simp] theorem wipeD_cons (g : Env) (v : Nat) (vs : List Nat) : wipeD g (v :: vs) = (wipeD g vs).set v none := rfl
/-- the turns of a comprehension -/
def lcL (t : Tg) (c : Ts) (e : Ex) (g : Env) : List D → Mem → R (List D)
  | [], m => .ok [] m
  | d :: ds, m => (t d g m).bind fun g1 m1 => (c g1 m1).bind fun x m2 => if x then (e g1 m2).bind fun y m3 => (lcL t c e g ds m3).bind fun ys m4 => .ok (y :: ys) m4 else lcL t c e g ds m2
@[simp] def yesT : Ts := fun _ m => .ok true m
@[simp] def lcE (it : Ar) (own : List Nat) (t : Tg) (c : Ts) (e : Ex) : Ex := fun g m => (it g m).bind fun ds m1 => if ds.length ≤ lim then (lcL t c e (wipeD g own) ds m1).bind fun ys m2 => .ok (.lst ys) m2 else .bad

/-- within a comprehension nothing may be raised -/
@[simp] def noX (e : Ex) : Ex := fun g m => match e g m with | .exc _ _ => .bad | r => r
@[simp] def noXT (e : Ts) : Ts := fun g m => match e g m with | .exc _ _ => .bad | r => r

/-! ### defs -/
mutual
/-- no number from n on is named in it -/
def D.cl (n : Nat) : D → Bool
  | .tup ds => D.clL n ds
  | .tpx ds => D.clL n ds
  | .lst ds => D.clL n ds
  | .dct ks vs => D.clL n ks && D.clL n vs
  | .gdz ks vs => D.clL n ks && D.clL n vs
  | .ref k => decide (k < n)
  | _ => true
def D.clL (n : Nat) : List D → Bool
  | [] => true
  | d :: ds => D.cl n d && D.clL n ds
end
def MO.cl (n : Nat) : MO → Bool
  | .lst ds => D.clL n ds
  | .dct ks vs => D.clL n ks && D.clL n vs
  | .ins _ fs => D.clL n (fs.map (·.2))
  | .gd ks vs => D.clL n ks && D.clL n vs
  | .gone => true
/-- what a def made and nobody else names goes -/
def gcR (n : Nat) (d : D) (m : Mem) : R D :=
  if m.length ≤ n then .ok d m else if d.cl n && (m.take n).all (MO.cl n) then .ok d (m.take n) else .bad
def gcX (n : Nat) (c : String) (m : Mem) : R D :=
  if m.length ≤ n then .exc c m else if (m.take n).all (MO.cl n) then .exc c (m.take n) else .bad
/-- a def by its body: k names, the parameters first -/
def fnS (k : Nat) (b : Sm) : Fn := fun xs m => match b (xs.map some ++ List.replicate (k - xs.length) none) m with
  | .ok (.nx _) m1 => gcR m.length .non m1
  | .ok (.rt d) m1 => gcR m.length d m1
  | .ok _ _ => .bad
  | .exc c m1 => gcX m.length c m1
  | .bad => .bad
end LW
/-! LwR: plain data over the layer HandS: how data lie in the heap, the judgements over data. -/
namespace LW
open PySem PySem.Spec PyProof.Rows L2
abbrev St := L2.St

/-- what stands fixed through a def: the written part, where defs stand, classes' values, the caught exception -/
structure Cn where
  K : PySem.W.Frag
  fns : String → Option Addr
  cls : String → Value
  exa : Option (Addr × String)
  w : World

/-- where the things that change lie, and whether they live -/
structure Rho where
  l : List (Addr × Bool)
  /-- lists that a comprehension is making -/
  z : List Addr
def adr (ρ : Rho) (n : Nat) (a : Addr) : Prop := ∃ b, ρ.l[n]? = some (a, b)
def lives (ρ : Rho) (a : Addr) : Prop := (a, true) ∈ ρ.l ∨ a ∈ ρ.z

/-- kinds of things that stand by their contents -/
def Plain : HO → Prop
  | .lst _ => True | .tup _ => True | .ext _ => True | .own _ => True | .frz _ (.lst _) => True | .frz _ (.tup _) => True
  | _ => False
def PlainD : HO → Prop
  | .dK _ => True | .dT _ => True
  | _ => False

structure Ext (ρ : Rho) (H : Hp) (ρ' : Rho) (H' : Hp) : Prop where
  pre : ∀ n a, adr ρ n a → adr ρ' n a
  keep : ∀ a u, Plain u → ¬ lives ρ a → H a = some u → ¬ lives ρ' a ∧ H' a = some u
  keepD : ∀ a u, PlainD u → ¬ lives ρ a → Rd H a u → ¬ lives ρ' a ∧ Rd H' a u
  lx : ∀ a o, a ∈ ρ.z → H a = some o → a ∈ ρ'.z ∧ H' a = some o
  there : ∀ a, H a ≠ none → H' a ≠ none

theorem Ext.refl (ρ : Rho) (H : Hp) : Ext ρ H ρ H := ⟨fun _ _ h => h, fun _ _ _ n h => ⟨n, h⟩, fun _ _ _ n h => ⟨n, h⟩, fun _ _ z h => ⟨z, h⟩, fun _ h => h⟩
theorem Ext.trans {ρ ρ1 ρ2 : Rho} {H H1 H2 : Hp} (a : Ext ρ H ρ1 H1) (b : Ext ρ1 H1 ρ2 H2) : Ext ρ H ρ2 H2 :=
  ⟨fun n x h => b.pre n x (a.pre n x h), fun x u p n h => let ⟨n1, h1⟩ := a.keep x u p n h; b.keep x u p n1 h1, fun x u p n h => let ⟨n1, h1⟩ := a.keepD x u p n h; b.keepD x u p n1 h1, fun x o z h => let ⟨z1, h1⟩ := a.lx x o z h; b.lx x o z1 h1, fun x h => b.there x (a.there x h)⟩
theorem Rd.same {H H' : Hp} (s : Same H H') {a : Addr} {u : HO} (h : Rd H a u) : Rd H' a u := by
  rcases h with h | ⟨o, h⟩
  · exact .inl (s _ _ h)
  · exact .inr ⟨o, s _ _ h⟩
theorem Ext.of_same {ρ : Rho} {H H' : Hp} (s : Same H H') : Ext ρ H ρ H' :=
  ⟨fun _ _ h => h, fun _ _ _ n h => ⟨n, s _ _ h⟩, fun _ _ _ n h => ⟨n, Rd.same s h⟩, fun _ _ z h => ⟨z, s _ _ h⟩, fun a h => by
    cases q : H a with
    | none => exact absurd q h
    | some o => rw [s a o q]; exact fun z => nomatch z⟩
theorem same_upd {H : Hp} {p : Addr} {o : HO} (h : H p = none) : Same H (upd H p o) := fun b x e => by
  rw [upd_ne (ne_of_none e h)]
  exact e

def keyD : Key → D
  | .inl i => .int i
  | .inr x => .str x.cps.toList
def tkeyD (k : List Key) : D := .tup (k.map keyD)

mutual
/-- data as a key -/
def nkOf : D → Option NestedKey
  | .int i => some (.num i)
  | .str s => some (.text ⟨s.toArray⟩)
  | .tup ds => (nkOfL ds).map NestedKey.tup
  | _ => none
def nkOfL : List D → Option (List NestedKey)
  | [] => some []
  | d :: ds => (nkOf d).bind fun k => (nkOfL ds).map fun ks => k :: ks
end
/-- a dict whose keys are tuples, at a -/
def GDo (w : World) (a : Addr) (xs : List (NestedKey × Addr × Value)) : HO := .ext fun h => ∃ o es ep, h.get? a = some o ∧ o.ExactDict ∧ o.data = .dict es ep ∧ es.toList = xs.map (fun x => (⟨x.1.hash w, .ref x.2.1, x.2.2⟩ : DictEntry)) ∧ (xs.map (·.1)).Nodup ∧ xs.length ≤ sizeLine ∧ (a == sysModules) = false
def KeysAt (ks : List D) (xs : List (NestedKey × Addr × Value)) : Prop := ks.map nkOf = xs.map (fun x => some x.1) ∧ ∀ x ∈ xs, x.1.depth ≤ 8
/-- .. that nobody changes any more: the very object -/
def GDz (w : World) (a : Addr) (o : Obj) (xs : List (NestedKey × Addr × Value)) : HO := .ext fun h => h.get? a = some o ∧ o.ExactDict ∧ (∃ es ep, o.data = .dict es ep ∧ es.toList = xs.map (fun x => (⟨x.1.hash w, .ref x.2.1, x.2.2⟩ : DictEntry))) ∧ (xs.map (·.1)).Nodup ∧ xs.length ≤ sizeLine ∧ (a == sysModules) = false

mutual
def RepV (C : Cn) (ρ : Rho) (H : Hp) : D → V → Prop
  | .non, v => v = .non
  | .bl b, v => v = .bl b
  | .int i, v => v = .int i
  | .str s, v => v = .str ⟨s.toArray⟩ ∧ s.length ≤ lim ∧ ∀ c ∈ s, c < 1114112
  | .tup ds, v => ∃ a xs, v = .ref a ∧ ((¬ lives ρ a ∧ Rd H a (.tup xs)) ∨ SqT C.K (fun _ => none) a xs) ∧ RepL C ρ H ds xs
  | .tpx ds, v => ∃ a xs o, v = .ref a ∧ ¬ lives ρ a ∧ H a = some (.frz o (.tup xs)) ∧ o.dict = none ∧ RepL C ρ H ds xs
  | .lst ds, v => ∃ a xs, v = .ref a ∧ ¬ lives ρ a ∧ H a = some (.lst xs) ∧ RepL C ρ H ds xs
  | .scr ns, v => ∃ a, v = .ref a ∧ ((¬ lives ρ a ∧ ∃ o, H a = some (.frz o (.lst (ns.map V.int)))) ∨ SqL C.K (fun _ => none) a (ns.map V.int))
  | .dct ks vs, v => ∃ a xs, v = .ref a ∧ ¬ lives ρ a ∧ RepL C ρ H vs xs ∧
      ∃ kk : List Key, kk.length = xs.length ∧ ks = kk.map keyD ∧ Rd H a (.dK (kk.zip xs))
  | .gdz ks vs, v => ∃ a o zs vv, v = .ref a ∧ ¬ lives ρ a ∧ H a = some (GDz C.w a o zs) ∧ KeysAt ks zs ∧ Vals vv (zs.map (·.2.2)) ∧ RepL C ρ H ks (zs.map fun x => V.ref x.2.1) ∧ RepL C ρ H vs vv
  | .ref n, v => ∃ a, v = .ref a ∧ adr ρ n a
  | .ty n, v => v = .ty n
  | .fn x, v => ∃ f, v = .ref f ∧ C.fns x = some f
  | .exc c, v => ∃ a, v = .ref a ∧ C.exa = some (a, c)
def RepL (C : Cn) (ρ : Rho) (H : Hp) : List D → List V → Prop
  | [], vs => vs = []
  | d :: ds, vs => ∃ v r, vs = v :: r ∧ RepV C ρ H d v ∧ RepL C ρ H ds r
end

mutual
theorem RepV.ext {C : Cn} {ρ ρ' : Rho} {H H' : Hp} (x : Ext ρ H ρ' H') : ∀ {d : D} {v : V}, RepV C ρ H d v → RepV C ρ' H' d v
  | .non, _, h => h
  | .bl _, _, h => h
  | .int _, _, h => h
  | .str _, _, h => h
  | .tup ds, v, h => by
    simp only [RepV] at h ⊢
    obtain ⟨a, xs, e, h1, h2⟩ := h
    refine ⟨a, xs, e, ?_, RepL.ext x h2⟩
    rcases h1 with ⟨n, r⟩ | k
    · rcases r with r | ⟨o, r⟩
      · exact .inl ⟨(x.keep a (.tup xs) trivial n r).1, .inl (x.keep a (.tup xs) trivial n r).2⟩
      · exact .inl ⟨(x.keep a (.frz o (.tup xs)) trivial n r).1, .inr ⟨o, (x.keep a (.frz o (.tup xs)) trivial n r).2⟩⟩
    · exact .inr k
  | .tpx ds, v, h => by
    simp only [RepV] at h ⊢
    obtain ⟨a, xs, o, e, n, q, hd, h2⟩ := h
    obtain ⟨n', q'⟩ := x.keep a (.frz o (.tup xs)) trivial n q
    exact ⟨a, xs, o, e, n', q', hd, RepL.ext x h2⟩
  | .lst ds, v, h => by
    simp only [RepV] at h ⊢
    obtain ⟨a, xs, e, n, q, h2⟩ := h
    obtain ⟨n', q'⟩ := x.keep a (.lst xs) trivial n q
    exact ⟨a, xs, e, n', q', RepL.ext x h2⟩
  | .scr ns, v, h => by
    simp only [RepV] at h ⊢
    obtain ⟨a, e, h1⟩ := h
    refine ⟨a, e, ?_⟩
    rcases h1 with ⟨n, o, q⟩ | k
    · obtain ⟨n', q'⟩ := x.keep a (.frz o (.lst _)) trivial n q
      exact .inl ⟨n', o, q'⟩
    · exact .inr k
  | .dct ks vs, v, h => by
    simp only [RepV] at h ⊢
    obtain ⟨a, xs, e, n, h2, h3⟩ := h
    obtain ⟨kk, l, ek, r⟩ := h3
    obtain ⟨n', r'⟩ := x.keepD a (.dK _) trivial n r
    exact ⟨a, xs, e, n', RepL.ext x h2, kk, l, ek, r'⟩
  | .gdz ks vs, v, h => by
    simp only [RepV] at h ⊢
    obtain ⟨a, o, zs, vv, e, n, q, h1, h2, h3, h4⟩ := h
    obtain ⟨n', q'⟩ := x.keep a (GDz C.w a o zs) trivial n q
    exact ⟨a, o, zs, vv, e, n', q', h1, h2, RepL.ext x h3, RepL.ext x h4⟩
  | .ref n, v, h => by
    simp only [RepV] at h ⊢
    obtain ⟨a, e, q⟩ := h
    exact ⟨a, e, x.pre n a q⟩
  | .ty _, _, h => h
  | .fn _, _, h => h
  | .exc _, _, h => h
theorem RepL.ext {C : Cn} {ρ ρ' : Rho} {H H' : Hp} (x : Ext ρ H ρ' H') : ∀ {ds : List D} {vs : List V}, RepL C ρ H ds vs → RepL C ρ' H' ds vs
  | [], _, h => h
  | d :: ds, vs, h => by
    simp only [RepL] at h ⊢
    obtain ⟨v, r, e, h1, h2⟩ := h
    exact ⟨v, r, e, RepV.ext x h1, RepL.ext x h2⟩
end

/-- the memory lies so -/
def RepO (C : Cn) (ρ : Rho) (H : Hp) (a : Addr) (l : Bool) : MO → Prop
  | .lst ds => l = true ∧ ∃ xs, H a = some (.lst xs) ∧ RepL C ρ H ds xs
  | .dct ks vs => l = true ∧ ∃ xs, RepL C ρ H vs xs ∧ ((∃ kk : List Key, kk.length = xs.length ∧ ks = kk.map keyD ∧ H a = some (.dK (kk.zip xs))) ∨ (∃ kk : List (List Key), kk.length = xs.length ∧ ks = kk.map tkeyD ∧ H a = some (.dT (kk.zip xs))))
  | .ins c fs => l = true ∧ ∃ Cc dx vs, C.cls c = .ref Cc ∧ vs.length = fs.length ∧ H a = some (.ins Cc dx ((fs.map (fun p => (p.1 : Str))).zip vs)) ∧ RepL C ρ H (fs.map (·.2)) vs
  | .gd ks vs => l = true ∧ ∃ xs vv, H a = some (GDo C.w a xs) ∧ KeysAt ks xs ∧ Vals vv (xs.map (·.2.2)) ∧ RepL C ρ H ks (xs.map fun x => V.ref x.2.1) ∧ RepL C ρ H vs vv
  | .gone => l = false
structure RepM (C : Cn) (ρ : Rho) (H : Hp) (m : Mem) : Prop where
  len : ρ.l.length = m.length
  obj : ∀ (n : Nat) a l o, ρ.l[n]? = some (a, l) → m[n]? = some o → RepO C ρ H a l o
  dis : ∀ (n k : Nat) a, ρ.l[n]? = some (a, true) → ρ.l[k]? = some (a, true) → n = k
  hid : ∀ a, a ∈ ρ.z → H a ≠ none ∧ (a, true) ∉ ρ.l

theorem RepO.same {C : Cn} {ρ : Rho} {H H' : Hp} (s : Same H H') {a : Addr} {l : Bool} : ∀ {o : MO}, RepO C ρ H a l o → RepO C ρ H' a l o
  | .lst ds, h => by
    obtain ⟨e, xs, q, r⟩ := h
    exact ⟨e, xs, s _ _ q, r.ext (.of_same s)⟩
  | .dct ks vs, h => by
    obtain ⟨e, xs, r, h⟩ := h
    refine ⟨e, xs, r.ext (.of_same s), ?_⟩
    rcases h with ⟨kk, l, ek, q⟩ | ⟨kk, l, ek, q⟩
    · exact .inl ⟨kk, l, ek, s _ _ q⟩
    · exact .inr ⟨kk, l, ek, s _ _ q⟩
  | .ins c fs, h => by
    obtain ⟨e, Cc, dx, vs, h1, h2, h3, h4⟩ := h
    exact ⟨e, Cc, dx, vs, h1, h2, s _ _ h3, h4.ext (.of_same s)⟩
  | .gd ks vs, h => by
    obtain ⟨e, xs, vv, h1, h2, h3, h4, h5⟩ := h
    exact ⟨e, xs, vv, s _ _ h1, h2, h3, h4.ext (.of_same s), h5.ext (.of_same s)⟩
  | .gone, h => h
theorem RepM.same {C : Cn} {ρ : Rho} {H H' : Hp} {m : Mem} (s : Same H H') (h : RepM C ρ H m) : RepM C ρ H' m :=
  ⟨h.len, fun n a l o h1 h2 => (h.obj n a l o h1 h2).same s, h.dis, fun a z => ⟨(Ext.of_same (ρ := ρ) s).there a (h.hid a z).1, (h.hid a z).2⟩⟩

theorem RepL.length {C : Cn} {ρ : Rho} {H : Hp} : ∀ {ds : List D} {vs : List V}, RepL C ρ H ds vs → ds.length = vs.length
  | [], _, h => by simp only [RepL] at h; rw [h]; rfl
  | d :: ds, vs, h => by
    simp only [RepL] at h
    obtain ⟨v, r, rfl, _, h⟩ := h
    simp [RepL.length h]
theorem RepL.get {C : Cn} {ρ : Rho} {H : Hp} : ∀ {ds : List D} {vs : List V} {i : Nat} {d : D}, RepL C ρ H ds vs → ds[i]? = some d → ∃ v, vs[i]? = some v ∧ RepV C ρ H d v
  | [], _, _, _, _, e => by simp at e
  | d :: ds, vs, 0, d', h, e => by
    simp only [RepL] at h
    obtain ⟨v, r, rfl, h1, _⟩ := h
    simp only [List.getElem?_cons_zero, Option.some.injEq] at e
    subst e
    exact ⟨v, rfl, h1⟩
  | d :: ds, vs, i + 1, d', h, e => by
    simp only [RepL] at h
    obtain ⟨v, r, rfl, _, h2⟩ := h
    simp only [List.getElem?_cons_succ] at e ⊢
    exact RepL.get h2 e
theorem RepL.append {C : Cn} {ρ : Rho} {H : Hp} : ∀ {ds es : List D} {vs ws : List V}, RepL C ρ H ds vs → RepL C ρ H es ws → RepL C ρ H (ds ++ es) (vs ++ ws)
  | [], es, vs, ws, h, h' => by simp only [RepL] at h; subst h; exact h'
  | d :: ds, es, vs, ws, h, h' => by
    simp only [RepL] at h
    obtain ⟨v, r, rfl, h1, h2⟩ := h
    show RepL C ρ H (d :: (ds ++ es)) (v :: (r ++ ws))
    simp only [RepL]
    exact ⟨v, _, rfl, h1, RepL.append h2 h'⟩
theorem RepL.of_all {C : Cn} {ρ : Rho} {H : Hp} : ∀ {ds : List D} {vs : List V}, ds.length = vs.length → (∀ (i : Nat) d v, ds[i]? = some d → vs[i]? = some v → RepV C ρ H d v) → RepL C ρ H ds vs
  | [], [], _, _ => by simp only [RepL]
  | [], _ :: _, e, _ => by simp at e
  | _ :: _, [], e, _ => by simp at e
  | d :: ds, v :: vs, e, h => by
    simp only [RepL]
    refine ⟨v, vs, rfl, h 0 d v rfl rfl, RepL.of_all (by simpa using e) fun i d' v' h1 h2 => h (i + 1) d' v' (by simpa using h1) (by simpa using h2)⟩
theorem RepL.take {C : Cn} {ρ : Rho} {H : Hp} {ds : List D} {vs : List V} (h : RepL C ρ H ds vs) (n : Nat) : RepL C ρ H (ds.take n) (vs.take n) := by
  refine RepL.of_all (by simp [h.length]) fun i d v h1 h2 => ?_
  by_cases hi : i < n
  · rw [List.getElem?_take_of_lt hi] at h1 h2
    obtain ⟨v', e, r⟩ := h.get h1
    rw [h2] at e; cases e; exact r
  · rw [List.getElem?_take_eq_none (by omega)] at h1; cases h1
theorem RepL.drop {C : Cn} {ρ : Rho} {H : Hp} {ds : List D} {vs : List V} (h : RepL C ρ H ds vs) (n : Nat) : RepL C ρ H (ds.drop n) (vs.drop n) := by
  refine RepL.of_all (by simp [h.length]) fun i d v h1 h2 => ?_
  rw [List.getElem?_drop] at h1 h2
  obtain ⟨v', e, r⟩ := h.get h1
  rw [h2] at e; cases e; exact r
/-- what is not tracked is nobody's -/
theorem RepM.free_of {C : Cn} {ρ : Rho} {H : Hp} {m : Mem} {p : Addr} (rm : RepM C ρ H m) (hp : H p = none) : ¬ lives ρ p := by
  intro hl
  rcases hl with hl | hl
  case inr => exact (rm.hid p hl).1 hp
  obtain ⟨n, hn⟩ := List.mem_iff_getElem?.mp hl
  have hlt : n < m.length := by rw [← rm.len]; exact (List.getElem?_eq_some_iff.mp hn).1
  have ho := rm.obj n p true m[n] hn (List.getElem?_eq_getElem hlt)
  cases q : m[n] with
  | lst ds => rw [q] at ho; obtain ⟨_, xs, e, _⟩ := ho; rw [hp] at e; cases e
  | dct ks vs =>
    rw [q] at ho
    obtain ⟨_, xs, _, h⟩ := ho
    rcases h with ⟨_, _, _, e⟩ | ⟨_, _, _, e⟩ <;> (rw [hp] at e; cases e)
  | ins c fs => rw [q] at ho; obtain ⟨_, _, _, _, _, _, e, _⟩ := ho; rw [hp] at e; cases e
  | gd ks vs => rw [q] at ho; obtain ⟨_, _, _, e, _⟩ := ho; rw [hp] at e; cases e
  | gone => rw [q] at ho; exact absurd (show true = false from ho) (by decide)

/-- the slots -/
structure RepE (C : Cn) (ρ : Rho) (H : Hp) (g : Env) (σ : St) : Prop where
  len : g.length = σ.length
  at_ : ∀ (i : Nat) d, g[i]? = some (some d) → ∃ v, σ[i]? = some (some v) ∧ RepV C ρ H d v
theorem RepE.ext {C : Cn} {ρ ρ' : Rho} {H H' : Hp} {g : Env} {σ : St} (x : Ext ρ H ρ' H') (h : RepE C ρ H g σ) : RepE C ρ' H' g σ :=
  ⟨h.len, fun i d e => let ⟨v, q, r⟩ := h.at_ i d e; ⟨v, q, r.ext x⟩⟩
theorem RepE.set {C : Cn} {ρ : Rho} {H : Hp} {g : Env} {σ : St} {d : D} {v : V} (h : RepE C ρ H g σ) (r : RepV C ρ H d v) (i : Nat) : RepE C ρ H (g.set i (some d)) (σ.set i (some v)) := by
  refine ⟨by simp [h.len], fun j e q => ?_⟩
  by_cases hj : i = j
  · subst hj
    by_cases hi : i < g.length
    · rw [List.getElem?_set_self hi] at q
      cases q
      exact ⟨v, List.getElem?_set_self (by rw [← h.len]; exact hi), r⟩
    · rw [List.getElem?_eq_none (by simpa using hi)] at q; cases q
  · rw [List.getElem?_set_ne hj] at q ⊢
    exact h.at_ j e q
theorem RepE.unset {C : Cn} {ρ : Rho} {H : Hp} {g : Env} {σ : St} (h : RepE C ρ H g σ) (i : Nat) (x : Option V) : RepE C ρ H (g.set i none) (σ.set i x) := by
  refine ⟨by simp [h.len], fun j e q => ?_⟩
  by_cases hj : i = j
  · subst hj
    by_cases hi : i < g.length
    · rw [List.getElem?_set_self hi] at q; cases q
    · rw [List.getElem?_eq_none (by simpa using hi)] at q; cases q
  · rw [List.getElem?_set_ne hj] at q ⊢
    exact h.at_ j e q
theorem RepE.wipe {C : Cn} {ρ : Rho} {H : Hp} {g : Env} {σ : St} (h : RepE C ρ H g σ) : ∀ vs : List Nat, RepE C ρ H (wipeD g vs) (wipe σ vs)
  | [] => h
  | v :: vs => by
    rw [wipeD_cons]
    exact (RepE.wipe h vs).unset v none

/-- what is wanted behind a reading -/
def fin {α : Type} (C : Cn) (ρ : Rho) (H : Hp) (W : XK) (r : R α) (k : α → Mem → Rho → Hp → Prop) : Prop :=
  match r with
  | .ok a m => ∀ ρ' H', Ext ρ H ρ' H' → RepM C ρ' H' m → k a m ρ' H'
  | .exc c m => ∀ ρ' H', Ext ρ H ρ' H' → RepM C ρ' H' m → W (C.cls c) none H'
  | .bad => False
section
variable {α β : Type} {C : Cn} {ρ ρ' : Rho} {H H' : Hp} {W : XK} {r : R α} {k k' : α → Mem → Rho → Hp → Prop}
theorem fin.ext (x : Ext ρ H ρ' H') (h : fin C ρ H W r k) : fin C ρ' H' W r k := by
  cases r with
  | ok a m => exact fun ρ2 H2 x2 m2 => h ρ2 H2 (x.trans x2) m2
  | exc c m => exact fun ρ2 H2 x2 m2 => h ρ2 H2 (x.trans x2) m2
  | bad => exact h
theorem fin.imp (h : fin C ρ H W r k) (f : ∀ a m ρ' H', Ext ρ H ρ' H' → RepM C ρ' H' m → k a m ρ' H' → k' a m ρ' H') : fin C ρ H W r k' := by
  cases r with
  | ok a m => exact fun ρ2 H2 x2 m2 => f a m ρ2 H2 x2 m2 (h ρ2 H2 x2 m2)
  | exc c m => exact h
  | bad => exact h
theorem fin.bind {g : α → Mem → R β} {k : β → Mem → Rho → Hp → Prop} (h : fin C ρ H W (r.bind g) k) : fin C ρ H W r (fun a m ρ1 H1 => fin C ρ1 H1 W (g a m) k) := by
  cases r with
  | ok a m => exact fun ρ2 H2 x2 m2 => fin.ext x2 (show fin C ρ H W (g a m) k from h)
  | exc c m => exact h
  | bad => exact h
theorem fin.ok {a : α} {m : Mem} (h : fin C ρ H W (.ok a m) k) (x : Ext ρ H ρ' H') (r : RepM C ρ' H' m) : k a m ρ' H' := h ρ' H' x r
end

/-! ### the readings -/
def tD (C : Cn) (W : XK) (f : Ex) : TE := fun σ H Q => ∃ ρ g m, RepE C ρ H g σ ∧ RepM C ρ H m ∧ fin C ρ H W (f g m) fun d _ ρ' H' => ∀ v, RepV C ρ' H' d v → Q v H'
def tDT (C : Cn) (W : XK) (f : Ts) : TT := fun σ H Q => ∃ ρ g m, RepE C ρ H g σ ∧ RepM C ρ H m ∧ fin C ρ H W (f g m) fun b _ _ H' => Q b H'
def tDA (C : Cn) (W : XK) (f : Ar) : TA := fun σ H Q => ∃ ρ g m, RepE C ρ H g σ ∧ RepM C ρ H m ∧ fin C ρ H W (f g m) fun ds _ ρ' H' => ∀ vs, RepL C ρ' H' ds vs → Q vs H'
def outK (C : Cn) (N : Ends) : Out → Mem → Rho → Hp → Prop := fun o _ ρ' H' => match o with
  | .nx g => ∀ σ', RepE C ρ' H' g σ' → N.nx σ' H'
  | .bk g => ∀ σ', RepE C ρ' H' g σ' → N.bk σ' H'
  | .ct g => ∀ σ', RepE C ρ' H' g σ' → N.ct σ' H'
  | .rt d => ∀ v, RepV C ρ' H' d v → N.rt v H'
def tDS (C : Cn) (W : XK) (f : Sm) : TS := fun N σ H => ∃ ρ g m, RepE C ρ H g σ ∧ RepM C ρ H m ∧ fin C ρ H W (f g m) (outK C N)
def tDG (C : Cn) (W : XK) (f : Tg) : TG := fun v σ H Q => ∃ ρ g m d, RepE C ρ H g σ ∧ RepM C ρ H m ∧ RepV C ρ H d v ∧ fin C ρ H W (f d g m) fun g' _ ρ' H' => ∀ σ', RepE C ρ' H' g' σ' → Q σ' H'
def tDGs (C : Cn) (W : XK) (f : Gs) : TGs := fun vs σ H Q => ∃ ρ g m ds, RepE C ρ H g σ ∧ RepM C ρ H m ∧ RepL C ρ H ds vs ∧ fin C ρ H W (f ds g m) fun g' _ ρ' H' => ∀ σ', RepE C ρ' H' g' σ' → Q σ' H'
/-- an iterator that walks these data -/
def WalkD (C : Cn) (ρ : Rho) (H : Hp) (ds : List D) (J : It) : Prop := ∀ ρ1 H1 (i : Nat) (m1 : Mem), Ext ρ H ρ1 H1 → RepM C ρ1 H1 m1 →
  (i = ds.length → J.stop i H1) ∧ ∀ d, ds[i]? = some d → J.go i H1 ∧ ∀ x H2, J.yld i H1 x H2 → Same H1 H2 ∧ RepV C ρ1 H2 d x
def tDI (C : Cn) (W : XK) (f : Ar) : TI := fun σ H R => ∃ ρ g m, RepE C ρ H g σ ∧ RepM C ρ H m ∧ fin C ρ H W (f g m) fun ds _ ρ' H' => ∀ J, WalkD C ρ' H' ds J → R J H'

abbrev DE (C : Cn) (W : XK) (X : Cx) (e : Expr) (f : Ex) : Prop := PE X e (tD C W f)
abbrev DT (C : Cn) (W : XK) (X : Cx) (e : Expr) (f : Ts) : Prop := PT X e (tDT C W f)
abbrev DA (C : Cn) (W : XK) (X : Cx) (es : List Expr) (f : Ar) : Prop := PA X es (tDA C W f)
abbrev DS (C : Cn) (W : XK) (X : Cx) (st : Stmt) (f : Sm) : Prop := PS X st (tDS C W f)
abbrev DSs (C : Cn) (W : XK) (X : Cx) (st : List Stmt) (f : Sm) : Prop := PSs X st (tDS C W f)
abbrev DG (C : Cn) (W : XK) (X : Cx) (e : Expr) (f : Tg) : Prop := PG X e (tDG C W f)
abbrev DGs (C : Cn) (W : XK) (X : Cx) (es : List Expr) (f : Gs) : Prop := PGs X es (tDGs C W f)
abbrev DI (C : Cn) (W : XK) (X : Cx) (tg e : Expr) (f : Ar) : Prop := PI X tg e (tDI C W f)
end LW
/-! LwA: the rules over data: names, constants, operators, tests, argument lists, statements, loops, comprehensions, defs. -/
namespace LW
open PySem PySem.Spec PyProof.Rows L2

section
variable {X : Cx}
theorem PE.imp {e : Expr} {t t' : TE} (h : PE X e t) (i : ∀ σ H Q, t' σ H Q → t σ H Q) : PE X e t' := ⟨fun pins s σ H Q I q => h.run pins s σ H Q I (i σ H Q q)⟩
theorem PT.imp {e : Expr} {t t' : TT} (h : PT X e t) (i : ∀ σ H Q, t' σ H Q → t σ H Q) : PT X e t' := ⟨fun pins s σ H Q I q => h.run pins s σ H Q I (i σ H Q q)⟩
theorem PW.imp {e : Expr} {t t' : TT} (h : PW X e t) (i : ∀ σ H Q, t' σ H Q → t σ H Q) : PW X e t' := ⟨fun wh pins s σ H Q I q => h.run wh pins s σ H Q I (i σ H Q q)⟩
theorem PA.imp {es : List Expr} {t t' : TA} (h : PA X es t) (i : ∀ σ H Q, t' σ H Q → t σ H Q) : PA X es t' := ⟨fun pos pins s σ H Q I q => h.run pos pins s σ H Q I (i σ H Q q)⟩
theorem PS.imp {st : Stmt} {t t' : TS} (h : PS X st t) (i : ∀ N σ H, t' N σ H → t N σ H) : PS X st t' := ⟨fun pins s σ H N I q => h.run pins s σ H N I (i N σ H q)⟩
theorem PSs.imp {st : List Stmt} {t t' : TS} (h : PSs X st t) (i : ∀ N σ H, t' N σ H → t N σ H) : PSs X st t' := ⟨fun pins s σ H N I q => h.run pins s σ H N I (i N σ H q)⟩
theorem PG.imp {e : Expr} {t t' : TG} (h : PG X e t) (i : ∀ v σ H Q, t' v σ H Q → t v σ H Q) : PG X e t' := ⟨fun pins s σ H v u Q I r q => h.run pins s σ H v u Q I r (i v σ H Q q)⟩
theorem PGs.imp {es : List Expr} {t t' : TGs} (h : PGs X es t) (i : ∀ v σ H Q, t' v σ H Q → t v σ H Q) : PGs X es t' := ⟨fun pins s σ H v u Q I r q => h.run pins s σ H v u Q I r (i v σ H Q q)⟩
theorem PI.imp {tg e : Expr} {t t' : TI} (h : PI X tg e t) (i : ∀ σ H R, t' σ H R → t σ H R) : PI X tg e t' := ⟨fun pins s σ H R I q => h.run pins s σ H R I (i σ H R q)⟩
end

/-! ### what is said of an operation on values -/
def OpS (C : Cn) (r : R2) (f : Op) : Prop := ∀ (ρ : Rho) (H : Hp) (m : Mem) (d1 d2 : D) (v1 v2 : V) (d : D) (Q : VK), RepM C ρ H m → RepV C ρ H d1 v1 → RepV C ρ H d2 v2 → f m d1 d2 = some d →
  (∀ v H', Same H H' → RepV C ρ H' d v → Q v H') → r v1 v2 H Q
def UnS (C : Cn) (r : V → Hp → VK → Prop) (f : Un) : Prop := ∀ (ρ : Rho) (H : Hp) (m : Mem) (d1 : D) (v1 : V) (d : D) (Q : VK), RepM C ρ H m → RepV C ρ H d1 v1 → f m d1 = some d →
  (∀ v H', Same H H' → RepV C ρ H' d v → Q v H') → r v1 H Q
def BfS (C : Cn) (r : List V → Hp → VK → Prop) (f : Bf) : Prop := ∀ (ρ : Rho) (H : Hp) (m : Mem) (ds : List D) (vs : List V) (d : D) (Q : VK), RepM C ρ H m → RepL C ρ H ds vs → f m ds = some d →
  (∀ v H', Same H H' → RepV C ρ H' d v → Q v H') → r vs H Q

section
variable {C : Cn} {W : XK} {ρ : Rho} {H : Hp} {m : Mem} {σ : St} {g : Env}
/-- the end of an operation on data -/
theorem fin.opt {o : Option D} {Q : VK} (rm : RepM C ρ H m) (h : fin C ρ H W (opt o m) fun d _ ρ' H' => ∀ v, RepV C ρ' H' d v → Q v H') : ∃ d, o = some d ∧ ∀ v H', Same H H' → RepV C ρ H' d v → Q v H' := by
  cases o with
  | none => exact h.elim
  | some d => exact ⟨d, rfl, fun v H' s r => h ρ H' (.of_same s) (rm.same s) v r⟩
theorem fin.now {α : Type} {a : α} {k : α → Mem → Rho → Hp → Prop} (rm : RepM C ρ H m) (h : fin C ρ H W (.ok a m) k) : k a m ρ H := h ρ H (.refl _ _) rm
end

section
variable {C : Cn} {W : XK} {X : Cx} {a b c : Expr} {fa fb fc : Ex} {ta tb : Ts} {pos : Pos}

/-! ### names and constants -/
theorem de_var {i : Nat} {x : Str} (hN : X.N[i]? = some x) (hv : Vis X.env.scope x) (hd : (x == ("__debug__" : Str)) = false := by decide) (hcd : (x == ("__classdict__" : Str)) = false := by decide) : DE C W X (.Name x pos) (vE i) := by
  refine PE.imp (pe_var hN hv hd hcd) ?_
  rintro σ H Q ⟨ρ, g, m, re, rm, h⟩
  simp only [vE] at h
  split at h
  · rename_i d e
    obtain ⟨v, e2, r⟩ := re.at_ i d e
    exact ⟨v, e2, fin.now rm h v r⟩
  · exact h.elim
theorem de_c {e : Expr} {v : V} {d : D} (he : PE X e (tC v)) (hr : ∀ ρ H, RepV C ρ H d v) : DE C W X e (cE d) := by
  refine PE.imp he ?_
  rintro σ H Q ⟨ρ, g, m, re, rm, h⟩
  exact fin.now rm h v (hr ρ H)
theorem de_int {i : Int} {j pos} : DE C W X (.Constant (.int i) j pos) (cE (.int i)) := de_c pe_int fun _ _ => by simp only [RepV]
theorem de_bl {b : Bool} {j pos} : DE C W X (.Constant (.bool b) j pos) (cE (.bl b)) := de_c pe_bl fun _ _ => by simp only [RepV]
theorem de_non {j pos} : DE C W X (.Constant .none j pos) (cE .non) := de_c pe_non fun _ _ => by simp only [RepV]
theorem rep_str {ρ : Rho} {H : Hp} {x : Str} {s : List Nat} (h : x.cps.toList = s) (hl : s.length ≤ lim) (hc : (s.all fun c => decide (c < 1114112)) = true) : RepV C ρ H (.str s) (.str x) := by
  simp only [RepV]
  subst h
  obtain ⟨c⟩ := x
  exact ⟨by simp, hl, fun c hm => by simpa using List.all_eq_true.mp hc c hm⟩
theorem de_str {x : Str} {s : List Nat} {j pos} (h : x.cps.toList = s) (hc : ((s.all fun c => decide (c < 1114112)) && decide (s.length ≤ lim)) = true) : DE C W X (.Constant (.str x) j pos) (cE (.str s)) := by
  rw [Bool.and_eq_true, decide_eq_true_eq] at hc
  exact de_c pe_str fun _ _ => rep_str h hc.2 hc.1
/-- a module's constant -/
theorem de_glob {x : Str} {v : V} {u : Value} {d : D} (hg : Gl X x) (hm : X.mg x = some u) (r : RelV v u) (hr : ∀ ρ H, RepV C ρ H d v) (hd : (x == ("__debug__" : Str)) = false := by decide) : DE C W X (.Name x pos) (cE d) := de_c (pe_glob hg hm r hd) hr

/-! ### operators -/
theorem bin_of {f : Op} {r : R2} (hs : OpS C r f) (σ : St) (H : Hp) (Q : VK) (h : tD C W (opE f fa fb) σ H Q) : tOp r (tD C W fa) (tD C W fb) σ H Q := by
  obtain ⟨ρ, g, m, re, rm, h⟩ := h
  refine ⟨ρ, g, m, re, rm, h.bind.imp fun d1 m1 ρ1 H1 x1 rm1 h1 v1 r1 => ?_⟩
  refine ⟨ρ1, g, m1, re.ext x1, rm1, h1.bind.imp fun d2 m2 ρ2 H2 x2 rm2 h2 v2 r2 => ?_⟩
  obtain ⟨d, e, q⟩ := h2.opt rm2
  exact hs ρ2 H2 m2 d1 d2 v1 v2 d Q rm2 (r1.ext x2) r2 e q
theorem de_op {f : Op} {op : Operator} {r : R2} (ho : OpR X (binaryOp op) r) (hs : OpS C r f) (ha : DE C W X a fa) (hb : DE C W X b fb) : DE C W X (.BinOp a op b pos) (opE f fa fb) :=
  PE.imp (pe_op ho ha hb) (bin_of hs)
theorem de_cmp {f : Op} {op : CmpOp} {r : R2} (ho : OpR X (compareOp op) r) (hs : OpS C r f) (ha : DE C W X a fa) (hb : DE C W X b fb) (hm : behindInMarks op b = false) : DE C W X (.Compare a [op] [b] pos) (opE f fa fb) :=
  PE.imp (pe_cmpR ho ha hb hm) (bin_of hs)
theorem asB_of {σ : St} {H : Hp} {Q : Bool → Hp → Prop} {f : Ex} (h : tDT C W (tE f) σ H Q) : tD C W f σ H (fun x H' => ∃ k, x = .bl k ∧ Q k H') := by
  obtain ⟨ρ, g, m, re, rm, h⟩ := h
  refine ⟨ρ, g, m, re, rm, h.bind.imp fun d m1 ρ1 H1 x1 rm1 h1 v r => ?_⟩
  cases d with
  | bl k => exact ⟨k, by simpa only [RepV] using r, fin.now rm1 h1⟩
  | _ => exact h1.elim
theorem dt_cmp {f : Op} {op : CmpOp} {r : R2} (ho : OpR X (compareOp op) r) (hs : OpS C r f) (ha : DE C W X a fa) (hb : DE C W X b fb) (hm : behindInMarks op b = false) : DT C W X (.Compare a [op] [b] pos) (tE (opE f fa fb)) :=
  PT.imp (pt_cmpR ho ha hb hm) fun σ H Q h => bin_of hs σ H _ (asB_of h)
theorem chain_of {f f' : Op} {r r' : R2} (hs : OpS C r f) (hs' : OpS C r' f') (σ : St) (H : Hp) (Q : VK) (h : tD C W (chE f f' fa fb fc) σ H Q) : tChain r r' (tD C W fa) (tD C W fb) (tD C W fc) σ H Q := by
  obtain ⟨ρ, g, m, re, rm, h⟩ := h
  refine ⟨ρ, g, m, re, rm, h.bind.imp fun d1 m1 ρ1 H1 x1 rm1 h1 v1 r1 => ?_⟩
  refine ⟨ρ1, g, m1, re.ext x1, rm1, h1.bind.imp fun d2 m2 ρ2 H2 x2 rm2 h2 v2 r2 => ?_⟩
  have r1' := r1.ext x2
  cases e : f m2 d1 d2 with
  | none => rw [e] at h2; exact h2.elim
  | some d =>
    rw [e] at h2
    refine hs ρ2 H2 m2 d1 d2 v1 v2 d _ rm2 r1' r2 e fun v H3 s r3 => ?_
    cases d with
    | bl k =>
      refine ⟨k, by simpa only [RepV] using r3, ?_⟩
      cases k with
      | false => exact iteF (h2 ρ2 H3 (.of_same s) (rm2.same s) _ (by simp only [RepV]))
      | true =>
        refine iteT ⟨ρ2, g, m2, (re.ext x1).ext (x2.trans (.of_same s)), rm2.same s, (fin.ext (.of_same s) h2).bind.imp fun d3 m3 ρ3 H4 x4 rm4 h4 v3 r3' => ?_⟩
        obtain ⟨d', e', q⟩ := h4.opt rm4
        exact hs' ρ3 H4 m3 d2 d3 v2 v3 d' Q rm4 (r2.ext ((Ext.of_same s).trans x4)) r3' e' q
    | _ => exact h2.elim
theorem de_chain {f f' : Op} {op op' : CmpOp} {r r' : R2} (ho : OpR X (compareOp op) r) (hs : OpS C r f) (ho' : OpR X (compareOp op') r') (hs' : OpS C r' f') (ha : DE C W X a fa) (hb : DE C W X b fb) (hc : DE C W X c fc)
    (hm : lastMarks [op, op'] [b, c] = false := by with_unfolding_all rfl) : DE C W X (.Compare a [op, op'] [b, c] pos) (chE f f' fa fb fc) :=
  PE.imp (pe_chain ho ho' ha hb hc hm) (chain_of hs hs')
theorem dt_chain {f f' : Op} {op op' : CmpOp} {r r' : R2} (ho : OpR X (compareOp op) r) (hs : OpS C r f) (ho' : OpR X (compareOp op') r') (hs' : OpS C r' f') (ha : DE C W X a fa) (hb : DE C W X b fb) (hc : DE C W X c fc)
    (hm : lastMarks [op, op'] [b, c] = false := by with_unfolding_all rfl) : DT C W X (.Compare a [op, op'] [b, c] pos) (tE (chE f f' fa fb fc)) :=
  PT.imp (pt_chain ho ho' ha hb hc hm) fun σ H Q h => chain_of hs hs' σ H _ (asB_of h)
theorem de_un {f : Un} {op : UnaryOp} {r : V → Hp → VK → Prop} (ho : UnR X (unaryOp op) r) (hs : UnS C r f) (ha : DE C W X a fa) : DE C W X (.UnaryOp op a pos) (unE f fa) := by
  refine PE.imp (pe_un ho ha) ?_
  rintro σ H Q ⟨ρ, g, m, re, rm, h⟩
  refine ⟨ρ, g, m, re, rm, h.bind.imp fun d1 m1 ρ1 H1 x1 rm1 h1 v1 r1 => ?_⟩
  obtain ⟨d, e, q⟩ := h1.opt rm1
  exact hs ρ1 H1 m1 d1 v1 d Q rm1 r1 e q

/-! ### tests -/
/-- an expression that gives True or False, as a test -/
theorem dt_val (h : DE C W X a fa) (he : ∀ whole, isTrue a X.env whole = (do let v ← whole; standAt a.pos; holding [v] (truthy v)) := by intro _; rfl) : DT C W X a (tE fa) :=
  PT.imp (pt_val h he) fun σ H Q h => asB_of h
theorem dt_not (h : DT C W X a ta) : DT C W X (.UnaryOp .Not a pos) (notT ta) := by
  refine PT.imp (pt_not h) ?_
  rintro σ H Q ⟨ρ, g, m, re, rm, h⟩
  exact ⟨ρ, g, m, re, rm, h.bind.imp fun d1 m1 ρ1 H1 x1 rm1 h1 => fin.now rm1 h1⟩
abbrev DW (C : Cn) (W : XK) (X : Cx) (e : Expr) (f : Ts) : Prop := PW X e (tDT C W f)
theorem dw_and1 (ha : DT C W X a ta) : DW C W X (.BoolOp .And [a] pos) ta := pw_and1 ha
theorem dw_or1 (ha : DT C W X a ta) : DW C W X (.BoolOp .Or [a] pos) ta := pw_or1 ha
theorem dw_and {rest : List Expr} (ha : DT C W X a ta) (hb : DW C W X (.BoolOp .And (b :: rest) pos) tb) : DW C W X (.BoolOp .And (a :: b :: rest) pos) (andT ta tb) := by
  refine PW.imp (pw_and ha hb) ?_
  rintro σ H Q ⟨ρ, g, m, re, rm, h⟩
  refine ⟨ρ, g, m, re, rm, h.bind.imp fun k m1 ρ1 H1 x1 rm1 h1 => ?_⟩
  cases k with
  | true => exact iteT ⟨ρ1, g, m1, re.ext x1, rm1, h1⟩
  | false => exact iteF (fin.now rm1 h1)
theorem dw_or {rest : List Expr} (ha : DT C W X a ta) (hb : DW C W X (.BoolOp .Or (b :: rest) pos) tb) : DW C W X (.BoolOp .Or (a :: b :: rest) pos) (orT ta tb) := by
  refine PW.imp (pw_or ha hb) ?_
  rintro σ H Q ⟨ρ, g, m, re, rm, h⟩
  refine ⟨ρ, g, m, re, rm, h.bind.imp fun k m1 ρ1 H1 x1 rm1 h1 => ?_⟩
  cases k with
  | true => exact iteT (fin.now rm1 h1)
  | false => exact iteF ⟨ρ1, g, m1, re.ext x1, rm1, h1⟩
theorem dt_w {t : Ts} (h : DW C W X a t) : DT C W X a t := h.pt
theorem de_one {op} (h : DE C W X a fa) : DE C W X (.BoolOp op [a] pos) fa := pe_one h
theorem de_and {rest : List Expr} (ha : DE C W X a fa) (hb : DE C W X (.BoolOp .And (b :: rest) pos) fb) : DE C W X (.BoolOp .And (a :: b :: rest) pos) (andE fa fb) := by
  refine PE.imp (pe_and ha hb) ?_
  rintro σ H Q ⟨ρ, g, m, re, rm, h⟩
  refine ⟨ρ, g, m, re, rm, h.bind.imp fun d m1 ρ1 H1 x1 rm1 h1 v r => ?_⟩
  cases d with
  | bl k =>
    refine ⟨k, by simpa only [RepV] using r, ?_⟩
    cases k with
    | true => exact iteT ⟨ρ1, g, m1, re.ext x1, rm1, h1⟩
    | false => exact iteF (fin.now rm1 h1 _ (by simp only [RepV]))
  | _ => exact h1.elim
theorem de_or {rest : List Expr} (ha : DE C W X a fa) (hb : DE C W X (.BoolOp .Or (b :: rest) pos) fb) : DE C W X (.BoolOp .Or (a :: b :: rest) pos) (orE fa fb) := by
  refine PE.imp (pe_or ha hb) ?_
  rintro σ H Q ⟨ρ, g, m, re, rm, h⟩
  refine ⟨ρ, g, m, re, rm, h.bind.imp fun d m1 ρ1 H1 x1 rm1 h1 v r => ?_⟩
  cases d with
  | bl k =>
    refine ⟨k, by simpa only [RepV] using r, ?_⟩
    cases k with
    | false => exact iteF ⟨ρ1, g, m1, re.ext x1, rm1, h1⟩
    | true => exact iteT (fin.now rm1 h1 _ (by simp only [RepV]))
  | _ => exact h1.elim
theorem de_not (ha : DE C W X a fa) : DE C W X (.UnaryOp .Not a pos) (notE fa) := by
  refine PE.imp (pe_not ha) ?_
  rintro σ H Q ⟨ρ, g, m, re, rm, h⟩
  refine ⟨ρ, g, m, re, rm, h.bind.imp fun d m1 ρ1 H1 x1 rm1 h1 v r => ?_⟩
  cases d with
  | bl k => exact ⟨k, by simpa only [RepV] using r, fin.now rm1 h1 _ (by simp only [RepV])⟩
  | _ => exact h1.elim
theorem de_if {t : Ts} (hc : DT C W X c t) (ha : DE C W X a fa) (hb : DE C W X b fb) : DE C W X (.IfExp c a b pos) (ifE t fa fb) := by
  refine PE.imp (pe_ifExp hc ha hb) ?_
  rintro σ H Q ⟨ρ, g, m, re, rm, h⟩
  refine ⟨ρ, g, m, re, rm, h.bind.imp fun k m1 ρ1 H1 x1 rm1 h1 => ?_⟩
  cases k with
  | true => exact iteT ⟨ρ1, g, m1, re.ext x1, rm1, h1⟩
  | false => exact iteF ⟨ρ1, g, m1, re.ext x1, rm1, h1⟩

/-! ### argument lists, displays -/
variable {es : List Expr} {fr : Ar}
theorem da_nil : DA C W X [] nilA := by
  refine PA.imp pa_nil ?_
  rintro σ H Q ⟨ρ, g, m, re, rm, h⟩
  exact fin.now rm h _ (by simp only [RepL])
theorem da_cons (ha : DE C W X a fa) (hr : DA C W X es fr) (hs : starEach (a :: es) X.env = (false, eval a X.env) :: starEach es X.env := by rfl) : DA C W X (a :: es) (consA fa fr) := by
  refine PA.imp (pa_cons ha hr hs) ?_
  rintro σ H Q ⟨ρ, g, m, re, rm, h⟩
  refine ⟨ρ, g, m, re, rm, h.bind.imp fun d m1 ρ1 H1 x1 rm1 h1 v r => ?_⟩
  refine ⟨ρ1, g, m1, re.ext x1, rm1, h1.bind.imp fun ds m2 ρ2 H2 x2 rm2 h2 vs r2 => ?_⟩
  exact fin.now rm2 h2 _ (by simp only [RepL]; exact ⟨v, vs, rfl, r.ext x2, r2⟩)
theorem lim_eq : lim = sizeLine := by rw [sizeLine_eq]; rfl
/-- a new thing that stands by its contents -/
theorem rep_tup {ρ : Rho} {H : Hp} {p : Addr} {ds : List D} {xs : List V} {m : Mem} (rm : RepM C ρ H m) (hp : H p = none) (r : RepL C ρ H ds xs) : RepV C ρ (upd H p (.tup xs)) (.tup ds) (.ref p) := by
  simp only [RepV]
  exact ⟨p, xs, rfl, .inl ⟨rm.free_of hp, .inl upd_same⟩, r.ext (.of_same (same_upd hp))⟩
theorem rep_lst {ρ : Rho} {H : Hp} {p : Addr} {ds : List D} {xs : List V} {m : Mem} (rm : RepM C ρ H m) (hp : H p = none) (r : RepL C ρ H ds xs) : RepV C ρ (upd H p (.lst xs)) (.lst ds) (.ref p) := by
  simp only [RepV]
  exact ⟨p, xs, rfl, rm.free_of hp, upd_same, r.ext (.of_same (same_upd hp))⟩
theorem de_tup {x1} (h : DA C W X es fr) : DE C W X (.Tuple es x1 pos) (tupE fr) := by
  refine PE.imp (pe_tup h) ?_
  rintro σ H Q ⟨ρ, g, m, re, rm, h⟩
  refine ⟨ρ, g, m, re, rm, h.bind.imp fun ds m1 ρ1 H1 x1 rm1 h1 vs r => ?_⟩
  by_cases hz : ds.length ≤ lim
  · rw [if_pos hz] at h1
    refine ⟨by rw [← lim_eq, ← r.length]; exact hz, fun p hp => ?_⟩
    exact h1 ρ1 _ (.of_same (same_upd hp)) (rm1.same (same_upd hp)) _ (rep_tup rm1 hp r)
  · rw [if_neg hz] at h1; exact h1.elim
theorem de_lst (h : DA C W X es fr) : DE C W X (.List es pos) (lstE fr) := by
  refine PE.imp (pe_lst h) ?_
  rintro σ H Q ⟨ρ, g, m, re, rm, h⟩
  refine ⟨ρ, g, m, re, rm, h.bind.imp fun ds m1 ρ1 H1 x1 rm1 h1 vs r => ?_⟩
  by_cases hz : ds.length ≤ lim
  · rw [if_pos hz] at h1
    refine ⟨by rw [← lim_eq, ← r.length]; exact hz, fun p hp => ?_⟩
    exact h1 ρ1 _ (.of_same (same_upd hp)) (rm1.same (same_upd hp)) _ (rep_lst rm1 hp r)
  · rw [if_neg hz] at h1; exact h1.elim

/-! ### calls of built-ins -/
theorem cb_of {f : Bf} {r : List V → Hp → VK → Prop} (hs : BfS C r f) (σ : St) (H : Hp) (Q : VK) (h : tD C W (bE f fr) σ H Q) : tCB r (tDA C W fr) σ H Q := by
  obtain ⟨ρ, g, m, re, rm, h⟩ := h
  refine ⟨ρ, g, m, re, rm, h.bind.imp fun ds m1 ρ1 H1 x1 rm1 h1 vs r1 => ?_⟩
  obtain ⟨d, e, q⟩ := h1.opt rm1
  exact hs ρ1 H1 m1 ds vs d Q rm1 r1 e q
theorem de_callB {f : Bf} {x : Str} {id : String} {r : List V → Hp → VK → Prop} {p : Pos} (hc : CallR X (.builtin id) r) (hs : BfS C r f) (hg : Gl X x) (hm : X.mg x = none) (hv : bootBuiltins x = some (.builtin id)) (ha : DA C W X (a :: es) fr) (hn : x ≠ "__name__" := by decide) (hdb : (x == ("__debug__" : Str)) = false := by decide)
    (he : starEach (a :: es) X.env = (false, eval a X.env) :: starEach es X.env := by rfl) (hpl : (backTo pos (starEach es X.env)).any (·.1) = false := by rfl) : DE C W X (.Call (.Name x p) (a :: es) [] pos) (bE f fr) :=
  PE.imp (pe_callB hc hg hm hv ha hn hdb he hpl) (cb_of hs)
theorem de_callTy {f : Bf} {x : Str} {T : String} {r : List V → Hp → VK → Prop} {p : Pos} (hc : CallR X (.type T) r) (hs : BfS C r f) (hg : Gl X x) (hm : X.mg x = none) (hv : bootBuiltins x = some (.type T)) (ha : DA C W X (a :: es) fr) (hn : x ≠ "__name__" := by decide) (hdb : (x == ("__debug__" : Str)) = false := by decide)
    (he : starEach (a :: es) X.env = (false, eval a X.env) :: starEach es X.env := by rfl) (hpl : (backTo pos (starEach es X.env)).any (·.1) = false := by rfl) : DE C W X (.Call (.Name x p) (a :: es) [] pos) (bE f fr) :=
  PE.imp (pe_callTy hc hg hm hv ha hn hdb he hpl) (cb_of hs)
end

/-! ### what a def promises -/
def spOf (C : Cn) (n : Nat) (f : Fn) : Sp := fun vs H Q E => ∃ ρ m ds, ds.length = n ∧ RepL C ρ H ds vs ∧ RepM C ρ H m ∧ fin C ρ H E (f ds m) fun d _ ρ' H' => ∀ v, RepV C ρ' H' d v → Q v H'
abbrev TakesK (X : Cx) (W : XK) : Prop := Takes X (fun c d _ H => W c d H)
section
variable {C : Cn} {W : XK} {X : Cx} {a b c : Expr} {fa fb fc : Ex} {ta tb : Ts} {pos : Pos} {es : List Expr} {fr : Ar} {k n : Nat} {f : Addr} {fd : FuncData} {ps : List Str} {F : Fn} {x : Str} {p : Pos}
theorem call_of (σ : St) (H : Hp) (Q : VK) (hn : ∀ g m ds m1, fr g m = .ok ds m1 → ds.length = n) (h : tD C W (callE F fr) σ H Q) : tCall (spOf C n F) [] W (tDA C W fr) σ H Q := by
  obtain ⟨ρ, g, m, re, rm, h⟩ := h
  refine ⟨ρ, g, m, re, rm, ?_⟩
  have h' := h.bind
  cases e : fr g m with
  | bad => rw [e] at h'; exact h'
  | exc c m => rw [e] at h'; exact h'
  | ok ds m1 =>
    rw [e] at h'
    refine fun ρ1 H1 x1 rm1 vs r1 => ?_
    show spOf C n F (vs ++ []) H1 Q W
    rw [List.append_nil]
    exact ⟨ρ1, m1, ds, hn g m ds m1 e, r1, rm1, h' ρ1 H1 x1 rm1⟩
/-- f(e, ..) of a def that may raise -/
theorem de_call (G : FnOk X.prog X.w X.K X.mg X.base (L2.CX X.prog X.w) k f fd ps (spOf C n F)) (hr : Room k X.A) (hg : Gl X x) (hm : X.mg x = some (.ref f)) (hk : PySem.W.keepIn X.K (.ref f) = true) (hb : Binds X.K fd ps []) (tk : TakesK X W)
    (ha : DA C W X (a :: es) fr) (hn : ∀ g m ds m1, fr g m = .ok ds m1 → ds.length = n) (hdb : (x == ("__debug__" : Str)) = false := by decide) (he : starEach (a :: es) X.env = (false, eval a X.env) :: starEach es X.env := by rfl) (hpl : (backTo pos (starEach es X.env)).any (·.1) = false := by rfl) :
    DE C W X (.Call (.Name x p) (a :: es) [] pos) (callE F fr) :=
  PE.imp (pe_call (E := W) (dvs := []) G hr hg hm hk hb .nil (passes_call tk fun _ _ _ _ h => h) ha hdb he hpl) fun σ H Q h => call_of σ H Q hn h
theorem len0 : ∀ g m ds m1, nilA g m = .ok ds m1 → ds.length = 0 := fun g m ds m1 e => by cases e; rfl
theorem lenS {a : Ex} {r : Ar} {k : Nat} (h : ∀ g m ds m1, r g m = .ok ds m1 → ds.length = k) : ∀ g m ds m1, consA a r g m = .ok ds m1 → ds.length = k + 1 := fun g m ds m1 e => by
  simp only [consA] at e
  cases q : a g m with
  | bad => rw [q] at e; cases e
  | exc c m => rw [q] at e; cases e
  | ok d m2 =>
    rw [q] at e
    simp only [R.bind_ok] at e
    cases q2 : r g m2 with
    | bad => rw [q2] at e; cases e
    | exc c m => rw [q2] at e; cases e
    | ok ds2 m3 =>
      rw [q2] at e
      cases e
      rw [List.length_cons, h g m2 _ _ q2]
end
end LW
/-! LwB: statements, loops, comprehensions, defs over data. -/
namespace LW
open PySem PySem.Spec PyProof.Rows L2
section
variable {C : Cn} {W : XK} {X : Cx} {a b c : Expr} {fa fb fc : Ex} {t : Ts} {pos : Pos} {st : Stmt} {rest sts : List Stmt} {f1 f2 : Sm}
theorem dss_nil : DSs C W X [] nxS := by
  refine PSs.imp pss_nil ?_
  rintro N σ H ⟨ρ, g, m, re, rm, h⟩
  exact fin.now rm h σ re
theorem dss_bad : DSs C W X sts badS := by
  refine PSs.imp pss_never ?_
  rintro N σ H ⟨ρ, g, m, re, rm, h⟩
  exact h
theorem ds_bad : DS C W X st badS := by
  refine PS.imp ps_never ?_
  rintro N σ H ⟨ρ, g, m, re, rm, h⟩
  exact h
theorem dss_cons (h1 : DS C W X st f1) (h2 : DSs C W X rest f2) : DSs C W X (st :: rest) (seqS f1 f2) := by
  refine PSs.imp (pss_cons h1 h2) ?_
  rintro N σ H ⟨ρ, g, m, re, rm, h⟩
  refine ⟨ρ, g, m, re, rm, (fin.bind h).imp fun o m1 ρ1 H1 x1 rm1 h1 => ?_⟩
  cases o with
  | nx g1 => exact fun σ' re' => ⟨ρ1, g1, m1, re', rm1, h1⟩
  | rt d => exact (fin.now (W := W) (k := outK C N) rm1 h1 : outK C N (.rt d) m1 ρ1 H1)
  | bk g1 => exact (fin.now (W := W) (k := outK C N) rm1 h1 : outK C N (.bk g1) m1 ρ1 H1)
  | ct g1 => exact (fin.now (W := W) (k := outK C N) rm1 h1 : outK C N (.ct g1) m1 ρ1 H1)
theorem dss_one (h1 : DS C W X st f1) : DSs C W X [st] f1 := pss_one h1
theorem ds_pass : DS C W X (.Pass pos) nxS := by
  refine PS.imp ps_pass ?_
  rintro N σ H ⟨ρ, g, m, re, rm, h⟩
  exact fin.now rm h σ re
theorem ds_break : DS C W X (.Break pos) bkS := by
  refine PS.imp ps_break ?_
  rintro N σ H ⟨ρ, g, m, re, rm, h⟩
  exact fin.now rm h σ re
theorem ds_continue : DS C W X (.Continue pos) ctS := by
  refine PS.imp ps_continue ?_
  rintro N σ H ⟨ρ, g, m, re, rm, h⟩
  exact fin.now rm h σ re
theorem ds_expr (he : DE C W X a fa) (hs : swapsWith a none pos.line X.env = pure false := by rfl) : DS C W X (.Expr a pos) (exS fa) := by
  refine PS.imp (ps_expr he hs) ?_
  rintro N σ H ⟨ρ, g, m, re, rm, h⟩
  exact ⟨ρ, g, m, re, rm, h.bind.imp fun d m1 ρ1 H1 x1 rm1 h1 v r => fin.now rm1 h1 σ (re.ext x1)⟩
theorem ds_ret (he : DE C W X a fa) : DS C W X (.Return (some a) pos) (retS fa) := by
  refine PS.imp (ps_ret he) ?_
  rintro N σ H ⟨ρ, g, m, re, rm, h⟩
  exact ⟨ρ, g, m, re, rm, h.bind.imp fun d m1 ρ1 H1 x1 rm1 h1 v r => fin.now rm1 h1 v r⟩
theorem ds_retN : DS C W X (.Return none pos) retN := by
  refine PS.imp ps_retN ?_
  rintro N σ H ⟨ρ, g, m, re, rm, h⟩
  exact fin.now rm h .non (by simp only [RepV])
theorem ds_if {sa sb : List Stmt} (hc : DT C W X c t) (ha : DSs C W X sa f1) (hb : DSs C W X sb f2) : DS C W X (.If c sa sb pos) (ifS t f1 f2) := by
  refine PS.imp (ps_if hc ha hb) ?_
  rintro N σ H ⟨ρ, g, m, re, rm, h⟩
  refine ⟨ρ, g, m, re, rm, h.bind.imp fun k m1 ρ1 H1 x1 rm1 h1 => ?_⟩
  cases k with
  | true => exact iteT ⟨ρ1, g, m1, re.ext x1, rm1, h1⟩
  | false => exact iteF ⟨ρ1, g, m1, re.ext x1, rm1, h1⟩
/-- raise X('..') -/
theorem ds_raise {e : Expr} {Cc : Addr} {nm : String} (hc : X.calm = true) (tk : TakesK X W) (he : PMk X e (fun _ H Q => Q (.ref Cc) none H)) (hcl : C.cls nm = .ref Cc) : DS C W X (.Raise (some e) none pos) (raiseS nm) := by
  refine PS.imp (ps_raise hc tk he) ?_
  rintro N σ H ⟨ρ, g, m, re, rm, h⟩
  have q : W (C.cls nm) none H := h ρ H (.refl _ _) rm
  rw [hcl] at q
  exact q

/-! ### targets, assignments -/
variable {tg : Tg} {tgs : Gs}
theorem dg_name {i : Nat} {x : Str} (hN : X.N.Nodup) (hi : X.N[i]? = some x) (hx : Loc X.env.scope x) (hf : X.fn x = true ∨ X.env.scope.names.lookup x = some .local := by first | exact .inl rfl | exact .inr rfl | assumption) : DG C W X (.Name x pos) (nmG i) := by
  refine PG.imp (pg_name hN hi hx hf) ?_
  rintro v σ H Q ⟨ρ, g, m, d, re, rm, rv, h⟩
  exact fin.now rm h _ (re.set rv i)
theorem dgs_nil : DGs C W X [] nilG := by
  refine PGs.imp pgs_nil ?_
  rintro vs σ H Q ⟨ρ, g, m, ds, re, rm, rv, h⟩
  cases ds with
  | nil => exact ⟨by simpa only [RepL] using rv, fin.now rm h σ re⟩
  | cons d ds => exact h.elim
theorem dgs_cons {e : Expr} {es : List Expr} (h1 : DG C W X e tg) (h2 : DGs C W X es tgs) (hs : (assignEach (e :: es) X.env).map (·.2) = assign e X.env :: (assignEach es X.env).map (·.2) := by rfl) : DGs C W X (e :: es) (consG tg tgs) := by
  refine PGs.imp (pgs_cons h1 h2 hs) ?_
  rintro vs σ H Q ⟨ρ, g, m, ds, re, rm, rv, h⟩
  cases ds with
  | nil => exact h.elim
  | cons d ds =>
    simp only [RepL] at rv
    obtain ⟨v, r, rfl, r1, r2⟩ := rv
    refine ⟨v, r, rfl, ρ, g, m, d, re, rm, r1, (fin.bind h).imp fun g1 m1 ρ1 H1 x1 rm1 h1 σ' re' => ?_⟩
    exact ⟨ρ1, g1, m1, ds, re', rm1, r2.ext x1, h1⟩
theorem RepV.tup_sq {ρ : Rho} {H : Hp} {ds : List D} {v : V} (h : RepV C ρ H (.tup ds) v) : ∃ a xs, v = .ref a ∧ SqT C.K H a xs ∧ RepL C ρ H ds xs := by
  simp only [RepV] at h
  obtain ⟨a, xs, e, h1, h2⟩ := h
  refine ⟨a, xs, e, ?_, h2⟩
  rcases h1 with ⟨_, r⟩ | k
  · exact .inl r
  · rcases k with (k | ⟨_, k⟩) | k
    · cases k
    · cases k
    · exact .inr k
theorem RepV.wk {ρ : Rho} {H : Hp} {ds : List D} {v : V} (h : RepV C ρ H (.tpx ds) v) : RepV C ρ H (.tup ds) v := by
  simp only [RepV] at h ⊢
  obtain ⟨a, xs, o, e, n, q, hd, h2⟩ := h
  exact ⟨a, xs, e, .inl ⟨n, .inr ⟨o, q⟩⟩, h2⟩
theorem RepV.lst_at {ρ : Rho} {H : Hp} {ds : List D} {v : V} (h : RepV C ρ H (.lst ds) v) : ∃ a xs, v = .ref a ∧ ¬ lives ρ a ∧ H a = some (.lst xs) ∧ RepL C ρ H ds xs := by
  simpa only [RepV] using h
theorem RepV.scr_sq {ρ : Rho} {H : Hp} {ns : List Int} {v : V} (h : RepV C ρ H (.scr ns) v) : ∃ a, v = .ref a ∧ SqL C.K H a (ns.map V.int) := by
  simp only [RepV] at h
  obtain ⟨a, e, h1⟩ := h
  refine ⟨a, e, ?_⟩
  rcases h1 with ⟨_, o, r⟩ | k
  · exact .inl (.inr ⟨o, r⟩)
  · rcases k with (k | ⟨_, k⟩) | k
    · cases k
    · cases k
    · exact .inr k
theorem dg_tup {es : List Expr} {k n : Nat} (hK : C.K = X.K) (hc : X.calm = true) (h : DGs C W X es tgs) (hl : ∀ ds g m g' m', tgs ds g m = .ok g' m' → ds.length = n) (hl2 : ∀ ds g m c m', tgs ds g m = .exc c m' → ds.length = n)
    (hn : (assignEach es X.env).length = n := by rfl) (hst : (assignEach es X.env).findIdx? (·.1) = none := by rfl) : DG C W X (.Tuple es k pos) (tupG tgs) := by
  refine PG.imp (pg_tup hc h hn hst) ?_
  rintro v σ H Q ⟨ρ, g, m, d, re, rm, rv, h⟩
  cases d with
  | tup ds =>
    obtain ⟨a, xs, e, sq, rl⟩ := rv.tup_sq
    refine ⟨a, xs, e, hK ▸ sq, ?_, ρ, g, m, ds, re, rm, rl, h⟩
    rw [← rl.length]
    have h : fin C ρ H W (tgs ds g m) _ := h
    cases q : tgs ds g m with
    | ok g' m' => exact hl _ _ _ _ _ q
    | exc c m' => exact hl2 _ _ _ _ _ q
    | bad => rw [q] at h; exact h.elim
  | _ => exact h.elim
theorem ds_asg {te : Expr} (he : DE C W X a fa) (hg : DG C W X te tg) (hs : swapsWithSole [te] a pos.line X.env = pure false := by rfl) (hw : swappedStores [te] a X.env = pure none := by rfl)
    (h1 : (assignEach [te] X.env).map (·.2) = [assign te X.env] := by rfl) : DS C W X (.Assign [te] a pos) (asgS tg fa) := by
  refine PS.imp (ps_asg he hg hs hw h1) ?_
  rintro N σ H ⟨ρ, g, m, re, rm, h⟩
  refine ⟨ρ, g, m, re, rm, h.bind.imp fun d m1 ρ1 H1 x1 rm1 h1 v r => ?_⟩
  exact ⟨ρ1, g, m1, d, re.ext x1, rm1, r, h1.bind.imp fun g' m2 ρ2 H2 x2 rm2 h2 σ' re' => fin.now rm2 h2 σ' re'⟩
/-- name = e -/
theorem ds_set {i : Nat} {x : Str} {pos' : Pos} (hN : X.N.Nodup) (hi : X.N[i]? = some x) (hx : Loc X.env.scope x) (he : DE C W X a fa) (hs : swapsWith a (some (.Name x pos')) pos.line X.env = pure false := by rfl) (hf : X.fn x = true ∨ X.env.scope.names.lookup x = some .local := by first | exact .inl rfl | exact .inr rfl | assumption) :
    DS C W X (.Assign [.Name x pos'] a pos) (asgS (nmG i) fa) := by
  refine PS.imp (ps_set hN hi hx he hs hf) ?_
  rintro N σ H ⟨ρ, g, m, re, rm, h⟩
  refine ⟨ρ, g, m, re, rm, h.bind.imp fun d m1 ρ1 H1 x1 rm1 h1 v r => ?_⟩
  exact fin.now rm1 h1 _ ((re.ext x1).set r i)
theorem ds_par {i j : Nat} {x y : Str} {px py pt : Pos} {kt k2 pt2} (hc : X.calm = true) (hN : X.N.Nodup) (hi : X.N[i]? = some x) (hj : X.N[j]? = some y) (hij : i ≠ j)
    (hx : X.env.scope.names.lookup x = some .local) (hy : X.env.scope.names.lookup y = some .local) (ha : DE C W X a fa) (hb : DE C W X b fb)
    (hw : swappedStores [.Tuple [.Name x px, .Name y py] kt pt] (.Tuple [a, b] k2 pt2) X.env = pure (some [x, y]))
    (hs : swapsWithSole [.Tuple [.Name x px, .Name y py] kt pt] (.Tuple [a, b] k2 pt2) pos.line X.env = pure false := by rfl)
    (s1 : starEach (a :: [b]) X.env = (false, eval a X.env) :: starEach [b] X.env := by rfl) (s2 : starEach (b :: []) X.env = (false, eval b X.env) :: starEach [] X.env := by rfl) :
    DS C W X (.Assign [.Tuple [.Name x px, .Name y py] kt pt] (.Tuple [a, b] k2 pt2) pos) (parS i j fa fb) := by
  refine PS.imp (ps_par hc hN hi hj hij hx hy (da_cons ha (da_cons hb da_nil s2) s1) hw hs) ?_
  rintro N σ H ⟨ρ, g, m, re, rm, h⟩
  refine ⟨ρ, g, m, re, rm, ?_⟩
  have h' := h.bind
  show fin C ρ H W ((fa g m).bind fun x m1 => ((fb g m1).bind fun y m2 => (R.ok [] m2).bind fun xs m3 => .ok (y :: xs) m3).bind fun xs m2 => .ok (x :: xs) m2) _
  cases e : fa g m with
  | bad => rw [e] at h'; exact h'
  | exc c m => rw [e] at h'; exact h'
  | ok d m1 =>
    rw [e] at h'
    show fin C ρ H W (((fb g m1).bind fun y m2 => (R.ok [] m2).bind fun xs m3 => .ok (y :: xs) m3).bind fun xs m2 => .ok (d :: xs) m2) _
    have h2 : fin C ρ H W ((fb g m1).bind fun y m2 => .ok (.nx ((g.set i (some d)).set j (some y))) m2) (outK C N) := by
      have h3 := h
      simp only [parS] at h3
      rw [e] at h3
      exact h3
    have h4 := h2.bind
    cases e2 : fb g m1 with
    | bad => rw [e2] at h4; exact h4
    | exc c m => rw [e2] at h4; exact h4
    | ok d2 m2 =>
      rw [e2] at h4
      intro ρ1 H1 x1 rm1 vs rl
      simp only [RepL] at rl
      obtain ⟨v, r, rfl, r1, w, r', rfl, r2, rfl⟩ := rl
      exact ⟨v, w, rfl, fin.now rm1 (h4 ρ1 H1 x1 rm1) _ (((re.ext x1).set r1 i).set r2 j)⟩

/-! ### loops -/
theorem ds_for {te iter : Expr} {body : List Stmt} {fi : Ar} {fb : Sm} (hp : PassesOwn (model X.prog X.w) X.A X.env X.xe) (hc : X.calm = true) (hi : DI C W X te iter fi) (hg : DG C W X te tg) (hb : DSs C W X body fb)
    (hs : ∀ x, foldedSetIterable iter X.env x = pure x := by intro _; rfl) : DS C W X (.For te iter body [] pos) (forS fi tg fb) := by
  refine PS.imp (ps_for hp hc hi hg hb hs) ?_
  rintro N σ H ⟨ρ, g, m, re, rm, h⟩
  refine ⟨ρ, g, m, re, rm, h.bind.imp fun ds m1 ρ1 H1 x1 rm1 h1 J wk => ?_⟩
  refine ⟨fun i k σ' H' => k = ds.length - i ∧ i ≤ ds.length ∧ ∃ ρ' g' m', Ext ρ1 H1 ρ' H' ∧ RepE C ρ' H' g' σ' ∧ RepM C ρ' H' m' ∧ fin C ρ' H' W (forL tg fb (ds.drop i) g' m') (outK C N),
    ⟨ds.length, by simp, Nat.zero_le _, ρ1, g, m1, .refl _ _, re.ext x1, rm1, h1⟩, ?_⟩
  rintro i k σ' H' ⟨rfl, hi, ρ', g', m', x', re', rm', h'⟩
  obtain ⟨w1, w2⟩ := wk ρ' H' i m' x' rm'
  by_cases hlt : i < ds.length
  · obtain ⟨go, yl⟩ := w2 ds[i] (List.getElem?_eq_getElem hlt)
    rw [List.drop_eq_getElem_cons hlt] at h'
    refine .inr ⟨go, fun σ2 H2 => ∃ ρ2 g2 m2, Ext ρ1 H1 ρ2 H2 ∧ RepE C ρ2 H2 g2 σ2 ∧ RepM C ρ2 H2 m2 ∧ fin C ρ2 H2 W (forL tg fb (ds.drop (i + 1)) g2 m2) (outK C N),
      fun σ2 H2 ⟨ρ2, g2, m2, q⟩ => ⟨ds.length - (i + 1), by omega, rfl, hlt, ρ2, g2, m2, q⟩, fun v H2 y => ?_⟩
    obtain ⟨sm, rv⟩ := yl v H2 y
    have xs : Ext ρ' H' ρ' H2 := .of_same sm
    refine ⟨ρ', g', m', ds[i], re'.ext xs, rm'.same sm, rv, (fin.bind (fin.ext xs h')).imp fun g2 m2 ρ2 H3 x3 rm3 h3 σ3 re3 => ?_⟩
    refine ⟨ρ2, g2, m2, re3, rm3, (fin.bind h3).imp fun o m4 ρ4 H4 x4 rm4 h4 => ?_⟩
    have x5 : Ext ρ1 H1 ρ4 H4 := x'.trans (xs.trans (x3.trans x4))
    cases o with
    | nx g4 => exact fun σ4 re4 => ⟨ρ4, g4, m4, x5, re4, rm4, h4⟩
    | ct g4 => exact fun σ4 re4 => ⟨ρ4, g4, m4, x5, re4, rm4, h4⟩
    | bk g4 => exact fun σ4 re4 => fin.now rm4 h4 σ4 re4
    | rt d => exact (fin.now (W := W) (k := outK C N) rm4 h4 : outK C N (.rt d) m4 ρ4 H4)
  · have e : i = ds.length := by omega
    refine .inl ⟨w1 e, ?_⟩
    rw [e, List.drop_length] at h'
    exact fin.now rm' h' σ' re'
theorem ds_while {body : List Stmt} {fb : Sm} {n : Nat} (hp : PassesOwn (model X.prog X.w) X.A X.env X.xe) (hc : DT C W X c t) (hb : DSs C W X body fb) : DS C W X (.While c body [] pos) (whileS n t fb) := by
  refine PS.imp (ps_while hp hc hb) ?_
  rintro N σ H ⟨ρ, g, m, re, rm, h⟩
  refine ⟨fun k σ' H' => ∃ ρ' g' m', RepE C ρ' H' g' σ' ∧ RepM C ρ' H' m' ∧ fin C ρ' H' W (whileL t fb k g' m') (outK C N), ⟨n, ρ, g, m, re, rm, h⟩, ?_⟩
  rintro k σ' H' ⟨ρ', g', m', re', rm', h'⟩
  cases k with
  | zero => exact h'.elim
  | succ k =>
    refine ⟨ρ', g', m', re', rm', (fin.bind h').imp fun x m1 ρ1 H1 x1 rm1 h1 => ?_⟩
    cases x with
    | false => exact iteF (fin.now rm1 h1 σ' (re'.ext x1))
    | true =>
      refine iteT ⟨fun σ2 H2 => ∃ ρ2 g2 m2, RepE C ρ2 H2 g2 σ2 ∧ RepM C ρ2 H2 m2 ∧ fin C ρ2 H2 W (whileL t fb k g2 m2) (outK C N), fun σ2 H2 q => ⟨k, Nat.lt_succ_self _, q⟩, ?_⟩
      refine ⟨ρ1, g', m1, re'.ext x1, rm1, (fin.bind h1).imp fun o m4 ρ4 H4 x4 rm4 h4 => ?_⟩
      cases o with
      | nx g4 => exact fun σ4 re4 => ⟨ρ4, g4, m4, re4, rm4, h4⟩
      | ct g4 => exact fun σ4 re4 => ⟨ρ4, g4, m4, re4, rm4, h4⟩
      | bk g4 => exact fun σ4 re4 => fin.now rm4 h4 σ4 re4
      | rt d => exact (fin.now (W := W) (k := outK C N) rm4 h4 : outK C N (.rt d) m4 ρ4 H4)

/-! ### comprehensions -/
abbrev DTs (C : Cn) (W : XK) (X : Cx) (es : List Expr) (f : Ts) : Prop := PTs X es (tDT C W f)
theorem dts_nil : DTs C W X [] yesT := by
  refine ⟨fun pins s σ H Q I h => pts_nil.run pins s σ H Q I ?_⟩
  obtain ⟨ρ, g, m, re, rm, h⟩ := h
  exact fin.now rm h
theorem dts_one (h : DT C W X c t) : DTs C W X [c] t := pts_one h
theorem wipe_get (σ : St) (j : Nat) : ∀ vs : List Nat, (L2.wipe σ vs)[j]? = if j ∈ vs ∧ j < σ.length then some none else σ[j]?
  | [] => by simp [L2.wipe]
  | v :: vs => by
    show ((L2.wipe σ vs).set v none)[j]? = _
    by_cases h : v = j
    · subst h
      by_cases hl : v < σ.length
      · rw [List.getElem?_set_self (by rw [wipe_length]; exact hl), if_pos ⟨by simp, hl⟩]
      · rw [List.getElem?_eq_none (by rw [List.length_set, wipe_length]; omega), if_neg (fun z => hl z.2), List.getElem?_eq_none (by omega)]
    · rw [List.getElem?_set_ne h, wipe_get σ j vs]
      have e : (j ∈ v :: vs ∧ j < σ.length) ↔ (j ∈ vs ∧ j < σ.length) := by
        constructor
        · rintro ⟨h1, h2⟩
          rcases List.mem_cons.mp h1 with z | z
          · exact absurd z.symm h
          · exact ⟨z, h2⟩
        · rintro ⟨h1, h2⟩
          exact ⟨List.mem_cons_of_mem _ h1, h2⟩
      simp only [e]
theorem wipe_same {σ τ : St} {own : List Nat} (hl : σ.length = τ.length) (h : ∀ j, j ∉ own → σ[j]? = τ[j]?) : L2.wipe σ own = L2.wipe τ own := by
  apply List.ext_getElem?
  intro j
  rw [wipe_get, wipe_get, hl]
  by_cases hj : j ∈ own
  · by_cases h2 : j < τ.length
    · rw [if_pos ⟨hj, h2⟩, if_pos ⟨hj, h2⟩]
    · rw [if_neg (fun z => h2 z.2), if_neg (fun z => h2 z.2), List.getElem?_eq_none (by omega), List.getElem?_eq_none (by omega)]
  · rw [if_neg (fun z => hj z.1), if_neg (fun z => hj z.1), h j hj]
/-- a target of names alone, in a comprehension's block: which slots it stores -/
def TgX (C : Cn) (own : List Nat) (g0 : TG) (f : Tg) : Prop := ∀ ρ H (m : Mem) d v g σ, RepV C ρ H d v → RepE C ρ H g σ →
  match f d g m with
  | .ok g' m' => m' = m ∧ ∃ σ', RepE C ρ H g' σ' ∧ σ'.length = σ.length ∧ (∀ j, j ∉ own → σ'[j]? = σ[j]?) ∧ ∀ Q : St → Hp → Prop, Q σ' H → g0 v σ H Q
  | .exc _ _ => False
  | .bad => True
theorem tx_name {i : Nat} {own : List Nat} (hi : i ∈ own) : TgX C own (gName i) (nmG i) := by
  intro ρ H m d v g σ rv re
  refine ⟨rfl, σ.set i (some v), re.set rv i, by simp, fun j hj => ?_, fun Q q => q⟩
  rw [List.getElem?_set_ne (fun e : i = j => hj (by rw [← e]; exact hi))]
def TgsX (C : Cn) (own : List Nat) (n : Nat) (g0 : TGs) (f : Gs) : Prop := ∀ ρ H (m : Mem) ds vs g σ, RepL C ρ H ds vs → RepE C ρ H g σ →
  match f ds g m with
  | .ok g' m' => m' = m ∧ ds.length = n ∧ ∃ σ', RepE C ρ H g' σ' ∧ σ'.length = σ.length ∧ (∀ j, j ∉ own → σ'[j]? = σ[j]?) ∧ ∀ Q : St → Hp → Prop, Q σ' H → g0 vs σ H Q
  | .exc _ _ => False
  | .bad => True
theorem txs_nil {own : List Nat} : TgsX C own 0 gNil nilG := by
  intro ρ H m ds vs g σ rl re
  cases ds with
  | nil => exact ⟨rfl, rfl, σ, re, rfl, fun _ _ => rfl, fun Q q => ⟨by simpa only [RepL] using rl, q⟩⟩
  | cons d ds => trivial
theorem txs_cons {own : List Nat} {n : Nat} {t0 : TG} {u0 : TGs} {tgs : Gs} (h1 : TgX C own t0 tg) (h2 : TgsX C own n u0 tgs) : TgsX C own (n + 1) (gCons t0 u0) (consG tg tgs) := by
  intro ρ H m ds vs g σ rl re
  cases ds with
  | nil => trivial
  | cons d ds =>
    simp only [RepL] at rl
    obtain ⟨v, r, rfl, r1, r2⟩ := rl
    have a := h1 ρ H m d v g σ r1 re
    simp only [consG]
    cases q : tg d g m with
    | bad => trivial
    | exc c m' => rw [q] at a; exact a.elim
    | ok g1 m1 =>
      rw [q] at a
      obtain ⟨rfl, σ1, re1, l1, k1, c1⟩ := a
      have b := h2 ρ H m1 ds r g1 σ1 r2 re1
      simp only [R.bind_ok]
      cases q2 : tgs ds g1 m1 with
      | bad => trivial
      | exc c m' => rw [q2] at b; exact b.elim
      | ok g2 m2 =>
        rw [q2] at b
        obtain ⟨rfl, hn, σ2, re2, l2, k2, c2⟩ := b
        exact ⟨rfl, by rw [List.length_cons, hn], σ2, re2, l2.trans l1, fun j hj => (k2 j hj).trans (k1 j hj), fun Q q => ⟨v, r, rfl, c1 _ (c2 _ q)⟩⟩
theorem tx_tup {own : List Nat} {n : Nat} {u0 : TGs} {tgs : Gs} (h : TgsX C own n u0 tgs) : TgX C own (gTup C.K n u0) (tupG tgs) := by
  intro ρ H m d v g σ rv re
  cases d with
  | tup ds =>
    obtain ⟨a, xs, e, sq, rl⟩ := rv.tup_sq
    have b := h ρ H m ds xs g σ rl re
    show match tgs ds g m with | .ok g' m' => _ | .exc _ _ => _ | .bad => _
    cases q : tgs ds g m with
    | bad => trivial
    | exc c m' => rw [q] at b; exact b.elim
    | ok g2 m2 =>
      rw [q] at b
      obtain ⟨rfl, hn, σ2, re2, l2, k2, c2⟩ := b
      exact ⟨rfl, σ2, re2, l2, k2, fun Q q => ⟨a, xs, e, sq, by rw [← rl.length]; exact hn, c2 Q q⟩⟩
  | _ => trivial
/-- a list that a comprehension is making is hidden -/
def Rho.hide (ρ : Rho) (a : Addr) : Rho := ⟨ρ.l, a :: ρ.z⟩
def Rho.show (ρ : Rho) (a : Addr) : Rho := ⟨ρ.l, ρ.z.filter fun b => decide (b ≠ a)⟩
theorem lives_hide {ρ : Rho} {a b : Addr} : lives (ρ.hide a) b ↔ b = a ∨ lives ρ b := by
  unfold lives Rho.hide
  simp only [List.mem_cons]
  constructor
  · rintro (h | h | h)
    · exact .inr (.inl h)
    · exact .inl h
    · exact .inr (.inr h)
  · rintro (h | h | h)
    · exact .inr (.inl h)
    · exact .inl h
    · exact .inr (.inr h)
theorem lives_show {ρ : Rho} {a b : Addr} : lives (ρ.show a) b ↔ (b, true) ∈ ρ.l ∨ (b ∈ ρ.z ∧ b ≠ a) := by
  unfold lives Rho.show
  simp [List.mem_filter]
theorem ext_hide {ρ : Rho} {H : Hp} {a : Addr} {o : HO} (h : H a = none) : Ext ρ H (ρ.hide a) (upd H a o) := by
  refine ⟨fun n x q => q, fun b u p n r => ?_, fun b u p n r => ?_, fun b o' z q => ⟨List.mem_cons_of_mem _ z, by rw [upd_ne (ne_of_none q h)]; exact q⟩, (Ext.of_same (ρ := ρ) (same_upd h)).there⟩
  · refine ⟨fun hl => ?_, same_upd h _ _ r⟩
    rcases lives_hide.mp hl with e | e
    · subst e
      rw [h] at r; cases r
    · exact n e
  · refine ⟨fun hl => ?_, Rd.same (same_upd h) r⟩
    rcases lives_hide.mp hl with e | e
    · subst e
      rcases r with r | ⟨_, r⟩ <;> (rw [h] at r; cases r)
    · exact n e
/-- the hidden list grows: nothing that is told speaks of it -/
theorem ext_grow {ρ1 ρ : Rho} {H1 H : Hp} {a : Addr} {o : HO} (x : Ext ρ1 H1 ρ H) (h1 : H1 a = none) (hz : a ∈ ρ.z) : Ext ρ1 H1 ρ (upd H a o) := by
  have na : ∀ b u, Rd H1 b u → b ≠ a := fun b u r e => by
    subst e
    rcases r with r | ⟨_, r⟩ <;> (rw [h1] at r; cases r)
  refine ⟨x.pre, fun b u p n r => ?_, fun b u p n r => ?_, fun b o' z q => ?_, fun b hb => ?_⟩
  · obtain ⟨n', r'⟩ := x.keep b u p n r
    exact ⟨n', by rw [upd_ne (ne_of_none r h1)]; exact r'⟩
  · obtain ⟨n', r'⟩ := x.keepD b u p n r
    refine ⟨n', ?_⟩
    have ne := na b u r
    rcases r' with r' | ⟨ob, r'⟩
    · exact .inl (by rw [upd_ne ne]; exact r')
    · exact .inr ⟨ob, by rw [upd_ne ne]; exact r'⟩
  · obtain ⟨z', q'⟩ := x.lx b o' z q
    exact ⟨z', by rw [upd_ne (ne_of_none q h1)]; exact q'⟩
  · by_cases e : b = a
    · subst e; exact absurd h1 hb
    · rw [upd_ne e]; exact x.there b hb
mutual
theorem RepV.grow {ρ : Rho} {H : Hp} {a : Addr} {o : HO} (hz : a ∈ ρ.z) : ∀ {d : D} {v : V}, RepV C ρ H d v → RepV C ρ (upd H a o) d v
  | .non, _, h => h
  | .bl _, _, h => h
  | .int _, _, h => h
  | .str _, _, h => h
  | .tup ds, v, h => by
    simp only [RepV] at h ⊢
    obtain ⟨b, xs, e, h1, h2⟩ := h
    refine ⟨b, xs, e, ?_, RepL.grow hz h2⟩
    rcases h1 with ⟨n, r⟩ | k
    · have ne : b ≠ a := fun e => n (.inr (e ▸ hz))
      exact .inl ⟨n, by unfold Rd; rw [upd_ne ne]; exact r⟩
    · exact .inr k
  | .tpx ds, v, h => by
    simp only [RepV] at h ⊢
    obtain ⟨b, xs, o', e, n, r, hd, h2⟩ := h
    have ne : b ≠ a := fun e => n (.inr (e ▸ hz))
    exact ⟨b, xs, o', e, n, by rw [upd_ne ne]; exact r, hd, RepL.grow hz h2⟩
  | .lst ds, v, h => by
    simp only [RepV] at h ⊢
    obtain ⟨b, xs, e, n, r, h2⟩ := h
    have ne : b ≠ a := fun e => n (.inr (e ▸ hz))
    exact ⟨b, xs, e, n, by rw [upd_ne ne]; exact r, RepL.grow hz h2⟩
  | .scr ns, v, h => by
    simp only [RepV] at h ⊢
    obtain ⟨b, e, h1⟩ := h
    refine ⟨b, e, ?_⟩
    rcases h1 with ⟨n, ob, r⟩ | k
    · have ne : b ≠ a := fun e => n (.inr (e ▸ hz))
      exact .inl ⟨n, ob, by rw [upd_ne ne]; exact r⟩
    · exact .inr k
  | .dct ks vs, v, h => by
    simp only [RepV] at h ⊢
    obtain ⟨b, xs, e, n, h2, h3⟩ := h
    have ne : b ≠ a := fun e => n (.inr (e ▸ hz))
    have rd : ∀ u, Rd H b u → Rd (upd H a o) b u := fun u r => by
      rcases r with r | ⟨ob, r⟩
      · exact .inl (by rw [upd_ne ne]; exact r)
      · exact .inr ⟨ob, by rw [upd_ne ne]; exact r⟩
    obtain ⟨kk, l, ek, r⟩ := h3
    exact ⟨b, xs, e, n, RepL.grow hz h2, kk, l, ek, rd _ r⟩
  | .gdz ks vs, v, h => by
    simp only [RepV] at h ⊢
    obtain ⟨b, ob, zs, vv, e, n, q, h1, h2, h3, h4⟩ := h
    have ne : b ≠ a := fun e => n (.inr (e ▸ hz))
    exact ⟨b, ob, zs, vv, e, n, by rw [upd_ne ne]; exact q, h1, h2, RepL.grow hz h3, RepL.grow hz h4⟩
  | .ref n, v, h => h
  | .ty _, _, h => h
  | .fn _, _, h => h
  | .exc _, _, h => h
theorem RepL.grow {ρ : Rho} {H : Hp} {a : Addr} {o : HO} (hz : a ∈ ρ.z) : ∀ {ds : List D} {vs : List V}, RepL C ρ H ds vs → RepL C ρ (upd H a o) ds vs
  | [], _, h => h
  | d :: ds, vs, h => by
    simp only [RepL] at h ⊢
    obtain ⟨v, r, e, h1, h2⟩ := h
    exact ⟨v, r, e, RepV.grow hz h1, RepL.grow hz h2⟩
end
theorem RepO.grow {ρ : Rho} {H : Hp} {a b : Addr} {o : HO} {l : Bool} (hz : a ∈ ρ.z) (ne : l = true → b ≠ a) : ∀ {u : MO}, RepO C ρ H b l u → RepO C ρ (upd H a o) b l u
  | .lst ds, h => by
    obtain ⟨e, xs, q, r⟩ := h
    exact ⟨e, xs, by rw [upd_ne (ne e)]; exact q, r.grow hz⟩
  | .dct ks vs, h => by
    obtain ⟨e, xs, r, h⟩ := h
    refine ⟨e, xs, r.grow hz, ?_⟩
    rcases h with ⟨kk, l, ek, q⟩ | ⟨kk, l, ek, q⟩
    · exact .inl ⟨kk, l, ek, by rw [upd_ne (ne e)]; exact q⟩
    · exact .inr ⟨kk, l, ek, by rw [upd_ne (ne e)]; exact q⟩
  | .ins c fs, h => by
    obtain ⟨e, Cc, dx, vs, h1, h2, h3, h4⟩ := h
    exact ⟨e, Cc, dx, vs, h1, h2, by rw [upd_ne (ne e)]; exact h3, h4.grow hz⟩
  | .gd ks vs, h => by
    obtain ⟨e, xs, vv, h1, h2, h3, h4, h5⟩ := h
    exact ⟨e, xs, vv, by rw [upd_ne (ne e)]; exact h1, h2, h3, h4.grow hz, h5.grow hz⟩
  | .gone, h => h
theorem RepM.grow {ρ : Rho} {H : Hp} {m : Mem} {a : Addr} {o : HO} (rm : RepM C ρ H m) (hz : a ∈ ρ.z) : RepM C ρ (upd H a o) m := by
  refine ⟨rm.len, fun n b l u h1 h2 => (rm.obj n b l u h1 h2).grow hz fun e z => ?_, rm.dis, fun b hb => ⟨fun e => ?_, (rm.hid b hb).2⟩⟩
  · subst e z
    exact (rm.hid _ hz).2 (List.mem_of_getElem? h1)
  · by_cases q : b = a
    · subst q; rw [upd_same] at e; cases e
    · rw [upd_ne q] at e; exact (rm.hid b hb).1 e
/-- a new hidden list -/
theorem RepM.hide {ρ : Rho} {H : Hp} {m : Mem} {a : Addr} {o : HO} (rm : RepM C ρ H m) (h : H a = none) : RepM C (ρ.hide a) (upd H a o) m := by
  have x : Ext ρ H (ρ.hide a) (upd H a o) := ext_hide h
  refine ⟨rm.len, fun n b l u h1 h2 => ?_, rm.dis, fun b hb => ?_⟩
  · have ho := rm.obj n b l u h1 h2
    cases u with
    | lst ds =>
      obtain ⟨e, xs, q, r⟩ := ho
      exact ⟨e, xs, same_upd h _ _ q, r.ext x⟩
    | dct ks vs =>
      obtain ⟨e, xs, r, q⟩ := ho
      refine ⟨e, xs, r.ext x, ?_⟩
      rcases q with ⟨kk, l, ek, q⟩ | ⟨kk, l, ek, q⟩
      · exact .inl ⟨kk, l, ek, same_upd h _ _ q⟩
      · exact .inr ⟨kk, l, ek, same_upd h _ _ q⟩
    | ins c fs =>
      obtain ⟨e, Cc, dx, vs, h1, h2, h3, h4⟩ := ho
      exact ⟨e, Cc, dx, vs, h1, h2, same_upd h _ _ h3, h4.ext x⟩
    | gd ks vs =>
      obtain ⟨e, xs, vv, h1, h2, h3, h4, h5⟩ := ho
      exact ⟨e, xs, vv, same_upd h _ _ h1, h2, h3, h4.ext x, h5.ext x⟩
    | gone => exact ho
  · rcases List.mem_cons.mp hb with e | hb
    · subst e
      exact ⟨by rw [upd_same]; exact fun z => (nomatch z), fun z => rm.free_of h (.inl z)⟩
    · obtain ⟨h1, h2⟩ := rm.hid b hb
      exact ⟨by rw [upd_ne (fun e => by subst e; exact h1 h)]; exact h1, h2⟩
/-- shown again -/
theorem ext_show {ρ1 ρ : Rho} {H1 H : Hp} {a : Addr} (x : Ext ρ1 H1 ρ H) (h1 : H1 a = none) : Ext ρ1 H1 (ρ.show a) H := by
  refine ⟨x.pre, fun b u p n r => ?_, fun b u p n r => ?_, fun b o z q => ?_, x.there⟩
  · obtain ⟨n', r'⟩ := x.keep b u p n r
    exact ⟨fun hl => n' ((lives_show.mp hl).elim .inl fun z => .inr z.1), r'⟩
  · obtain ⟨n', r'⟩ := x.keepD b u p n r
    exact ⟨fun hl => n' ((lives_show.mp hl).elim .inl fun z => .inr z.1), r'⟩
  · obtain ⟨z', q'⟩ := x.lx b o z q
    exact ⟨List.mem_filter.mpr ⟨z', decide_eq_true (ne_of_none q h1)⟩, q'⟩
theorem show_ext {ρ : Rho} {H : Hp} {a : Addr} {d : D} {v : V} (h : RepV C ρ H d v) : RepV C (ρ.show a) H d v := by
  have mono : ∀ b, lives (ρ.show a) b → lives ρ b := fun b hl => (lives_show.mp hl).elim .inl fun z => .inr z.1
  exact weak mono (fun _ _ q => q) h
where
  weak {ρ ρ' : Rho} {H : Hp} (mono : ∀ b, lives ρ' b → lives ρ b) (pre : ∀ n b, adr ρ n b → adr ρ' n b) : ∀ {d : D} {v : V}, RepV C ρ H d v → RepV C ρ' H d v
    | .non, _, h => h
    | .bl _, _, h => h
    | .int _, _, h => h
    | .str _, _, h => h
    | .tup ds, v, h => by
      simp only [RepV] at h ⊢
      obtain ⟨b, xs, e, h1, h2⟩ := h
      exact ⟨b, xs, e, h1.imp (fun ⟨n, r⟩ => ⟨fun l => n (mono _ l), r⟩) fun k => k, weakL mono pre h2⟩
    | .tpx ds, v, h => by
      simp only [RepV] at h ⊢
      obtain ⟨b, xs, o, e, n, r, hd, h2⟩ := h
      exact ⟨b, xs, o, e, fun l => n (mono _ l), r, hd, weakL mono pre h2⟩
    | .lst ds, v, h => by
      simp only [RepV] at h ⊢
      obtain ⟨b, xs, e, n, r, h2⟩ := h
      exact ⟨b, xs, e, fun l => n (mono _ l), r, weakL mono pre h2⟩
    | .scr ns, v, h => by
      simp only [RepV] at h ⊢
      obtain ⟨b, e, h1⟩ := h
      exact ⟨b, e, h1.imp (fun ⟨n, r⟩ => ⟨fun l => n (mono _ l), r⟩) fun k => k⟩
    | .dct ks vs, v, h => by
      simp only [RepV] at h ⊢
      obtain ⟨b, xs, e, n, h2, h3⟩ := h
      exact ⟨b, xs, e, fun l => n (mono _ l), weakL mono pre h2, h3⟩
    | .gdz ks vs, v, h => by
      simp only [RepV] at h ⊢
      obtain ⟨b, ob, zs, vv, e, n, q, h1, h2, h3, h4⟩ := h
      exact ⟨b, ob, zs, vv, e, fun l => n (mono _ l), q, h1, h2, weakL mono pre h3, weakL mono pre h4⟩
    | .ref n, v, h => by
      simp only [RepV] at h ⊢
      obtain ⟨b, e, q⟩ := h
      exact ⟨b, e, pre n b q⟩
    | .ty _, _, h => h
    | .fn _, _, h => h
    | .exc _, _, h => h
  weakL {ρ ρ' : Rho} {H : Hp} (mono : ∀ b, lives ρ' b → lives ρ b) (pre : ∀ n b, adr ρ n b → adr ρ' n b) : ∀ {ds : List D} {vs : List V}, RepL C ρ H ds vs → RepL C ρ' H ds vs
    | [], _, h => h
    | d :: ds, vs, h => by
      simp only [RepL] at h ⊢
      obtain ⟨v, r, e, h1, h2⟩ := h
      exact ⟨v, r, e, weak mono pre h1, weakL mono pre h2⟩
theorem show_extL {ρ : Rho} {H : Hp} {a : Addr} {ds : List D} {vs : List V} (h : RepL C ρ H ds vs) : RepL C (ρ.show a) H ds vs := by
  have mono : ∀ b, lives (ρ.show a) b → lives ρ b := fun b hl => (lives_show.mp hl).elim .inl fun z => .inr z.1
  exact show_ext.weakL mono (fun _ _ q => q) h
theorem RepM.show {ρ : Rho} {H : Hp} {m : Mem} {a : Addr} (rm : RepM C ρ H m) : RepM C (ρ.show a) H m := by
  refine ⟨rm.len, fun n b l u h1 h2 => ?_, rm.dis, fun b hb => rm.hid b (List.mem_filter.mp hb).1⟩
  have ho := rm.obj n b l u h1 h2
  cases u with
  | lst ds =>
    obtain ⟨e, xs, q, r⟩ := ho
    exact ⟨e, xs, q, show_extL r⟩
  | dct ks vs =>
    obtain ⟨e, xs, r, q⟩ := ho
    exact ⟨e, xs, show_extL r, q⟩
  | ins c fs =>
    obtain ⟨e, Cc, dx, vs, h1, h2, h3, h4⟩ := ho
    exact ⟨e, Cc, dx, vs, h1, h2, h3, show_extL h4⟩
  | gd ks vs =>
    obtain ⟨e, xs, vv, h1, h2, h3, h4, h5⟩ := ho
    exact ⟨e, xs, vv, h1, h2, h3, show_extL h4, show_extL h5⟩
  | gone => exact ho
/-- by what comes of the first part, all told from one base -/
theorem fin.from {α β : Type} {ρ1 ρ' : Rho} {H1 H' : Hp} {r : R α} {g : α → Mem → R β} {k : β → Mem → Rho → Hp → Prop} {k' : α → Mem → Rho → Hp → Prop} (h : fin C ρ1 H1 W (r.bind g) k) (x : Ext ρ1 H1 ρ' H')
    (f : ∀ a m, fin C ρ1 H1 W (g a m) k → ∀ ρ2 H2, Ext ρ' H' ρ2 H2 → RepM C ρ2 H2 m → k' a m ρ2 H2) : fin C ρ' H' W r k' := by
  cases r with
  | bad => exact h
  | exc c m => exact fun ρ2 H2 x2 rm2 => h ρ2 H2 (x.trans x2) rm2
  | ok a m => exact fun ρ2 H2 x2 rm2 => f a m h ρ2 H2 x2 rm2
theorem lc_of {fi : Ar} {fe : Ex} {own : List Nat} {g0 : TG} (tx : TgX C own g0 tg) (σ : St) (H : Hp) (Q : VK) (h : tD C W (lcE fi own tg t fe) σ H Q) :
    tLc (tDI C W fi) g0 (tDT C W t) (tD C W fe) own σ H Q := by
  obtain ⟨ρ, g, m, re, rm, h⟩ := h
  refine ⟨ρ, g, m, re, rm, h.bind.imp fun ds m1 ρ1 H1 x1 rm1 h1 J wk L hL => ?_⟩
  by_cases hz : ds.length ≤ lim
  case neg => rw [if_neg hz] at h1; exact h1.elim
  rw [if_pos hz] at h1
  have hz' : ds.length ≤ sizeLine := by rw [← lim_eq]; exact hz
  have w0 := (re.ext x1).wipe own
  have x0 : Ext ρ1 H1 (ρ1.hide L) (upd H1 L (.lst [])) := ext_hide hL
  refine ⟨fun i k H' => k = ds.length - i ∧ i ≤ ds.length ∧ ∃ (ρ' : Rho) (m' : Mem) (acc : List D) (xs : List V), Ext ρ1 H1 ρ' H' ∧ L ∈ ρ'.z ∧ H' L = some (.lst xs) ∧ acc.length ≤ i ∧ RepL C ρ' H' acc xs ∧ RepM C ρ' H' m' ∧
      fin C ρ1 H1 W ((lcL tg t fe (wipeD g own) (ds.drop i) m').bind fun ys m2 => .ok (D.lst (acc ++ ys)) m2) (fun d m2 ρ2 H2 => ∀ v, RepV C ρ2 H2 d v → Q v H2),
    ⟨ds.length, by simp, Nat.zero_le _, ρ1.hide L, m1, [], [], x0, List.mem_cons_self, upd_same, Nat.zero_le _, by simp only [RepL], rm1.hide hL, h1⟩, ?_⟩
  rintro i k H' ⟨rfl, hi, ρ', m', acc, xs, x', hLz, hLx, hac, rl, rm', h'⟩
  obtain ⟨w1, w2⟩ := wk ρ' H' i m' x' rm'
  by_cases hlt : i < ds.length
  · obtain ⟨go, yl⟩ := w2 ds[i] (List.getElem?_eq_getElem hlt)
    rw [List.drop_eq_getElem_cons hlt] at h'
    refine .inr ⟨go, fun H2 => ∃ (ρ2 : Rho) (m2 : Mem) (acc2 : List D) (xs2 : List V), Ext ρ1 H1 ρ2 H2 ∧ L ∈ ρ2.z ∧ H2 L = some (.lst xs2) ∧ acc2.length ≤ i + 1 ∧ RepL C ρ2 H2 acc2 xs2 ∧ RepM C ρ2 H2 m2 ∧
      fin C ρ1 H1 W ((lcL tg t fe (wipeD g own) (ds.drop (i + 1)) m2).bind fun ys m2 => .ok (D.lst (acc2 ++ ys)) m2) (fun d m2 ρ2 H2 => ∀ v, RepV C ρ2 H2 d v → Q v H2),
      fun H2 q => ⟨ds.length - (i + 1), by omega, rfl, hlt, q⟩, fun v H2 y => ?_⟩
    obtain ⟨sm, rv⟩ := yl v H2 y
    have xs' : Ext ρ' H' ρ' H2 := .of_same sm
    have re' := w0.ext (x'.trans xs')
    have a := tx ρ' H2 m' ds[i] v (wipeD g own) (L2.wipe σ own) rv re'
    simp only [lcL] at h'
    cases q : tg ds[i] (wipeD g own) m' with
    | bad => rw [q] at h'; exact h'.elim
    | exc c m2 => rw [q] at a; exact a.elim
    | ok g2 m2 =>
      rw [q] at a h'
      obtain ⟨e2, σ2, re2, l2, k2, c2⟩ := a
      subst e2
      have rm2 := rm'.same sm
      simp only [R.bind_ok] at h'
      have asc : ∀ {α β γ : Type} (r : R α) (f : α → Mem → R β) (f' : β → Mem → R γ), (r.bind f).bind f' = r.bind fun a m => (f a m).bind f' := fun r f f' => by cases r <;> rfl
      rw [asc] at h'
      refine c2 _ ⟨?_, ρ', g2, m2, re2, rm2, fin.from h' (x'.trans xs') fun b m4 h4 ρ4 H4 x4 rm4 => ?_⟩
      · rw [wipe_same l2 k2]
        exact (wipe_same (by rw [wipe_length]) fun j hj => by rw [wipe_get, if_neg (fun z => hj z.1)])
      have xa : Ext ρ' H' ρ4 H4 := xs'.trans x4
      cases b with
      | false =>
        obtain ⟨z4, e4⟩ := xa.lx L _ hLz hLx
        exact iteF ⟨ρ4, m4, acc, xs, x'.trans xa, z4, e4, Nat.le_succ_of_le hac, rl.ext xa, rm4, h4⟩
      | true =>
        simp only [if_true] at h4
        rw [asc] at h4
        refine iteT ⟨ρ4, g2, m4, re2.ext x4, rm4, fin.from h4 (x'.trans xa) fun y5 m5 h5 ρ5 H5 x5 rm5 v5 rv5 => ?_⟩
        have xb : Ext ρ' H' ρ5 H5 := xa.trans x5
        obtain ⟨z5, e5⟩ := xb.lx L _ hLz hLx
        have lx : xs.length = acc.length := rl.length.symm
        refine ⟨xs, e5, by omega, ρ5, m5, acc ++ [y5], xs ++ [v5], ext_grow (x'.trans xb) hL z5, z5, upd_same, by simp; omega, ?_, rm5.grow z5, ?_⟩
        · refine RepL.append ((rl.ext xb).grow z5) ?_
          simp only [RepL]
          exact ⟨v5, [], rfl, rv5.grow z5, rfl⟩
        · rw [asc] at h5
          simp only [R.bind_ok] at h5
          simpa only [List.append_assoc, List.singleton_append] using h5
  · have e : i = ds.length := by omega
    refine .inl ⟨w1 e, ?_⟩
    rw [e, List.drop_length] at h'
    simp only [lcL, R.bind_ok, List.append_nil] at h'
    refine h' (ρ'.show L) H' (ext_show x' hL) rm'.show _ ?_
    simp only [RepV]
    refine ⟨L, xs, rfl, fun hl => ?_, hLx, show_extL rl⟩
    rcases lives_show.mp hl with z | z
    · exact (rm'.hid L hLz).2 z
    · exact z.2 rfl
theorem de_lc {elt te iter : Expr} {ifs : List Expr} {scope : Scope} {own : List (Str × Nat)} {g0 : TG} {fi : Ar} {fe : Ex} (hc : X.calm = true) (hN : X.N.Nodup) (hi : DI C W X te iter fi) (ok : BlkOk X.N X.env.scope scope own) (tx : TgX C (own.map (·.2)) g0 tg)
    (hg : ∀ (s : Shared) (H : Hp) (c : Addr) (cl : List (Str × Addr)) (fp : List Addr), PG (X.blk s H scope (compEnvC scope cl c X.env) fp) te g0) (ht : ∀ (s : Shared) (H : Hp) (c : Addr) (cl : List (Str × Addr)) (fp : List Addr), DTs C W (X.blk s H scope (compEnvC scope cl c X.env) fp) ifs t)
    (he : ∀ (s : Shared) (H : Hp) (c : Addr) (cl : List (Str × Addr)) (fp : List Addr), DE C W (X.blk s H scope (compEnvC scope cl c X.env) fp) elt fe) (hs : ∀ x, foldedSetIterable iter X.env x = pure x := by intro _; rfl) :
    DE C W X (.ListComp elt [⟨te, iter, ifs, 0⟩] scope pos) (lcE fi (own.map (·.2)) tg t fe) :=
  PE.imp (pe_lc hc hN hi ok hg ht he hs) (lc_of tx)
theorem ds_setLc {i : Nat} {y : Str} {py : Pos} {elt te iter : Expr} {ifs : List Expr} {scope : Scope} {own : List (Str × Nat)} {spos : Pos} {g0 : TG} {fi : Ar} {fe : Ex} (hc : X.calm = true) (hN : X.N.Nodup) (hy : X.N[i]? = some y) (hyl : X.env.scope.names.lookup y = some .local)
    (hsw : swapsWith (.ListComp elt [⟨te, iter, ifs, 0⟩] scope pos) (some (.Name y py)) spos.line X.env = pure true) (hi : DI C W X te iter fi) (ok : BlkOk X.N X.env.scope scope own) (tx : TgX C (own.map (·.2)) g0 tg)
    (hg : ∀ (s : Shared) (H : Hp) (c : Addr) (cl : List (Str × Addr)) (fp : List Addr), PG (X.blk s H scope (compEnvC scope cl c X.env) fp) te g0) (ht : ∀ (s : Shared) (H : Hp) (c : Addr) (cl : List (Str × Addr)) (fp : List Addr), DTs C W (X.blk s H scope (compEnvC scope cl c X.env) fp) ifs t)
    (he : ∀ (s : Shared) (H : Hp) (c : Addr) (cl : List (Str × Addr)) (fp : List Addr), DE C W (X.blk s H scope (compEnvC scope cl c X.env) fp) elt fe) (hs : ∀ x, foldedSetIterable iter X.env x = pure x := by intro _; rfl) :
    DS C W X (.Assign [.Name y py] (.ListComp elt [⟨te, iter, ifs, 0⟩] scope pos) spos) (asgS (nmG i) (lcE fi (own.map (·.2)) tg t fe)) := by
  refine PS.imp (ps_setLc hc hN hy hyl hsw hi ok hg ht he hs) ?_
  rintro N σ H ⟨ρ, g, m, re, rm, h⟩
  refine lc_of tx σ H _ ⟨ρ, g, m, re, rm, (fin.bind h).imp fun d m1 ρ1 H1 x1 rm1 h1 v r => ?_⟩
  exact fin.now rm1 h1 _ ((re.ext x1).set r i)
end
end LW
/-! LwC: defs by their bodies over data, what goes at their end; things that change: made, frozen. -/
namespace LW
open PySem PySem.Spec PyProof.Rows L2
section
variable {C : Cn} {W : XK} {X : Cx} {a b c : Expr} {fa fb fc : Ex} {t : Ts} {pos : Pos}
theorem de_noX (h : DE C E0 X a fa) : DE C W X a (noX fa) := by
  refine PE.imp h ?_
  rintro σ H Q ⟨ρ, g, m, re, rm, h⟩
  refine ⟨ρ, g, m, re, rm, ?_⟩
  simp only [noX] at h
  cases q : fa g m with
  | ok d m1 => rw [q] at h; exact h
  | exc c m1 => rw [q] at h; exact h.elim
  | bad => rw [q] at h; exact h.elim
theorem dt_noX (h : DT C E0 X a t) : DT C W X a (noXT t) := by
  refine PT.imp h ?_
  rintro σ H Q ⟨ρ, g, m, re, rm, h⟩
  refine ⟨ρ, g, m, re, rm, ?_⟩
  simp only [noXT] at h
  cases q : t g m with
  | ok d m1 => rw [q] at h; exact h
  | exc c m1 => rw [q] at h; exact h.elim
  | bad => rw [q] at h; exact h.elim
theorem takes_E0 {X : Cx} : TakesK X E0 := takes0

/-! ### cutting the memory -/
def Rho.cut (ρ : Rho) (n : Nat) : Rho := ⟨ρ.l.take n, ρ.z⟩
theorem lives_cut {ρ : Rho} {n : Nat} {a : Addr} (h : lives (ρ.cut n) a) : lives ρ a := h.elim (fun h => .inl (List.mem_of_mem_take h)) .inr
mutual
theorem RepV.cut {ρ : Rho} {H : Hp} {n : Nat} : ∀ {d : D} {v : V}, d.cl n = true → RepV C ρ H d v → RepV C (ρ.cut n) H d v
  | .non, _, _, h => h
  | .bl _, _, _, h => h
  | .int _, _, _, h => h
  | .str _, _, _, h => h
  | .tup ds, v, hc, h => by
    simp only [RepV] at h ⊢
    simp only [D.cl] at hc
    obtain ⟨b, xs, e, h1, h2⟩ := h
    exact ⟨b, xs, e, h1.imp (fun ⟨n, r⟩ => ⟨fun l => n (lives_cut l), r⟩) fun k => k, RepL.cut hc h2⟩
  | .tpx ds, v, hc, h => by
    simp only [RepV] at h ⊢
    simp only [D.cl] at hc
    obtain ⟨b, xs, o, e, n, r, hd, h2⟩ := h
    exact ⟨b, xs, o, e, fun l => n (lives_cut l), r, hd, RepL.cut hc h2⟩
  | .lst ds, v, hc, h => by
    simp only [RepV] at h ⊢
    simp only [D.cl] at hc
    obtain ⟨b, xs, e, n, r, h2⟩ := h
    exact ⟨b, xs, e, fun l => n (lives_cut l), r, RepL.cut hc h2⟩
  | .scr ns, v, hc, h => by
    simp only [RepV] at h ⊢
    obtain ⟨b, e, h1⟩ := h
    exact ⟨b, e, h1.imp (fun ⟨n, r⟩ => ⟨fun l => n (lives_cut l), r⟩) fun k => k⟩
  | .dct ks vs, v, hc, h => by
    simp only [RepV] at h ⊢
    simp only [D.cl, Bool.and_eq_true] at hc
    obtain ⟨b, xs, e, n, h2, h3⟩ := h
    exact ⟨b, xs, e, fun l => n (lives_cut l), RepL.cut hc.2 h2, h3⟩
  | .gdz ks vs, v, hc, h => by
    simp only [RepV] at h ⊢
    simp only [D.cl, Bool.and_eq_true] at hc
    obtain ⟨b, ob, zs, vv, e, n, q, h1, h2, h3, h4⟩ := h
    exact ⟨b, ob, zs, vv, e, fun l => n (lives_cut l), q, h1, h2, RepL.cut hc.1 h3, RepL.cut hc.2 h4⟩
  | .ref k, v, hc, h => by
    simp only [RepV] at h ⊢
    simp only [D.cl, decide_eq_true_eq] at hc
    obtain ⟨b, e, l, q⟩ := h
    refine ⟨b, e, l, ?_⟩
    show (ρ.l.take n)[k]? = _
    rw [List.getElem?_take_of_lt hc]
    exact q
  | .ty _, _, _, h => h
  | .fn _, _, _, h => h
  | .exc _, _, _, h => h
theorem RepL.cut {ρ : Rho} {H : Hp} {n : Nat} : ∀ {ds : List D} {vs : List V}, D.clL n ds = true → RepL C ρ H ds vs → RepL C (ρ.cut n) H ds vs
  | [], _, _, h => h
  | d :: ds, vs, hc, h => by
    simp only [RepL] at h ⊢
    simp only [D.clL, Bool.and_eq_true] at hc
    obtain ⟨v, r, e, h1, h2⟩ := h
    exact ⟨v, r, e, RepV.cut hc.1 h1, RepL.cut hc.2 h2⟩
end
theorem RepM.cut {ρ : Rho} {H : Hp} {m : Mem} {n : Nat} (rm : RepM C ρ H m) (hc : (m.take n).all (MO.cl n) = true) : RepM C (ρ.cut n) H (m.take n) := by
  refine ⟨by show (ρ.l.take n).length = _; rw [List.length_take, List.length_take, rm.len], fun k a l o h1 h2 => ?_, fun k j a h1 h2 => ?_, fun a hz => ⟨(rm.hid a hz).1, fun z => (rm.hid a hz).2 (List.mem_of_mem_take z)⟩⟩
  · have h1 : (ρ.l.take n)[k]? = some (a, l) := h1
    have hk : k < n := by
      by_cases hk : k < n
      · exact hk
      · rw [List.getElem?_take_eq_none (by omega)] at h1; cases h1
    have cl : MO.cl n o = true := List.all_eq_true.mp hc o (List.mem_of_getElem? h2)
    rw [List.getElem?_take_of_lt hk] at h1 h2
    have ho := rm.obj k a l o h1 h2
    cases o with
    | lst ds =>
      obtain ⟨e, xs, q, r⟩ := ho
      exact ⟨e, xs, q, r.cut cl⟩
    | dct ks vs =>
      simp only [MO.cl, Bool.and_eq_true] at cl
      obtain ⟨e, xs, r, q⟩ := ho
      exact ⟨e, xs, r.cut cl.2, q⟩
    | ins c fs =>
      obtain ⟨e, Cc, dx, vs, h1, h2, h3, h4⟩ := ho
      exact ⟨e, Cc, dx, vs, h1, h2, h3, h4.cut cl⟩
    | gd ks vs =>
      simp only [MO.cl, Bool.and_eq_true] at cl
      obtain ⟨e, xs, vv, h1, h2, h3, h4, h5⟩ := ho
      exact ⟨e, xs, vv, h1, h2, h3, h4.cut cl.1, h5.cut cl.2⟩
    | gone => exact ho
  · have h1 : (ρ.l.take n)[k]? = some (a, true) := h1
    have h2 : (ρ.l.take n)[j]? = some (a, true) := h2
    have hk : k < n := by
      by_cases hk : k < n
      · exact hk
      · rw [List.getElem?_take_eq_none (by omega)] at h1; cases h1
    have hj : j < n := by
      by_cases hk : j < n
      · exact hk
      · rw [List.getElem?_take_eq_none (by omega)] at h2; cases h2
    rw [List.getElem?_take_of_lt hk] at h1
    rw [List.getElem?_take_of_lt hj] at h2
    exact rm.dis k j a h1 h2
theorem ext_cut {ρ ρ' : Rho} {H H' : Hp} {n : Nat} (x : Ext ρ H ρ' H') (hn : ρ.l.length = n) : Ext ρ H (ρ'.cut n) H' := by
  refine ⟨fun k a h => ?_, fun a u p nl r => ?_, fun a u p nl r => ?_, x.lx, x.there⟩
  · obtain ⟨l, h⟩ := h
    have hk : k < n := by rw [← hn]; exact (List.getElem?_eq_some_iff.mp h).1
    obtain ⟨l', q⟩ := x.pre k a ⟨l, h⟩
    refine ⟨l', ?_⟩
    show (ρ'.l.take n)[k]? = _
    rw [List.getElem?_take_of_lt hk]
    exact q
  · obtain ⟨n', r'⟩ := x.keep a u p nl r
    exact ⟨fun l => n' (lives_cut l), r'⟩
  · obtain ⟨n', r'⟩ := x.keepD a u p nl r
    exact ⟨fun l => n' (lives_cut l), r'⟩

/-! ### a def by its body -/
theorem start_rep {ρ : Rho} {H : Hp} {ds : List D} {vs : List V} {N : List Str} (rl : RepL C ρ H ds vs) : RepE C ρ H (ds.map some ++ List.replicate (N.length - ds.length) none) (L2.start N vs) := by
  unfold L2.start
  refine ⟨by simp [rl.length], fun i d e => ?_⟩
  by_cases hi : i < ds.length
  · rw [List.getElem?_append_left (by simpa using hi), List.getElem?_map] at e
    cases q : ds[i]? with
    | none => rw [q] at e; cases e
    | some d' =>
      rw [q] at e
      have e' : d' = d := Option.some.inj (Option.some.inj e)
      subst e'
      obtain ⟨v, h1, h2⟩ := rl.get q
      refine ⟨v, ?_, h2⟩
      rw [List.getElem?_append_left (by rw [List.length_map, ← rl.length]; exact hi), List.getElem?_map, h1]
      rfl
  · rw [List.getElem?_append_right (by simpa using hi), List.getElem?_replicate] at e
    split at e <;> cases e
theorem body_of {ρ : Rho} {H : Hp} {m : Mem} {ds : List D} {n : Nat} {body : Sm} {Q : VK} {E : XK} (rm : RepM C ρ H m)
    (h : fin C ρ H E (fnS n body ds m) fun d _ ρ' H' => ∀ v, RepV C ρ' H' d v → Q v H') :
    fin C ρ H E (body (ds.map some ++ List.replicate (n - ds.length) none) m) (outK C { nx := fun _ H' => Q .non H', rt := Q }) := by
  unfold fnS at h
  cases q : body (ds.map some ++ List.replicate (n - ds.length) none) m with
  | bad => rw [q] at h; exact h
  | exc c m1 =>
    rw [q] at h
    intro ρ' H' x rm'
    dsimp only at h
    unfold gcX at h
    split at h
    · exact h ρ' H' x rm'
    · split at h
      · rename_i hc
        exact h _ H' (ext_cut x rm.len) (rm'.cut hc)
      · exact h.elim
  | ok o m1 =>
    rw [q] at h
    have key : ∀ d, fin C ρ H E (gcR m.length d m1) (fun d _ ρ' H' => ∀ v, RepV C ρ' H' d v → Q v H') → ∀ ρ' H', Ext ρ H ρ' H' → RepM C ρ' H' m1 → ∀ v, RepV C ρ' H' d v → Q v H' := fun d h ρ' H' x rm' v rv => by
      unfold gcR at h
      split at h
      · exact h ρ' H' x rm' v rv
      · split at h
        · rename_i hc
          rw [Bool.and_eq_true] at hc
          exact h _ H' (ext_cut x rm.len) (rm'.cut hc.2) v (rv.cut hc.1)
        · exact h.elim
    cases o with
    | nx g1 => exact fun ρ' H' x rm' σ' re' => key .non h ρ' H' x rm' .non (by simp only [RepV])
    | rt d => exact fun ρ' H' x rm' v rv => key d h ρ' H' x rm' v rv
    | bk g1 => exact h.elim
    | ct g1 => exact h.elim
/-- THE RULE for a def over data -/
theorem fn_ok {P : Program} {w : World} {K : PySem.W.Frag} {mg : Str → Option Value} {base : Heap} {x qual : Str} {st : Stmt} {f : Addr} {fd : FuncData} {N ps : List Str} {k n : Nat} {body : Sm} (F : Fun K x qual st f fd) (S : FnScope N ps (defScope st)) (hn : ps.length = n)
    (hb : ∀ (cdv : Value) (A : Around) (outer : List PySem.Env) (s : Shared) (H : Hp) (E : XK), Room k (A.deeper (envOfC qual (defScope st) s.heap.objs.size f cdv)) →
      DSs C E (cxOf (L2.CX P w) P w K mg base N qual (defScope st) f cdv A outer s H E) (defBody st) body) :
    FnOk P w K mg base (L2.CX P w) (k + 1) f fd ps (spOf C n (fnS N.length body)) := by
  refine F.okX S (fun vs H Q E h => ?_) (fun cdv A outer s H vs Q E hr h => ?_)
  · obtain ⟨ρ, m, ds, hl, rl, _⟩ := h
    rw [← rl.length, hl, hn]
  · obtain ⟨ρ, m, ds, hl, rl, rm, h⟩ := h
    exact ⟨_, hb cdv A outer s H E hr, ρ, _, m, start_rep rl, rm, body_of rm h⟩
end
end LW
/-! LwP: operations on plain data: arithmetic, order, equality, membership, subscripts, slices, built-in functions. Core Lean alone. -/
namespace LW

/-- the list that is read at a value: a list by its contents, the script, a list that changes -/
@[simp] def lstOf (m : Mem) : D → Option (List D)
  | .lst ds => some ds
  | .scr ns => some (ns.map D.int)
  | .ref n => match m[n]? with | some (.lst ds) => some ds | _ => none
  | _ => none
/-- a list or a tuple -/
@[simp] def seqOf (m : Mem) : D → Option (List D)
  | .tup ds => some ds
  | .tpx ds => some ds
  | d => lstOf m d

/-! ### arithmetic -/
def big (i : Int) : Bool := Nat.ble i.natAbs 18446744073709551615
def inR (i : Int) : Bool := Nat.ble i.natAbs 4611686018427387903
def repOk (n : Nat) (j : Int) : Bool := Nat.ble j.natAbs 2147483647 && Nat.ble (n * j.toNat) lim
def powOk (i j : Int) : Bool := decide (0 ≤ j) && Nat.ble j.natAbs 1000000 && Nat.ble i.natAbs 18446744073709551615
theorem ble_of {a b : Nat} (h : a ≤ b) : Nat.ble a b = true := Nat.ble_eq_true_of_le h
theorem big_of {i : Int} (h1 : -10000000000 < i) (h2 : i < 10000000000) : big i = true := ble_of (by omega)
theorem inR_of {i : Int} (h1 : -10000000000 < i) (h2 : i < 10000000000) : inR i = true := ble_of (by omega)
theorem powOk_of {i j : Int} (h1 : 0 ≤ j) (h2 : j ≤ 1000) (h3 : i.natAbs < 10000000000) : powOk i j = true := by
  unfold powOk
  rw [decide_eq_true h1, ble_of (by omega), ble_of (by omega)]
  rfl
theorem repOk_of {n : Nat} {j : Int} (h1 : -1000 < j) (h2 : j < 1000) (h3 : n ≤ 10000) : repOk n j = true := by
  unfold repOk
  have h4 : j.toNat ≤ 1000 := by omega
  have h5 : n * j.toNat ≤ 10000 * 1000 := Nat.mul_le_mul h3 h4
  rw [ble_of (by omega), ble_of (show n * j.toNat ≤ lim by unfold lim; omega)]
  rfl
theorem big_le {i : Int} (h : big i = true) : i.natAbs ≤ 18446744073709551615 := Nat.le_of_ble_eq_true h
theorem inR_le {i : Int} (h : inR i = true) : i.natAbs ≤ 4611686018427387903 := Nat.le_of_ble_eq_true h
theorem repOk_le {n : Nat} {j : Int} (h : repOk n j = true) : j.natAbs ≤ 2147483647 ∧ n * j.toNat ≤ lim := by
  unfold repOk at h
  rw [Bool.and_eq_true] at h
  exact ⟨Nat.le_of_ble_eq_true h.1, Nat.le_of_ble_eq_true h.2⟩
theorem powOk_le {i j : Int} (h : powOk i j = true) : 0 ≤ j ∧ j.natAbs ≤ 1000000 ∧ i.natAbs ≤ 18446744073709551615 := by
  unfold powOk at h
  rw [Bool.and_eq_true, Bool.and_eq_true] at h
  exact ⟨of_decide_eq_true h.1.1, Nat.le_of_ble_eq_true h.1.2, Nat.le_of_ble_eq_true h.2⟩
@[simp] def addD : Op := fun _ x y => match x, y with
  | .int i, .int j => some (.int (i + j))
  | .str a, .str b => if a.length + b.length ≤ lim then some (.str (a ++ b)) else none
  | .tup a, .tup b => if a.length + b.length ≤ lim then some (.tup (a ++ b)) else none
  | .lst a, .lst b => if a.length + b.length ≤ lim then some (.lst (a ++ b)) else none
  | _, _ => none
@[simp] def subD : Op := fun _ x y => match x, y with
  | .int i, .int j => some (.int (i - j))
  | _, _ => none
@[simp] def mulD : Op := fun _ x y => match x, y with
  | .int i, .int j => if big i || big j then some (.int (i * j)) else none
  | .str a, .int j => if repOk a.length j then some (.str (List.replicate j.toNat a).flatten) else none
  | .lst a, .int j => if repOk a.length j then some (.lst (List.replicate j.toNat a).flatten) else none
  | _, _ => none
@[simp] def modD : Op := fun _ x y => match x, y with
  | .int i, .int j => if 0 < j then some (.int (i % j)) else none
  | _, _ => none
@[simp] def powD : Op := fun _ x y => match x, y with
  | .int i, .int j => if powOk i j then some (.int (i ^ j.toNat)) else none
  | _, _ => none
@[simp] def negD : Un := fun _ x => match x with | .int i => some (.int (-i)) | _ => none

/-! ### order, equality, membership -/
@[simp] def ltD : Op := fun _ x y => match x, y with
  | .int i, .int j => some (.bl (decide (i < j)))
  | .str a, .str b => some (.bl (decide (a < b)))
  | _, _ => none
@[simp] def leD : Op := fun _ x y => match x, y with
  | .int i, .int j => some (.bl (decide (i ≤ j)))
  | .str a, .str b => some (.bl (!decide (b < a)))
  | _, _ => none
@[simp] def gtD : Op := fun _ x y => match x, y with
  | .int i, .int j => some (.bl (decide (j < i)))
  | _, _ => none
@[simp] def geD : Op := fun _ x y => match x, y with
  | .int i, .int j => some (.bl (decide (j ≤ i)))
  | _, _ => none
mutual
/-- data that == looks through: k levels at most -/
def D.sh : Nat → D → Bool
  | _, .non => true
  | _, .bl _ => true
  | _, .int _ => true
  | _, .str _ => true
  | k + 1, .tup ds => D.shL k ds
  | k + 1, .lst ds => D.shL k ds
  | _, _ => false
def D.shL : Nat → List D → Bool
  | _, [] => true
  | k, d :: ds => D.sh k d && D.shL k ds
end
mutual
def D.eqv : D → D → Bool
  | .non, .non => true
  | .bl a, .bl b => a == b
  | .bl a, .int j => (if a then 1 else 0) == j
  | .int i, .bl b => i == (if b then 1 else 0)
  | .int i, .int j => i == j
  | .str x, .str y => x == y
  | .lst xs, .lst ys => D.eqvL xs ys
  | .tup xs, .tup ys => D.eqvL xs ys
  | _, _ => false
def D.eqvL : List D → List D → Bool
  | [], [] => true
  | x :: xs, y :: ys => D.eqv x y && D.eqvL xs ys
  | _, _ => false
end
/-- lists that change and the script, by what they hold now -/
@[simp] def D.now (m : Mem) : D → D
  | .tpx ds => .tup ds
  | .scr ns => .lst (ns.map D.int)
  | .ref n => match m[n]? with | some (.lst ds) => .lst ds | _ => .ref n
  | d => d
@[simp] def eqD : Op := fun m x y => if D.sh 9 (x.now m) && D.sh 9 (y.now m) then some (.bl (D.eqv (x.now m) (y.now m))) else none
@[simp] def neD : Op := fun m x y => if D.sh 9 (x.now m) && D.sh 9 (y.now m) then some (.bl (!D.eqv (x.now m) (y.now m))) else none
/-- flat things -/
@[simp] def D.flat : D → Bool
  | .non => true | .bl _ => true | .int _ => true | .str _ => true | _ => false
@[simp] def inD : Op := fun m x y => match x, y with
  | .str [c], .str s => some (.bl (decide (c ∈ s)))
  | x, y => match seqOf m y with
    | some ds => if x.flat && ds.all D.flat then some (.bl (ds.any fun d => D.eqv d x)) else none
    | none => none
@[simp] def notInD : Op := fun m x y => match inD m x y with | some (.bl b) => some (.bl (!b)) | _ => none
@[simp] def D.isN : D → Bool
  | .non => true | _ => false
@[simp] def isND : Op := fun _ x y => match y with | .non => some (.bl x.isN) | _ => none
@[simp] def isNotND : Op := fun _ x y => match y with | .non => some (.bl (!x.isN)) | _ => none

/-! ### subscripts, slices -/
def ixD (n : Nat) (i : Int) : Option Nat := if 0 ≤ i then (if i < n then some i.toNat else none) else if -(n : Int) ≤ i then some (i + n).toNat else none
@[simp] def getD : Op := fun m x y => match y with
  | .int i => match x with
    | .str s => (ixD s.length i).bind fun j => (s[j]?).map fun c => .str [c]
    | x => match seqOf m x with
      | some ds => (ixD ds.length i).bind fun j => ds[j]?
      | none => none
  | _ => none
def sIxD (n d : Nat) : Option Int → Nat
  | none => d
  | some v => if v < 0 then (v + (n : Int)).toNat else min v.toNat n
def cutD {α : Type} (xs : List α) (lo hi : Option Int) : List α := (xs.drop (sIxD xs.length 0 lo)).take (sIxD xs.length xs.length hi - sIxD xs.length 0 lo)
abbrev Sl := Mem → D → Option Int → Option Int → Option D
@[simp] def slD : Sl := fun m x lo hi => match x with
  | .str s => some (.str (cutD s lo hi))
  | .tup ds => some (.tup (cutD ds lo hi))
  | .tpx ds => some (.tup (cutD ds lo hi))
  | x => (lstOf m x).map fun ds => .lst (cutD ds lo hi)
abbrev Op1 := Env → Mem → R (Option Int)
@[simp] def noO : Op1 := fun _ m => .ok none m
@[simp] def someO (a : Ex) : Op1 := fun g m => (a g m).bind fun x m1 => match x with | .int i => .ok (some i) m1 | _ => .bad
@[simp] def slE (f : Sl) (a : Ex) (lo hi : Op1) : Ex := fun g m => (a g m).bind fun x m1 => (lo g m1).bind fun l m2 => (hi g m2).bind fun h m3 => opt (f m3 x l h) m3

/-! ### built-in functions -/
@[simp] def lenB : Bf := fun m xs => match xs with
  | [.str s] => some (.int s.length)
  | [x] => (seqOf m x).map fun ds => .int ds.length
  | _ => none
/-- the type's name -/
@[simp] def D.tyN (m : Mem) : D → Option String
  | .non => some "NoneType" | .bl _ => some "bool" | .int _ => some "int" | .str _ => some "str" | .tup _ => some "tuple" | .tpx _ => some "tuple" | .lst _ => some "list" | .scr _ => some "list"
  | .ref n => match m[n]? with | some (.lst _) => some "list" | _ => none
  | _ => none
@[simp] def isD (t : String) : Un := fun m x => (x.tyN m).map fun n => .bl (n == t || (n == "bool" && t == "int"))
@[simp] def allB : Bf := fun m xs => match xs with
  | [x] => match lstOf m x with
    | some ds => if ds.all (fun d => match d with | .bl _ => true | _ => false) then some (.bl (ds.all fun d => match d with | .bl b => b | _ => false)) else none
    | none => none
  | _ => none
@[simp] def strsOf : List D → Option (List (List Nat))
  | [] => some []
  | .str s :: r => (strsOf r).map fun l => s :: l
  | _ => none
@[simp] def intsOf : List D → Option (List Int)
  | [] => some []
  | .int i :: r => (intsOf r).map fun l => i :: l
  | _ => none
@[simp] def sumB : Bf := fun m xs => match xs with
  | [x] => match lstOf m x with | some ds => (intsOf ds).map fun ns => .int ns.sum | none => none
  | _ => none
/-- list(x), a new list by its contents -/
@[simp] def listB : Bf := fun m xs => match xs with
  | [.str s] => some (.lst (s.map fun c => .str [c]))
  | [x] => (seqOf m x).map fun ds => .lst ds
  | _ => none
@[simp] def tupleB : Bf := fun m xs => match xs with
  | [x] => (seqOf m x).map fun ds => .tup ds
  | _ => none
@[simp] def intB : Bf := fun _ xs => match xs with
  | [.int i] => some (.int i)
  | [.bl b] => some (.int (if b then 1 else 0))
  | _ => none
def joinL (s : List Nat) : List (List Nat) → List Nat
  | [] => []
  | [p] => p
  | p :: q :: r => p ++ s ++ joinL s (q :: r)
def joinD : Op := fun m x y => match x with
  | .str s => match seqOf m y with
    | some ds => match strsOf ds with
      | some ps => if (ps.map List.length).sum + ps.length * s.length ≤ lim then some (.str (joinL s ps)) else none
      | none => none
    | none => none
  | _ => none
/-- a list without what came before, in its order -/
def dedup {α : Type} [DecidableEq α] : List α → List α
  | [] => []
  | x :: r => x :: (dedup r).filter fun y => decide (y ≠ x)
def insN (x : Nat) : List Nat → List Nat
  | [] => [x]
  | y :: r => if x ≤ y then x :: y :: r else y :: insN x r
def sortN : List Nat → List Nat
  | [] => []
  | x :: r => insN x (sortN r)
/-- len(set(text)) -/
@[simp] def lenSetD : Un := fun _ x => match x with
  | .str s => if s.length < 4000 then some (.int (dedup s).length) else none
  | _ => none
/-- sorted(set(text)) -/
def sortedSetD : Un := fun _ x => match x with
  | .str s => if (dedup s).length < 64 ∧ s.length < 4000 then some (.lst ((sortN (dedup s)).map fun c => .str [c])) else none
  | _ => none

/-! ### what is walked -/
@[simp] def itS (a : Ex) : Ar := fun g m => (a g m).bind fun x m1 => match x with
  | .str s => .ok (s.map fun c => .str [c]) m1
  | _ => .bad
@[simp] def itL (a : Ex) : Ar := fun g m => (a g m).bind fun x m1 => match x with
  | .lst ds => .ok ds m1
  | _ => .bad
@[simp] def itT (a : Ex) : Ar := fun g m => (a g m).bind fun x m1 => match x with
  | .tup ds => .ok ds m1
  | .tpx ds => .ok ds m1
  | _ => .bad
/-- what is walked, by what it is -/
@[simp] def itA (a : Ex) : Ar := fun g m => (a g m).bind fun x m1 => match x with
  | .str s => .ok (s.map fun c => .str [c]) m1
  | .lst ds => .ok ds m1
  | .tup ds => .ok ds m1
  | .tpx ds => .ok ds m1
  | _ => .bad
@[simp] def itR1 (a : Ex) : Ar := fun g m => (a g m).bind fun x m1 => match x with
  | .int j => if inR j then .ok ((List.range j.toNat).map fun (k : Nat) => .int k) m1 else .bad
  | _ => .bad
@[simp] def itR2 (a b : Ex) : Ar := fun g m => (a g m).bind fun x m1 => (b g m1).bind fun y m2 => match x, y with
  | .int i, .int j => if inR i && inR j then .ok ((List.range (j - i).toNat).map fun (k : Nat) => .int (i + k)) m2 else .bad
  | _, _ => .bad

/-! ### things that change -/
/-- a list that is to change is made -/
@[simp] def newE (a : Ex) : Ex := fun g m => (a g m).bind fun x m1 => match x with
  | .lst ds => .ok (.ref m1.length) (m1 ++ [.lst ds])
  | _ => .bad
/-- a list's method that changes it: what it hands back, what the list is then -/
abbrev Mt := List D → List D → Option (D × List D)
@[simp] def mtE (f : Mt) (a : Ex) (r : Ar) : Ex := fun g m => (a g m).bind fun x m1 => match x with
  | .ref n => match m1[n]? with
    | some (.lst _) => (r g m1).bind fun ys m2 => match m2[n]? with
      | some (.lst ds) => match f ds ys with
        | some (d, ds') => .ok d (m2.set n (.lst ds'))
        | none => .bad
      | _ => .bad
    | _ => .bad
  | _ => .bad
@[simp] def appM : Mt := fun ds ys => match ys with
  | [y] => if ds.length < lim then some (.non, ds ++ [y]) else none
  | _ => none
@[simp] def extM : Mt := fun ds ys => match ys with
  | [.lst es] => if ds.length + es.length ≤ lim then some (.non, ds ++ es) else none
  | _ => none
@[simp] def popM : Mt := fun ds ys => match ys with
  | [] => match ds[ds.length - 1]? with | some d => some (d, ds.dropLast) | none => none
  | _ => none
@[simp] def popAtM : Mt := fun ds ys => match ys with
  | [.int i] => if ds.length ≤ lim then match ixD ds.length i with
    | some k => match ds[k]? with | some d => some (d, ds.eraseIdx k) | none => none
    | none => none else none
  | _ => none
@[simp] def revM : Mt := fun ds ys => match ys with
  | [] => some (.non, ds.reverse)
  | _ => none
/-- from here on the list at a slot does not change -/
@[simp] def frzS (i : Nat) : Sm := fun g m => match g[i]? with
  | some (some (.ref n)) => match m[n]? with
    | some (.lst ds) => .ok (.nx (g.set i (some (.lst ds)))) (m.set n .gone)
    | _ => .bad
  | _ => .bad
/-- {a: b, c: d}.get(k, x) of texts -/
@[simp] def dlook (k : List Nat) : List D → List D → Option D
  | .str q :: ks, v :: vs => match dlook k ks vs with | some w => some w | none => if q = k then some v else none
  | _, _ => none
/-- a method of a text with one argument -/
@[simp] def sopE (f : Op) (a b : Ex) : Ex := fun g m => (a g m).bind fun x m1 => match x with
  | .str _ => (b g m1).bind fun y m2 => opt (f m2 x y) m2
  | _ => .bad
/-- {k1: v1, k2: v2}.get(k, x), all keys texts -/
@[simp] def dget2E (k1 v1 k2 v2 k x : Ex) : Ex := fun g m => (k1 g m).bind fun a m1 => (v1 g m1).bind fun b m2 => (k2 g m2).bind fun c m3 => (v2 g m3).bind fun d m4 =>
  match a, c with
  | .str a, .str c => (k g m4).bind fun q m5 => (x g m5).bind fun z m6 => match q with
    | .str q => .ok (if q = c then d else if q = a then b else z) m6
    | .non => .ok z m6
    | _ => .bad
  | _, _ => .bad
/-! ### zip, enumerate -/
@[simp] def srcOf : D → Option (List D)
  | .str s => some (s.map fun c => .str [c])
  | .lst ds => some ds
  | .tup ds => some ds
  | .tpx ds => some ds
  | _ => none
def zipD (xs ys : List D) : List D := List.zipWith (fun a b => D.tup [a, b]) xs ys
@[simp] def itZ (a b : Ex) : Ar := fun g m => (a g m).bind fun x m1 => (b g m1).bind fun y m2 => match srcOf x with
  | some xs => match srcOf y with
    | some ys => .ok (zipD xs ys) m2
    | none => .bad
  | none => .bad
/-! ### refusals, tables of defs -/
/-- try: .. except .. as e: return which(e) -/
@[simp] def tryS (ix : String → Option Nat) (b : Sm) : Sm := fun g m => match b g m with
  | .exc c m1 => match ix c with
    | some j => .ok (.rt (.tup [.str [114, 101, 102, 117, 115, 101, 100], .int j])) m1
    | none => .bad
  | r => r
/-- a call of what an expression gives, one of a table's defs -/
@[simp] def callX (tbl : String → Option Fn) (c : Ex) (a : Ar) : Ex := fun g m => (c g m).bind fun x m1 => match x with
  | .fn n => match tbl n with
    | some F => (a g m1).bind fun xs m2 => F xs m2
    | none => .bad
  | _ => .bad
/-- list(range(n)) -/
@[simp] def lrE (a : Ex) : Ex := fun g m => (a g m).bind fun x m1 => match x with
  | .int j => if inR j && Nat.ble j.toNat lim then .ok (.lst ((List.range j.toNat).map fun (k : Nat) => .int k)) m1 else .bad
  | _ => .bad
/-! ### dicts of whole numbers -/
/-- (a, b): a tuple of which all is known -/
@[simp] def tpxE (a : Ar) : Ex := fun g m => (a g m).bind fun xs m1 => if xs.length ≤ lim then .ok (.tpx xs) m1 else .bad
def pairsOf : List D → Option (List (Int × D))
  | [] => some []
  | .tup [.int i, v] :: r => (pairsOf r).map fun l => (i, v) :: l
  | _ => none
/-- dict(pairs), the numbers all unlike -/
def dictB : Bf := fun _ xs => match xs with
  | [.tpx ds] => match pairsOf ds with
    | some l => if (l.map (·.1)).Nodup then some (.dct (l.map fun p => .int p.1) (l.map (·.2))) else none
    | none => none
  | _ => none
def dfind (i : Int) : List D → List D → Option D
  | .int j :: ks, v :: vs => if j = i then some v else dfind i ks vs
  | _ :: ks, _ :: vs => dfind i ks vs
  | _, _ => none
/-- book.get(number) -/
def get1D : Op := fun _ x y => match x, y with
  | .dct ks vs, .int i => some ((dfind i ks vs).getD .non)
  | _, _ => none
/-- a dict's method with one argument -/
@[simp] def dopE (f : Op) (a b : Ex) : Ex := fun g m => (a g m).bind fun x m1 => match x with
  | .dct _ _ => (b g m1).bind fun y m2 => opt (f m2 x y) m2
  | _ => .bad
def enumD (xs : List D) : List D := List.zipWith (fun (k : Nat) d => D.tup [.int k, d]) (List.range xs.length) xs
@[simp] def itE (a : Ex) : Ar := fun g m => (a g m).bind fun x m1 => match x with
  | .str s => .ok (enumD (s.map fun c => .str [c])) m1
  | .lst ds => .ok (enumD ds) m1
  | _ => .bad
end LW
/-! LwO: the operations on data agree with the layer's rules. -/
namespace LW
open PySem PySem.Spec PyProof.Rows L2
section
variable {C : Cn} {W : XK} {X : Cx} {ρ : Rho} {H : Hp} {m : Mem}

theorem RepV.str_at {s : List Nat} {v : V} (h : RepV C ρ H (.str s) v) : v = .str ⟨s.toArray⟩ ∧ s.length ≤ lim ∧ ∀ c ∈ s, c < 1114112 := by simpa only [RepV] using h
theorem RepV.int_at {i : Int} {v : V} (h : RepV C ρ H (.int i) v) : v = .int i := by simpa only [RepV] using h
theorem RepV.bl_at {b : Bool} {v : V} (h : RepV C ρ H (.bl b) v) : v = .bl b := by simpa only [RepV] using h
theorem RepV.non_at {v : V} (h : RepV C ρ H .non v) : v = .non := by simpa only [RepV] using h
theorem RepV.ty_at {n : String} {v : V} (h : RepV C ρ H (.ty n) v) : v = .ty n := by simpa only [RepV] using h
theorem rv_int {i : Int} : RepV C ρ H (.int i) (.int i) := by simp only [RepV]
theorem rv_bl {b : Bool} : RepV C ρ H (.bl b) (.bl b) := by simp only [RepV]
theorem rv_non : RepV C ρ H .non .non := by simp only [RepV]
theorem rv_str {s : List Nat} (hl : s.length ≤ lim) (hc : ∀ c ∈ s, c < 1114112) : RepV C ρ H (.str s) (.str ⟨s.toArray⟩) := by simp only [RepV]; exact ⟨trivial, hl, hc⟩
theorem rv_strV {s : List Nat} {x : Str} (e : x.cps.toList = s) (hl : s.length ≤ lim) (hc : ∀ c ∈ s, c < 1114112) : RepV C ρ H (.str s) (.str x) := by
  have : x = ⟨s.toArray⟩ := TL.ext_tl e
  rw [this]; exact rv_str hl hc
theorem str_app (a b : List Nat) : (⟨a.toArray⟩ : Str) ++ (⟨b.toArray⟩ : Str) = ⟨(a ++ b).toArray⟩ := TL.ext_tl (by rw [TL.tl_append] <;> rfl)
theorem str_len (a : List Nat) : (⟨a.toArray⟩ : Str).length = a.length := by rw [TL.len_tl] <;> rfl
theorem mem_repl {α : Type} {a : List α} {n : Nat} {c : α} (h : c ∈ (List.replicate n a).flatten) : c ∈ a := by
  obtain ⟨l, hl, hc⟩ := List.mem_flatten.mp h
  rw [(List.mem_replicate.mp hl).2] at hc
  exact hc
theorem len_repl {α : Type} (a : List α) (n : Nat) : (List.replicate n a).flatten.length = n * a.length := by
  induction n with
  | zero => simp
  | succ n ih => rw [List.replicate_succ, List.flatten_cons, List.length_append, ih, Nat.succ_mul, Nat.add_comm]
theorem RepL.repl {ds : List D} {vs : List V} (h : RepL C ρ H ds vs) : ∀ n : Nat, RepL C ρ H (List.replicate n ds).flatten (List.replicate n vs).flatten
  | 0 => by simp only [List.replicate_zero, List.flatten_nil, RepL]
  | n + 1 => by
    rw [List.replicate_succ, List.replicate_succ, List.flatten_cons, List.flatten_cons]
    exact RepL.append h (RepL.repl h n)

/-! ### + - * % ** -/
abbrev rAdd4 (K : PySem.W.Frag) : R2 := fun x y H Q => (rI0 fun i j => .int (i + j)) x y H Q ∨ ((∃ i j, x = .str i ∧ y = .str j ∧ i.length + j.length ≤ sizeLine ∧ Q (.str (i ++ j)) H) ∨ (rCatA K x y H Q ∨ rCat x y H Q))
theorem or_add : OpR X (binaryOp .Add) (rAdd4 X.K) := op_add.or (op_add_str.or (op_catA.or op_cat))
theorem os_add : OpS C (rAdd4 C.K) addD := by
  intro ρ H m d1 d2 v1 v2 d Q rm r1 r2 e q
  cases d1 with
  | int i =>
    cases d2 with
    | int j =>
      cases e
      exact .inl ⟨i, j, r1.int_at, r2.int_at, q _ H (Same.refl H) rv_int⟩
    | _ => cases e
  | str a =>
    cases d2 with
    | str b =>
      simp only [addD] at e
      split at e
      · rename_i hz
        cases e
        obtain ⟨e1, l1, c1⟩ := r1.str_at
        obtain ⟨e2, l2, c2⟩ := r2.str_at
        refine .inr (.inl ⟨_, _, e1, e2, by rw [str_len, str_len, ← lim_eq]; exact hz, ?_⟩)
        rw [str_app]
        refine q _ H (Same.refl H) (rv_str (by rw [List.length_append]; exact hz) fun c hc => ?_)
        rcases List.mem_append.mp hc with z | z
        · exact c1 c z
        · exact c2 c z
      · cases e
    | _ => cases e
  | tup a =>
    cases d2 with
    | tup b =>
      simp only [addD] at e
      split at e
      · rename_i hz
        cases e
        obtain ⟨p1, xs, e1, s1, l1⟩ := r1.tup_sq
        obtain ⟨p2, ys, e2, s2, l2⟩ := r2.tup_sq
        refine .inr (.inr (.inl ⟨p1, p2, xs, ys, e1, e2, s1, s2, by rw [← l1.length, ← l2.length, ← lim_eq]; exact hz, fun hx => ?_, fun hx hy => ?_, fun hx hy p hp => ?_⟩))
        · have : a = [] := by
            have := l1.length
            rw [hx] at this
            exact List.length_eq_zero_iff.mp this
          subst this
          rw [← e2]
          exact q _ H (Same.refl H) r2
        · have : b = [] := by
            have := l2.length
            rw [hy] at this
            exact List.length_eq_zero_iff.mp this
          subst this
          rw [List.append_nil] at q
          rw [← e1]
          exact q _ H (Same.refl H) r1
        · exact q _ _ (same_upd hp) (rep_tup rm hp (l1.append l2))
      · cases e
    | _ => cases e
  | lst a =>
    cases d2 with
    | lst b =>
      simp only [addD] at e
      split at e
      · rename_i hz
        cases e
        obtain ⟨p1, xs, e1, n1, s1, l1⟩ := r1.lst_at
        obtain ⟨p2, ys, e2, n2, s2, l2⟩ := r2.lst_at
        exact .inr (.inr (.inr ⟨p1, p2, xs, ys, e1, e2, s1, s2, by rw [← l1.length, ← l2.length, ← lim_eq]; exact hz, fun p hp => q _ _ (same_upd hp) (rep_lst rm hp (l1.append l2))⟩))
      · cases e
    | _ => cases e
  | _ => cases d2 <;> cases e
theorem os_sub : OpS C (rI0 fun i j => .int (i - j)) subD := by
  intro ρ H m d1 d2 v1 v2 d Q rm r1 r2 e q
  cases d1 with
  | int i =>
    cases d2 with
    | int j =>
      cases e
      exact ⟨i, j, r1.int_at, r2.int_at, q _ H (Same.refl H) rv_int⟩
    | _ => cases e
  | _ => cases d2 <;> cases e
/-- s * n -/
def rMulS : R2 := fun x y H Q => ∃ z n, x = .str z ∧ y = .int n ∧ n < 2 ^ 31 ∧ -(2 ^ 63) ≤ n ∧ z.length * n.toNat ≤ sizeLine ∧ Q (.str ⟨(List.replicate n.toNat z.cps.toList).flatten.toArray⟩) H
theorem repl_cps (z : Str) (n : Nat) : ((List.replicate n z.cps).foldl (· ++ ·) #[]) = (List.replicate n z.cps.toList).flatten.toArray := by
  have key : ∀ (n : Nat) (acc : Array Nat), (List.replicate n z.cps).foldl (· ++ ·) acc = acc ++ (List.replicate n z.cps.toList).flatten.toArray := by
    intro n
    induction n with
    | zero => intro acc; simp
    | succ n ih =>
      intro acc
      rw [List.replicate_succ, List.foldl_cons, ih, List.replicate_succ, List.flatten_cons]
      apply Array.toList_inj.mp
      simp
  rw [key]; simp
theorem or_mulS : OpR X (binaryOp .Mult) rMulS := by
  intro pins s σ H x y v u Q I rx ry h
  obtain ⟨z, n, rfl, rfl, h1, h0, hz, q⟩ := h
  obtain ⟨t, rfl⟩ := rx
  obtain ⟨t', rfl⟩ := ry
  have hs : sizeLine = 16777216 := sizeLine_eq
  refine PySem.P.mul_str ?_ ?_ ?_ ?_
  · rw [decide_eq_false (by omega), decide_eq_false (by omega)] <;> rfl
  · intro hn _ hb
    have hle : (z.length : Int) ≤ 16777216 := by
      have : z.length * 1 ≤ z.length * n.toNat := Nat.mul_le_mul_left _ (by omega)
      omega
    have h2 : (2 ^ 63 - 1 : Int) / n ≥ 16777216 := by
      have hn0 : (0 : Int) < n := by omega
      exact (Int.le_ediv_iff_mul_le hn0).mpr (by omega)
    omega
  · intro _ _
    unfold Builtin.Str.tooLong
    simp only [gt_iff_lt, decide_eq_false_iff_not]
    omega
  · by_cases c1 : n < 1
    · rw [if_pos c1]
      have e0 : n.toNat = 0 := by omega
      rw [e0] at q
      exact ⟨by decide, ⟨.str Str.empty, H, I.tok _, ⟨_, rfl⟩, q⟩⟩
    · rw [if_neg c1]
      by_cases c2 : (n == 1 || z.length == 0) = true
      · rw [if_pos c2]
        have ez : (⟨(List.replicate n.toNat z.cps.toList).flatten.toArray⟩ : Str) = z := by
          apply TL.ext_tl
          show (List.replicate n.toNat z.cps.toList).flatten = z.cps.toList
          rw [Bool.or_eq_true] at c2
          rcases c2 with c2 | c2
          · have : n = 1 := by simpa using c2
            subst this
            simp
          · have e0 : z.cps.toList = [] := (TL.len0_tl z).mp (by simpa using c2)
            rw [e0]
            simp
        rw [ez] at q
        exact ⟨.str z, H, I, ⟨_, rfl⟩, q⟩
      · rw [if_neg c2]
        refine ⟨?_, ?_⟩
        · rw [repl_cps]
          show (⟨(List.replicate n.toNat z.cps.toList).flatten.toArray⟩ : Str).length ≤ sizeLine
          rw [str_len, len_repl, Nat.mul_comm]
          have e5 : z.cps.toList.length = z.length := (TL.len_tl z).symm
          rw [e5]
          exact hz
        · rw [repl_cps]
          exact ⟨.str _, H, I.tok _, ⟨_, rfl⟩, q⟩

abbrev rMul3 : R2 := fun x y H Q => (rI CMul fun i j => .int (i * j)) x y H Q ∨ (rMulS x y H Q ∨ rRep x y H Q)
theorem or_mul : OpR X (binaryOp .Mult) rMul3 := op_mul.or (or_mulS.or op_rep)
theorem os_mul : OpS C rMul3 mulD := by
  intro ρ H m d1 d2 v1 v2 d Q rm r1 r2 e q
  have hs : sizeLine = 16777216 := sizeLine_eq
  have hlim : lim = 16777216 := rfl
  cases d1 with
  | int i =>
    cases d2 with
    | int j =>
      simp only [mulD] at e
      split at e
      · rename_i hb
        cases e
        refine .inl ⟨i, j, r1.int_at, r2.int_at, ?_, q _ H (Same.refl H) rv_int⟩
        rw [Bool.or_eq_true] at hb
        rcases hb with h1 | h1
        · have h2 := big_le h1
          exact .inl ⟨by omega, by omega⟩
        · have h2 := big_le h1
          exact .inr ⟨by omega, by omega⟩
      · cases e
    | _ => cases e
  | str a =>
    cases d2 with
    | int j =>
      simp only [mulD] at e
      split at e
      · rename_i hb
        cases e
        have hb := repOk_le hb
        obtain ⟨e1, l1, c1⟩ := r1.str_at
        refine .inr (.inl ⟨_, j, e1, r2.int_at, by omega, by omega, by rw [str_len]; omega, ?_⟩)
        exact q _ H (Same.refl H) (rv_str (by rw [len_repl, Nat.mul_comm]; exact hb.2) fun c hc => c1 c (mem_repl hc))
      · cases e
    | _ => cases e
  | lst a =>
    cases d2 with
    | int j =>
      simp only [mulD] at e
      split at e
      · rename_i hb
        cases e
        have hb := repOk_le hb
        obtain ⟨p1, xs, e1, n1, s1, l1⟩ := r1.lst_at
        exact .inr (.inr ⟨p1, j, xs, e1, r2.int_at, s1, by omega, by omega, by rw [← l1.length]; omega, fun p hp => q _ _ (same_upd hp) (rep_lst rm hp (l1.repl j.toNat))⟩)
      · cases e
    | _ => cases e
  | _ => cases d2 <;> cases e
theorem os_mod : OpS C (rI (fun _ j => 0 < j) fun i j => .int (i % j)) modD := by
  intro ρ H m d1 d2 v1 v2 d Q rm r1 r2 e q
  cases d1 with
  | int i =>
    cases d2 with
    | int j =>
      simp only [modD] at e
      split at e
      · rename_i hb
        cases e
        exact ⟨i, j, r1.int_at, r2.int_at, hb, q _ H (Same.refl H) rv_int⟩
      · cases e
    | _ => cases e
  | _ => cases d2 <;> cases e
theorem os_pow : OpS C (rI CPow fun i j => .int (i ^ j.toNat)) powD := by
  intro ρ H m d1 d2 v1 v2 d Q rm r1 r2 e q
  cases d1 with
  | int i =>
    cases d2 with
    | int j =>
      simp only [powD] at e
      split at e
      · rename_i hb
        cases e
        have hb := powOk_le hb
        exact ⟨i, j, r1.int_at, r2.int_at, ⟨hb.1, by omega, by omega⟩, q _ H (Same.refl H) rv_int⟩
      · cases e
    | _ => cases e
  | _ => cases d2 <;> cases e
theorem us_neg : UnS C (rU fun i => .int (-i)) negD := by
  intro ρ H m d1 v1 d Q rm r1 e q
  cases d1 with
  | int i => cases e; exact ⟨i, r1.int_at, q _ H (Same.refl H) rv_int⟩
  | _ => cases e

/-! ### < <= > >= -/
abbrev rLt2 : R2 := fun x y H Q => (rI0 fun i j => .bl (decide (i < j))) x y H Q ∨ (∃ i j, x = .str i ∧ y = .str j ∧ Q (.bl (decide (i.cps.toList < j.cps.toList))) H)
abbrev rLe2 : R2 := fun x y H Q => (rI0 fun i j => .bl (decide (i ≤ j))) x y H Q ∨ (∃ i j, x = .str i ∧ y = .str j ∧ Q (.bl (!decide (j.cps.toList < i.cps.toList))) H)
theorem or_lt : OpR X (compareOp .Lt) rLt2 := op_lt.or op_lt_str
theorem or_le : OpR X (compareOp .LtE) rLe2 := op_le.or op_le_str
theorem os_lt : OpS C rLt2 ltD := by
  intro ρ H m d1 d2 v1 v2 d Q rm r1 r2 e q
  cases d1 with
  | int i =>
    cases d2 with
    | int j => cases e; exact .inl ⟨i, j, r1.int_at, r2.int_at, q _ H (Same.refl H) rv_bl⟩
    | _ => cases e
  | str a =>
    cases d2 with
    | str b => cases e; exact .inr ⟨_, _, r1.str_at.1, r2.str_at.1, q _ H (Same.refl H) rv_bl⟩
    | _ => cases e
  | _ => cases d2 <;> cases e
theorem os_le : OpS C rLe2 leD := by
  intro ρ H m d1 d2 v1 v2 d Q rm r1 r2 e q
  cases d1 with
  | int i =>
    cases d2 with
    | int j => cases e; exact .inl ⟨i, j, r1.int_at, r2.int_at, q _ H (Same.refl H) rv_bl⟩
    | _ => cases e
  | str a =>
    cases d2 with
    | str b => cases e; exact .inr ⟨_, _, r1.str_at.1, r2.str_at.1, q _ H (Same.refl H) rv_bl⟩
    | _ => cases e
  | _ => cases d2 <;> cases e
theorem os_gt : OpS C (rI0 fun i j => .bl (decide (j < i))) gtD := by
  intro ρ H m d1 d2 v1 v2 d Q rm r1 r2 e q
  cases d1 with
  | int i =>
    cases d2 with
    | int j => cases e; exact ⟨i, j, r1.int_at, r2.int_at, q _ H (Same.refl H) rv_bl⟩
    | _ => cases e
  | _ => cases d2 <;> cases e
theorem os_ge : OpS C (rI0 fun i j => .bl (decide (j ≤ i))) geD := by
  intro ρ H m d1 d2 v1 v2 d Q rm r1 r2 e q
  cases d1 with
  | int i =>
    cases d2 with
    | int j => cases e; exact ⟨i, j, r1.int_at, r2.int_at, q _ H (Same.refl H) rv_bl⟩
    | _ => cases e
  | _ => cases d2 <;> cases e

/-! ### == -/
mutual
def toPd : D → PyData
  | .bl b => .bool b
  | .int i => .int i
  | .str s => .str ⟨s.toArray⟩
  | .tup ds => .tuple (toPdL ds)
  | .lst ds => .list (toPdL ds)
  | _ => .none
def toPdL : List D → List PyData
  | [] => []
  | d :: ds => toPd d :: toPdL ds
end
mutual
theorem rep_dp : ∀ (k : Nat) (d : D) (v : V), D.sh k d = true → RepV C ρ H d v → Dp C.K H v (toPd d) ∧ (toPd d).canLay0 = true ∧ (toPd d).depth ≤ k
  | k, .non, v, _, r => by rw [r.non_at]; exact ⟨.non, rfl, Nat.zero_le _⟩
  | k, .bl b, v, _, r => by rw [r.bl_at]; exact ⟨.bl b, rfl, Nat.zero_le _⟩
  | k, .int i, v, _, r => by rw [r.int_at]; exact ⟨.int i, rfl, Nat.zero_le _⟩
  | k, .str s, v, _, r => by
    obtain ⟨e, _, hc⟩ := r.str_at
    rw [e]
    refine ⟨.str _, ?_, Nat.zero_le _⟩
    show PyData.strOk _ = true
    unfold PyData.strOk
    simp only [Array.all_eq_true', List.mem_toArray, decide_eq_true_eq]
    intro c hm
    exact hc c hm
  | k + 1, .tup ds, v, h, r => by
    obtain ⟨a, xs, e, sq, rl⟩ := r.tup_sq
    obtain ⟨h1, h2, h3⟩ := rep_dpL k ds xs (by simpa only [D.sh] using h) rl
    rw [e]
    exact ⟨.tup sq h1, h2, Nat.succ_le_succ h3⟩
  | k + 1, .lst ds, v, h, r => by
    obtain ⟨a, xs, e, nl, sq, rl⟩ := r.lst_at
    obtain ⟨h1, h2, h3⟩ := rep_dpL k ds xs (by simpa only [D.sh] using h) rl
    rw [e]
    exact ⟨.lst (.inl (.inl sq)) h1, h2, Nat.succ_le_succ h3⟩
  | 0, .tup ds, v, h, r => by simp [D.sh] at h
  | 0, .lst ds, v, h, r => by simp [D.sh] at h
  | k, .dct _ _, v, h, r => by cases k <;> simp [D.sh] at h
  | k, .gdz _ _, v, h, r => by cases k <;> simp [D.sh] at h
  | k, .scr _, v, h, r => by cases k <;> simp [D.sh] at h
  | k, .ref _, v, h, r => by cases k <;> simp [D.sh] at h
  | k, .ty _, v, h, r => by cases k <;> simp [D.sh] at h
  | k, .fn _, v, h, r => by cases k <;> simp [D.sh] at h
  | k, .exc _, v, h, r => by cases k <;> simp [D.sh] at h
theorem rep_dpL : ∀ (k : Nat) (ds : List D) (vs : List V), D.shL k ds = true → RepL C ρ H ds vs → DpAll C.K H vs (toPdL ds) ∧ PyData.canLayAll0 (toPdL ds) = true ∧ PyData.depthAll (toPdL ds) ≤ k
  | k, [], vs, _, r => by
    simp only [RepL] at r
    subst r
    exact ⟨.nil, rfl, Nat.zero_le _⟩
  | k, d :: ds, vs, h, r => by
    simp only [RepL] at r
    obtain ⟨v, r', rfl, h1, h2⟩ := r
    simp only [D.shL, Bool.and_eq_true] at h
    obtain ⟨a1, a2, a3⟩ := rep_dp k d v h.1 h1
    obtain ⟨b1, b2, b3⟩ := rep_dpL k ds r' h.2 h2
    refine ⟨.cons a1 b1, ?_, ?_⟩
    · show ((toPd d).canLay0 && PyData.canLayAll0 (toPdL ds)) = true
      rw [a2, b2]; rfl
    · show max (toPd d).depth (PyData.depthAll (toPdL ds)) ≤ k
      omega
end
theorem arr_beq (a b : List Nat) : ((⟨a.toArray⟩ : Str) == (⟨b.toArray⟩ : Str)) = (a == b) := by
  rw [Bool.eq_iff_iff]
  simp only [beq_iff_eq]
  constructor
  · intro e
    have := congrArg (fun z : Str => z.cps.toList) e
    simpa using this
  · intro e; rw [e]
mutual
theorem eqv_pd : ∀ (k j : Nat) (a b : D), D.sh k a = true → D.sh j b = true → PyData.eqv (toPd a) (toPd b) = D.eqv a b := by
  intro k j a b ha hb
  cases a with
  | tup xs =>
    cases b with
    | tup ys =>
      cases k with
      | zero => simp [D.sh] at ha
      | succ k =>
        cases j with
        | zero => simp [D.sh] at hb
        | succ j =>
          show PyData.eqvAll (toPdL xs) (toPdL ys) = D.eqvL xs ys
          exact eqv_pdL k j xs ys (by simpa only [D.sh] using ha) (by simpa only [D.sh] using hb)
    | str y => rfl
    | _ => first | rfl | (cases j <;> simp [D.sh] at hb)
  | lst xs =>
    cases b with
    | lst ys =>
      cases k with
      | zero => simp [D.sh] at ha
      | succ k =>
        cases j with
        | zero => simp [D.sh] at hb
        | succ j =>
          show PyData.eqvAll (toPdL xs) (toPdL ys) = D.eqvL xs ys
          exact eqv_pdL k j xs ys (by simpa only [D.sh] using ha) (by simpa only [D.sh] using hb)
    | str y => rfl
    | _ => first | rfl | (cases j <;> simp [D.sh] at hb)
  | str x =>
    cases b with
    | str y =>
      show ((⟨x.toArray⟩ : Str) == ⟨y.toArray⟩) = D.eqv (.str x) (.str y)
      rw [arr_beq]
      simp only [D.eqv]
    | _ => first | rfl | (cases j <;> simp [D.sh] at hb)
  | non => cases b <;> first | rfl | (cases j <;> simp [D.sh] at hb)
  | bl i => cases b <;> first | rfl | (cases j <;> simp [D.sh] at hb)
  | int i => cases b <;> first | rfl | (cases j <;> simp [D.sh] at hb)
  | _ => cases k <;> simp [D.sh] at ha
theorem eqv_pdL : ∀ (k j : Nat) (a b : List D), D.shL k a = true → D.shL j b = true → PyData.eqvAll (toPdL a) (toPdL b) = D.eqvL a b
  | k, j, [], [], _, _ => rfl
  | k, j, [], _ :: _, _, _ => rfl
  | k, j, _ :: _, [], _, _ => rfl
  | k, j, x :: xs, y :: ys, ha, hb => by
    simp only [D.shL, Bool.and_eq_true] at ha hb
    show (PyData.eqv (toPd x) (toPd y) && PyData.eqvAll (toPdL xs) (toPdL ys)) = (D.eqv x y && D.eqvL xs ys)
    rw [eqv_pd k j x y ha.1 hb.1, eqv_pdL k j xs ys ha.2 hb.2]
end

theorem RepM.lst_at (rm : RepM C ρ H m) {n : Nat} {ds : List D} {v : V} (r : RepV C ρ H (.ref n) v) (e : m[n]? = some (.lst ds)) : ∃ a xs, v = .ref a ∧ ρ.l[n]? = some (a, true) ∧ H a = some (.lst xs) ∧ RepL C ρ H ds xs := by
  simp only [RepV] at r
  obtain ⟨a, rfl, l, q⟩ := r
  obtain ⟨hl, xs, h1, h2⟩ := rm.obj n a l _ q e
  subst hl
  exact ⟨a, xs, rfl, q, h1, h2⟩
theorem ints_rep : ∀ ns : List Int, RepL C ρ H (ns.map D.int) (ns.map V.int)
  | [] => by simp only [List.map_nil, RepL]
  | n :: ns => by
    simp only [List.map_cons, RepL]
    exact ⟨_, _, rfl, rv_int, ints_rep ns⟩
/-- a list that is read -/
theorem lst_read (rm : RepM C ρ H m) {d : D} {ds : List D} {v : V} (r : RepV C ρ H d v) (e : lstOf m d = some ds) : ∃ a xs, v = .ref a ∧ SqL C.K H a xs ∧ RepL C ρ H ds xs := by
  cases d with
  | lst ds' =>
    cases e
    obtain ⟨a, xs, e1, _, s1, l1⟩ := r.lst_at
    exact ⟨a, xs, e1, .inl (.inl s1), l1⟩
  | scr ns =>
    cases e
    obtain ⟨a, e1, s1⟩ := r.scr_sq
    exact ⟨a, _, e1, s1, ints_rep ns⟩
  | ref n =>
    simp only [lstOf] at e
    split at e
    · rename_i ds' q
      cases e
      obtain ⟨a, xs, e1, _, s1, l1⟩ := rm.lst_at r q
      exact ⟨a, xs, e1, .inl (.inl s1), l1⟩
    · cases e
  | _ => cases e
theorem seq_read (rm : RepM C ρ H m) {d : D} {ds : List D} {v : V} (r : RepV C ρ H d v) (e : seqOf m d = some ds) : ∃ a xs, v = .ref a ∧ (SqL C.K H a xs ∨ SqT C.K H a xs) ∧ RepL C ρ H ds xs := by
  cases d with
  | tup ds' =>
    cases e
    obtain ⟨a, xs, e1, s1, l1⟩ := r.tup_sq
    exact ⟨a, xs, e1, .inr s1, l1⟩
  | tpx ds' =>
    cases e
    obtain ⟨a, xs, e1, s1, l1⟩ := r.wk.tup_sq
    exact ⟨a, xs, e1, .inr s1, l1⟩
  | lst _ => obtain ⟨a, xs, e1, s1, l1⟩ := lst_read rm r e; exact ⟨a, xs, e1, .inl s1, l1⟩
  | scr _ => obtain ⟨a, xs, e1, s1, l1⟩ := lst_read rm r e; exact ⟨a, xs, e1, .inl s1, l1⟩
  | ref _ => obtain ⟨a, xs, e1, s1, l1⟩ := lst_read rm r e; exact ⟨a, xs, e1, .inl s1, l1⟩
  | _ => cases e
theorem now_dp (rm : RepM C ρ H m) {k : Nat} {d : D} {v : V} (hk : D.sh k (d.now m) = true) (r : RepV C ρ H d v) : Dp C.K H v (toPd (d.now m)) ∧ (toPd (d.now m)).canLay0 = true ∧ (toPd (d.now m)).depth ≤ k := by
  have viaL : ∀ ds, lstOf m d = some ds → d.now m = .lst ds → Dp C.K H v (toPd (d.now m)) ∧ (toPd (d.now m)).canLay0 = true ∧ (toPd (d.now m)).depth ≤ k := fun ds e1 e2 => by
    obtain ⟨a, xs, rfl, s1, l1⟩ := lst_read rm r e1
    rw [e2] at hk ⊢
    cases k with
    | zero => simp [D.sh] at hk
    | succ k =>
      obtain ⟨h1, h2, h3⟩ := rep_dpL k ds xs (by simpa only [D.sh] using hk) l1
      exact ⟨.lst s1 h1, h2, Nat.succ_le_succ h3⟩
  cases d with
  | tpx ds => exact rep_dp k (.tup ds) v hk r.wk
  | scr ns => exact viaL _ rfl rfl
  | ref n =>
    cases q : m[n]? with
    | none => simp only [D.now, q] at hk; cases k <;> simp [D.sh] at hk
    | some o =>
      cases o with
      | lst ds => exact viaL ds (by simp only [lstOf, q]) (by simp only [D.now, q])
      | _ => simp only [D.now, q] at hk; cases k <;> simp [D.sh] at hk
  | _ => exact rep_dp k _ v hk r
theorem sh_now {k : Nat} {d : D} : D.sh k (d.now m) = true → D.sh k (d.now m) = true := id
theorem os_eq : OpS C (rEqD C.K) eqD := by
  intro ρ H m d1 d2 v1 v2 d Q rm r1 r2 e q
  unfold eqD at e
  split at e
  · rename_i hs
    rw [Bool.and_eq_true] at hs
    cases e
    obtain ⟨a1, a2, a3⟩ := now_dp rm hs.1 r1
    obtain ⟨b1, b2, b3⟩ := now_dp rm hs.2 r2
    refine ⟨_, _, a1, b1, ?_, ?_, ?_⟩
    · unfold SeqAt.shaped; rw [a2, decide_eq_true (by omega)]; rfl
    · unfold SeqAt.shaped; rw [b2, decide_eq_true (by omega)]; rfl
    · rw [eqv_pd 9 9 _ _ hs.1 hs.2]
      exact q _ H (Same.refl H) rv_bl
  · cases e
theorem os_ne : OpS C (rNeD C.K) neD := by
  intro ρ H m d1 d2 v1 v2 d Q rm r1 r2 e q
  unfold neD at e
  split at e
  · rename_i hs
    rw [Bool.and_eq_true] at hs
    cases e
    obtain ⟨a1, a2, a3⟩ := now_dp rm hs.1 r1
    obtain ⟨b1, b2, b3⟩ := now_dp rm hs.2 r2
    refine ⟨_, _, a1, b1, ?_, ?_, ?_⟩
    · unfold SeqAt.shaped; rw [a2, decide_eq_true (by omega)]; rfl
    · unfold SeqAt.shaped; rw [b2, decide_eq_true (by omega)]; rfl
    · rw [eqv_pd 9 9 _ _ hs.1 hs.2]
      exact q _ H (Same.refl H) rv_bl
  · cases e

/-! ### in -/
theorem flat_rep {d : D} {v : V} (h : d.flat = true) (r : RepV C ρ H d v) : flatV v = true := by
  cases d with
  | non => rw [r.non_at]; rfl
  | bl b => rw [r.bl_at]; rfl
  | int i => rw [r.int_at]; rfl
  | str s => rw [r.str_at.1]; rfl
  | _ => cases h
theorem eqV_rep {d e : D} {v u : V} (h1 : d.flat = true) (h2 : e.flat = true) (r1 : RepV C ρ H d v) (r2 : RepV C ρ H e u) : eqV v u = D.eqv d e := by
  cases d with
  | non => rw [r1.non_at]; cases e <;> first | (rw [r2.non_at]; rfl) | (rw [r2.bl_at]; rfl) | (rw [r2.int_at]; rfl) | (rw [r2.str_at.1]; rfl) | cases h2
  | bl b => rw [r1.bl_at]; cases e <;> first | (rw [r2.non_at]; rfl) | (rw [r2.bl_at]; rfl) | (rw [r2.int_at]; rfl) | (rw [r2.str_at.1]; rfl) | cases h2
  | int i => rw [r1.int_at]; cases e <;> first | (rw [r2.non_at]; rfl) | (rw [r2.bl_at]; rfl) | (rw [r2.int_at]; rfl) | (rw [r2.str_at.1]; rfl) | cases h2
  | str s =>
    rw [r1.str_at.1]
    cases e with
    | str s' =>
      rw [r2.str_at.1]
      show ((⟨s.toArray⟩ : Str) == ⟨s'.toArray⟩) = _
      rw [arr_beq]; simp only [D.eqv]
    | non => rw [r2.non_at]; rfl
    | bl _ => rw [r2.bl_at]; rfl
    | int _ => rw [r2.int_at]; rfl
    | _ => cases h2
  | _ => cases h1
theorem flat_all : ∀ {ds : List D} {vs : List V}, ds.all D.flat = true → RepL C ρ H ds vs → vs.all flatV = true
  | [], _, _, r => by simp only [RepL] at r; rw [r]; rfl
  | d :: ds, vs, h, r => by
    simp only [RepL] at r
    obtain ⟨v, r', rfl, h1, h2⟩ := r
    simp only [List.all_cons, Bool.and_eq_true] at h ⊢
    exact ⟨flat_rep h.1 h1, flat_all h.2 h2⟩
theorem any_rep {x : D} {vx : V} (hx : x.flat = true) (rx : RepV C ρ H x vx) : ∀ {ds : List D} {vs : List V}, ds.all D.flat = true → RepL C ρ H ds vs → inV vx vs = ds.any fun d => D.eqv d x
  | [], _, _, r => by simp only [RepL] at r; rw [r]; rfl
  | d :: ds, vs, h, r => by
    simp only [RepL] at r
    obtain ⟨v, r', rfl, h1, h2⟩ := r
    simp only [List.all_cons, Bool.and_eq_true] at h
    show (eqV v vx || inV vx r') = _
    rw [eqV_rep h.1 hx h1 rx, any_rep hx rx h.2 h2]
    rfl
abbrev rIn2 (K : PySem.W.Frag) : R2 := fun x y H Q => (∃ (c : Nat) (z : Str), x = .str ⟨#[c]⟩ ∧ y = .str z ∧ Q (.bl (decide (c ∈ z.cps.toList))) H) ∨ rIn K false x y H Q
abbrev rNotIn2 (K : PySem.W.Frag) : R2 := fun x y H Q => (∃ (c : Nat) (z : Str), x = .str ⟨#[c]⟩ ∧ y = .str z ∧ Q (.bl (!decide (c ∈ z.cps.toList))) H) ∨ rIn K true x y H Q
theorem or_in : OpR X (compareOp .In) (rIn2 X.K) := op_in_sign.or op_in_seq
theorem or_notIn : OpR X (compareOp .NotIn) (rNotIn2 X.K) := op_notIn_sign.or op_notIn_seq
theorem in_cases {x y : D} {b : Bool} (e : inD m x y = some (.bl b)) : (∃ c s, x = .str [c] ∧ y = .str s ∧ b = decide (c ∈ s)) ∨ (∃ ds, seqOf m y = some ds ∧ x.flat = true ∧ ds.all D.flat = true ∧ b = ds.any fun d => D.eqv d x) := by
  unfold inD at e
  split at e
  · rename_i c s
    exact .inl ⟨c, s, rfl, rfl, by injection e with e; injection e with e; exact e.symm⟩
  · split at e
    · rename_i ds q
      split at e
      · rename_i hf
        rw [Bool.and_eq_true] at hf
        exact .inr ⟨ds, q, hf.1, hf.2, by injection e with e; injection e with e; exact e.symm⟩
      · cases e
    · cases e
theorem in_bl {x y d : D} (e : inD m x y = some d) : ∃ b, d = .bl b := by
  unfold inD at e
  split at e
  · exact ⟨_, (Option.some.inj e).symm⟩
  · split at e
    · split at e
      · exact ⟨_, (Option.some.inj e).symm⟩
      · cases e
    · cases e
theorem os_in : OpS C (rIn2 C.K) inD := by
  intro ρ H m d1 d2 v1 v2 d Q rm r1 r2 e q
  obtain ⟨b, rfl⟩ := in_bl e
  rcases in_cases e with ⟨c, s, rfl, rfl, rfl⟩ | ⟨ds, hq, hf, ha, rfl⟩
  · exact .inl ⟨c, _, r1.str_at.1, r2.str_at.1, q _ H (Same.refl H) rv_bl⟩
  · obtain ⟨a, xs, e2, sq, rl⟩ := seq_read rm r2 hq
    refine .inr ⟨a, xs, e2, sq, flat_rep hf r1, flat_all ha rl, ?_⟩
    rw [if_neg (by decide), any_rep hf r1 ha rl]
    exact q _ H (Same.refl H) rv_bl
theorem os_notIn : OpS C (rNotIn2 C.K) notInD := by
  intro ρ H m d1 d2 v1 v2 d Q rm r1 r2 e q
  unfold notInD at e
  split at e
  · rename_i b e'
    cases e
    rcases in_cases e' with ⟨c, s, rfl, rfl, rfl⟩ | ⟨ds, hq, hf, ha, rfl⟩
    · exact .inl ⟨c, _, r1.str_at.1, r2.str_at.1, q _ H (Same.refl H) rv_bl⟩
    · obtain ⟨a, xs, e2, sq, rl⟩ := seq_read rm r2 hq
      refine .inr ⟨a, xs, e2, sq, flat_rep hf r1, flat_all ha rl, ?_⟩
      rw [if_pos rfl, any_rep hf r1 ha rl]
      exact q _ H (Same.refl H) rv_bl
  · cases e
theorem non_iff {d : D} {v : V} (r : RepV C ρ H d v) : decide (v = .non) = d.isN := by
  cases d with
  | non => rw [r.non_at]; rfl
  | bl b => rw [r.bl_at]; rfl
  | int i => rw [r.int_at]; rfl
  | str s => rw [r.str_at.1]; rfl
  | tup ds => obtain ⟨a, xs, rfl, _⟩ := r.tup_sq; rfl
  | tpx ds => obtain ⟨a, xs, rfl, _⟩ := r.wk.tup_sq; rfl
  | lst ds => obtain ⟨a, xs, rfl, _⟩ := r.lst_at; rfl
  | scr ns => obtain ⟨a, rfl, _⟩ := r.scr_sq; rfl
  | dct _ _ => simp only [RepV] at r; obtain ⟨a, xs, rfl, _⟩ := r; rfl
  | gdz _ _ => simp only [RepV] at r; obtain ⟨a, _, _, _, rfl, _⟩ := r; rfl
  | ref _ => simp only [RepV] at r; obtain ⟨a, rfl, _⟩ := r; rfl
  | ty n => rw [r.ty_at]; rfl
  | fn _ => simp only [RepV] at r; obtain ⟨a, rfl, _⟩ := r; rfl
  | exc _ => simp only [RepV] at r; obtain ⟨a, rfl, _⟩ := r; rfl
theorem os_isN : OpS C (fun x y H Q => y = .non ∧ Q (.bl (decide (x = .non))) H) isND := by
  intro ρ H m d1 d2 v1 v2 d Q rm r1 r2 e q
  cases d2 with
  | non =>
    cases e
    refine ⟨r2.non_at, ?_⟩
    rw [non_iff r1]
    exact q _ H (Same.refl H) rv_bl
  | _ => cases e
theorem os_notN : OpS C (fun x y H Q => y = .non ∧ Q (.bl (!decide (x = .non))) H) isNotND := by
  intro ρ H m d1 d2 v1 v2 d Q rm r1 r2 e q
  cases d2 with
  | non =>
    cases e
    refine ⟨r2.non_at, ?_⟩
    rw [non_iff r1]
    exact q _ H (Same.refl H) rv_bl
  | _ => cases e

/-! ### subscripts, slices -/
theorem ix_eq (n : Nat) (i : Int) : ixN n i = ixD n i := rfl
theorem os_get : OpS C (rIx C.K) LW.getD := by
  intro ρ H m d1 d2 v1 v2 d Q rm r1 r2 e q
  cases d2 with
  | int i =>
    have e2 := r2.int_at
    cases d1 with
    | str s =>
      simp only [LW.getD] at e
      obtain ⟨j, hj, e⟩ := Option.bind_eq_some_iff.mp e
      obtain ⟨c, hc, e⟩ := Option.map_eq_some_iff.mp e
      subst e
      obtain ⟨e1, l1, c1⟩ := r1.str_at
      refine .inr (.inr ⟨_, i, c, e1, e2, by rw [str_len, ← lim_eq]; exact l1, ?_, ?_⟩)
      · show (ixN s.length i).bind (fun j => s[j]?) = some c
        rw [ix_eq, hj]; exact hc
      · exact q _ H (Same.refl H) (rv_str (s := [c]) (show 1 ≤ lim by decide) fun c' hm => by
          rw [List.mem_singleton.mp hm]; exact c1 c (List.mem_of_getElem? hc))
    | tup ds =>
      simp only [LW.getD, seqOf] at e
      obtain ⟨j, hj, e⟩ := Option.bind_eq_some_iff.mp e
      obtain ⟨a, xs, e1, sq, rl⟩ := r1.tup_sq
      obtain ⟨v, hv, rv⟩ := rl.get e
      refine .inr (.inl ⟨a, xs, i, v, e1, e2, sq, ?_, q _ H (Same.refl H) rv⟩)
      show (ixN xs.length i).bind (fun j => xs[j]?) = some v
      rw [← rl.length, ix_eq, hj]; exact hv
    | tpx ds =>
      simp only [LW.getD, seqOf] at e
      obtain ⟨j, hj, e⟩ := Option.bind_eq_some_iff.mp e
      obtain ⟨a, xs, e1, sq, rl⟩ := r1.wk.tup_sq
      obtain ⟨v, hv, rv⟩ := rl.get e
      refine .inr (.inl ⟨a, xs, i, v, e1, e2, sq, ?_, q _ H (Same.refl H) rv⟩)
      show (ixN xs.length i).bind (fun j => xs[j]?) = some v
      rw [← rl.length, ix_eq, hj]; exact hv
    | lst ds =>
      simp only [LW.getD, seqOf, lstOf] at e
      obtain ⟨j, hj, e⟩ := Option.bind_eq_some_iff.mp e
      obtain ⟨a, xs, e1, sq, rl⟩ := lst_read rm r1 rfl
      obtain ⟨v, hv, rv⟩ := rl.get e
      refine .inl ⟨a, xs, i, v, e1, e2, sq, ?_, q _ H (Same.refl H) rv⟩
      show (ixN xs.length i).bind (fun j => xs[j]?) = some v
      rw [← rl.length, ix_eq, hj]; exact hv
    | scr ns =>
      simp only [LW.getD, seqOf, lstOf] at e
      obtain ⟨j, hj, e⟩ := Option.bind_eq_some_iff.mp e
      obtain ⟨a, xs, e1, sq, rl⟩ := lst_read rm r1 rfl
      obtain ⟨v, hv, rv⟩ := rl.get e
      refine .inl ⟨a, xs, i, v, e1, e2, sq, ?_, q _ H (Same.refl H) rv⟩
      show (ixN xs.length i).bind (fun j => xs[j]?) = some v
      rw [← rl.length, ix_eq, hj]; exact hv
    | ref n =>
      simp only [LW.getD, seqOf] at e
      cases hs : lstOf m (.ref n) with
      | none => rw [hs] at e; cases e
      | some ds =>
        rw [hs] at e
        obtain ⟨j, hj, e⟩ := Option.bind_eq_some_iff.mp e
        obtain ⟨a, xs, e1, sq, rl⟩ := lst_read rm r1 hs
        obtain ⟨v, hv, rv⟩ := rl.get e
        refine .inl ⟨a, xs, i, v, e1, e2, sq, ?_, q _ H (Same.refl H) rv⟩
        show (ixN xs.length i).bind (fun j => xs[j]?) = some v
        rw [← rl.length, ix_eq, hj]; exact hv
    | _ => cases e
  | _ => cases e
variable {a b c : Expr} {fa fb fc : Ex} {pos : Pos}
theorem de_ix {f : Op} {r : R2} (ho : IxR X r) (hs : OpS C r f) (ha : DE C W X a fa) (hb : DE C W X b fb) (hp : PlainIx b) : DE C W X (.Subscript a b pos) (opE f fa fb) :=
  PE.imp (pe_ix ho ha hb hp) (bin_of hs)
end
end LW
/-! LwQ: slices, built-in functions, methods, what is walked, lists that change: the rules over data. -/
namespace LW
open PySem PySem.Spec PyProof.Rows L2
section
variable {C : Cn} {W : XK} {X : Cx} {a b c : Expr} {fa fb fc : Ex} {pos : Pos} {es : List Expr} {fr : Ar}

/-! ### slices -/
def SlS (C : Cn) (r : V → Option Int → Option Int → Hp → VK → Prop) (f : Sl) : Prop := ∀ (ρ : Rho) (H : Hp) (m : Mem) (d1 : D) (lo hi : Option Int) (v1 : V) (d : D) (Q : VK), RepM C ρ H m → RepV C ρ H d1 v1 → f m d1 lo hi = some d →
  (∀ v H', Same H H' → RepV C ρ H' d v → Q v H') → r v1 lo hi H Q
abbrev DO (C : Cn) (W : XK) (X : Cx) (e : Option Expr) (f : Op1) : Prop := PO X e (fun σ H Q => ∃ ρ g m, RepE C ρ H g σ ∧ RepM C ρ H m ∧ fin C ρ H W (f g m) fun o _ _ H' => Q o H')
theorem PO.imp {e : Option Expr} {t t' : TO} (h : PO X e t) (i : ∀ σ H Q, t' σ H Q → t σ H Q) : PO X e t' := ⟨fun pins s σ H Q I q => h.run pins s σ H Q I (i σ H Q q)⟩
theorem do_no : DO C W X none noO := by
  refine PO.imp po_none ?_
  rintro σ H Q ⟨ρ, g, m, re, rm, h⟩
  exact fin.now rm h
theorem do_some (h : DE C W X a fa) : DO C W X (some a) (someO fa) := by
  refine PO.imp (po_some h) ?_
  rintro σ H Q ⟨ρ, g, m, re, rm, h⟩
  refine ⟨ρ, g, m, re, rm, h.bind.imp fun d m1 ρ1 H1 x1 rm1 h1 v r => ?_⟩
  cases d with
  | int i => exact ⟨i, r.int_at, fin.now rm1 h1⟩
  | _ => exact h1.elim
theorem de_sl {f : Sl} {r : V → Option Int → Option Int → Hp → VK → Prop} {lo hi : Option Expr} {fl fh : Op1} {p2 : Pos} (ho : SlR X r) (hs : SlS C r f) (ha : DE C W X a fa) (hl : DO C W X lo fl) (hh : DO C W X hi fh) :
    DE C W X (.Subscript a (.Slice lo hi none p2) pos) (slE f fa fl fh) := by
  refine PE.imp (pe_slice ho ha hl hh) ?_
  rintro σ H Q ⟨ρ, g, m, re, rm, h⟩
  refine ⟨ρ, g, m, re, rm, h.bind.imp fun d m1 ρ1 H1 x1 rm1 h1 v r => ?_⟩
  refine ⟨ρ1, g, m1, re.ext x1, rm1, h1.bind.imp fun l m2 ρ2 H2 x2 rm2 h2 => ?_⟩
  refine ⟨ρ2, g, m2, (re.ext x1).ext x2, rm2, h2.bind.imp fun u m3 ρ3 H3 x3 rm3 h3 => ?_⟩
  obtain ⟨d', e, q⟩ := h3.opt rm3
  exact hs ρ3 H3 m3 d l u v d' Q rm3 ((r.ext x2).ext x3) e q
theorem sIx_eq (n d : Nat) (o : Option Int) : HT.sIx n d o = sIxD n d o := by cases o <;> rfl
theorem cutV_eq (xs : List V) (lo hi : Option Int) : cutV xs lo hi = cutD xs lo hi := by
  unfold cutV cutD
  rw [sIx_eq, sIx_eq]
theorem RepL.cutD {ρ : Rho} {H : Hp} {ds : List D} {vs : List V} (h : RepL C ρ H ds vs) (lo hi : Option Int) : RepL C ρ H (cutD ds lo hi) (cutD vs lo hi) := by
  unfold LW.cutD
  rw [h.length]
  exact (h.drop _).take _
theorem cutD_sub {α : Type} {xs : List α} {lo hi : Option Int} {c : α} (h : c ∈ cutD xs lo hi) : c ∈ xs := List.mem_of_mem_drop (List.mem_of_mem_take h)
theorem cutD_len {α : Type} (xs : List α) (lo hi : Option Int) : (cutD xs lo hi).length ≤ xs.length := by
  unfold cutD
  rw [List.length_take, List.length_drop]
  omega
abbrev rSl3 (K : PySem.W.Frag) : V → Option Int → Option Int → Hp → VK → Prop := fun x lo hi H Q => rSlS x lo hi H Q ∨ (rSlA K x lo hi H Q ∨ rSlL K x lo hi H Q)
theorem or_sl : SlR X (rSl3 X.K) := sl_str.or (sl_tupA.or sl_list)
theorem cutS_eq (s : List Nat) (lo hi : Option Int) : cutS ⟨s.toArray⟩ lo hi = ⟨(cutD s lo hi).toArray⟩ := by
  apply TL.ext_tl
  unfold cutS cutD
  simp only [str_len, sIx_eq]
theorem ss_sl : SlS C (rSl3 C.K) slD := by
  intro ρ H m d1 lo hi v1 d Q rm r1 e q
  have viaL : ∀ ds, lstOf m d1 = some ds → d = .lst (cutD ds lo hi) → rSl3 C.K v1 lo hi H Q := fun ds e1 e2 => by
    obtain ⟨a, xs, rfl, sq, rl⟩ := lst_read rm r1 e1
    subst e2
    refine .inr (.inr ⟨a, xs, rfl, sq, fun p hp => ?_⟩)
    rw [cutV_eq]
    exact q _ _ (same_upd hp) (rep_lst rm hp (rl.cutD lo hi))
  cases d1 with
  | str s =>
    cases e
    obtain ⟨e1, l1, c1⟩ := r1.str_at
    refine .inl ⟨_, e1, by rw [str_len, ← lim_eq]; exact l1, ?_⟩
    rw [cutS_eq]
    exact q _ H (Same.refl H) (rv_str (Nat.le_trans (cutD_len s lo hi) l1) fun c hc => c1 c (cutD_sub hc))
  | tup ds =>
    cases e
    obtain ⟨a, xs, e1, sq, rl⟩ := r1.tup_sq
    refine .inr (.inl ⟨a, xs, e1, sq, fun hw => ?_, fun _ p hp => ?_⟩)
    · have : cutD ds lo hi = ds := by
        unfold cutD
        rw [rl.length, ← sIx_eq, ← sIx_eq, hw.1, hw.2, Nat.sub_zero, List.drop_zero, ← rl.length, List.take_length]
      rw [this] at q
      rw [← e1]
      exact q _ H (Same.refl H) r1
    · rw [cutV_eq]
      exact q _ _ (same_upd hp) (rep_tup rm hp (rl.cutD lo hi))
  | tpx ds =>
    cases e
    obtain ⟨a, xs, e1, sq, rl⟩ := r1.wk.tup_sq
    refine .inr (.inl ⟨a, xs, e1, sq, fun hw => ?_, fun _ p hp => ?_⟩)
    · have : cutD ds lo hi = ds := by
        unfold cutD
        rw [rl.length, ← sIx_eq, ← sIx_eq, hw.1, hw.2, Nat.sub_zero, List.drop_zero, ← rl.length, List.take_length]
      rw [this] at q
      rw [← e1]
      exact q _ H (Same.refl H) r1.wk
    · rw [cutV_eq]
      exact q _ _ (same_upd hp) (rep_tup rm hp (rl.cutD lo hi))
  | lst ds => cases e; exact viaL _ rfl rfl
  | scr ns => cases e; exact viaL _ rfl rfl
  | ref n =>
    simp only [slD] at e
    obtain ⟨ds, h1, h2⟩ := Option.map_eq_some_iff.mp e
    exact viaL ds h1 h2.symm
  | _ => cases e

/-! ### built-in functions -/
theorem bs_len : BfS C (fun xs H Q => ∃ x n, xs = [x] ∧ LenV C.K x H n ∧ Q (.int n) H) lenB := by
  intro ρ H m ds vs d Q rm rl e q
  cases ds with
  | nil => cases e
  | cons d1 r =>
    cases r with
    | cons _ _ => cases d1 <;> cases e
    | nil =>
      simp only [RepL] at rl
      obtain ⟨v, _, rfl, r1, rfl⟩ := rl
      have viaS : ∀ ds, seqOf m d1 = some ds → d = .int ds.length → ∃ x n, [v] = [x] ∧ LenV C.K x H n ∧ Q (.int n) H := fun ds e1 e2 => by
        obtain ⟨a, xs, rfl, sq, rl⟩ := seq_read rm r1 e1
        subst e2
        refine ⟨_, xs.length, rfl, ?_, ?_⟩
        · rcases sq with sq | sq
          · exact .inl ⟨xs, sq, rfl⟩
          · exact .inr ⟨xs, sq, rfl⟩
        · rw [← rl.length]
          exact q _ H (Same.refl H) rv_int
      cases d1 with
      | str s =>
        cases e
        obtain ⟨e1, l1, c1⟩ := r1.str_at
        refine ⟨v, s.length, rfl, ?_, q _ H (Same.refl H) rv_int⟩
        rw [e1]
        exact ⟨by rw [str_len, ← lim_eq]; exact l1, (str_len s).symm⟩
      | tup ds => cases e; exact viaS _ rfl rfl
      | tpx ds => cases e; exact viaS _ rfl rfl
      | lst ds => cases e; exact viaS _ rfl rfl
      | scr ns => cases e; exact viaS _ rfl rfl
      | ref n =>
        simp only [lenB] at e
        obtain ⟨ds, h1, h2⟩ := Option.map_eq_some_iff.mp e
        exact viaS ds h1 h2.symm
      | _ => cases e
/-- its type -/
theorem ty_of {ρ : Rho} {H : Hp} {m : Mem} (rm : RepM C ρ H m) {d : D} {v : V} {n : String} (r : RepV C ρ H d v) (e : d.tyN m = some n) : TyX C.K H v (.type n) := by
  have sqT : ∀ {a xs}, SqT C.K H a xs → TyX C.K H (.ref a) (.type "tuple") := fun {a xs} sq => by
    rcases sq with (sq | ⟨o, sq⟩) | ⟨o, its, k, h1, h2, _⟩
    · exact .base (.tup sq)
    · exact .fTuple sq
    · exact .kTuple h1 h2
  have sqL : ∀ {a xs}, SqL C.K H a xs → TyX C.K H (.ref a) (.type "list") := fun {a xs} sq => by
    rcases sq with (sq | ⟨o, sq⟩) | ⟨o, its, k, h1, h2, _⟩
    · exact .base (.lst sq)
    · exact .base (.frz sq)
    · exact .kList h1 h2
  cases d with
  | non => cases e; rw [r.non_at]; exact .base .non
  | bl b => cases e; rw [r.bl_at]; exact .base (.bl b)
  | int i => cases e; rw [r.int_at]; exact .base (.int i)
  | str s => cases e; rw [r.str_at.1]; exact .base (.str _)
  | tup ds => cases e; obtain ⟨a, xs, rfl, sq, _⟩ := r.tup_sq; exact sqT sq
  | tpx ds => cases e; obtain ⟨a, xs, rfl, sq, _⟩ := r.wk.tup_sq; exact sqT sq
  | lst ds => cases e; obtain ⟨a, xs, rfl, _, sq, _⟩ := r.lst_at; exact .base (.lst sq)
  | scr ns => cases e; obtain ⟨a, rfl, sq⟩ := r.scr_sq; exact sqL sq
  | ref k =>
    simp only [D.tyN] at e
    split at e
    · rename_i ds q
      cases e
      obtain ⟨a, xs, rfl, _, sq, _⟩ := rm.lst_at r q
      exact .base (.lst sq)
    · cases e
  | _ => cases e
def tyNames : List String := ["NoneType", "bool", "int", "str", "tuple", "list"]
theorem kit_all : ∀ n ∈ tyNames, ∀ t ∈ ["int", "bool", "str", "tuple", "list"], kitB n t = some (n == t || (n == "bool" && t == "int")) := by decide +kernel
theorem de_is {t : String} {x : Str} {p p2 pos : Pos} (ht : t ∈ ["int", "bool", "str", "tuple", "list"]) (hK : C.K = X.K) (hg : Gl X "isinstance") (hm : X.mg "isinstance" = none) (hg2 : Gl X x) (hm2 : X.mg x = none) (hv : bootBuiltins x = some (.type t)) (ha : DE C W X a fa)
    (hn : x ≠ "__name__" := by decide) (hdb : (x == ("__debug__" : Str)) = false := by decide)
    (s1 : starEach (a :: [.Name x p2]) X.env = (false, eval a X.env) :: starEach [.Name x p2] X.env := by rfl) (s2 : starEach (.Name x p2 :: []) X.env = (false, eval (.Name x p2) X.env) :: starEach [] X.env := by rfl)
    (hpl : (backTo pos (starEach [.Name x p2] X.env)).any (·.1) = false := by rfl) : DE C W X (.Call (.Name "isinstance" p) [a, .Name x p2] [] pos) (unE (isD t) fa) := by
  refine PE.imp (pe_callB call_isi hg hm (by decide +kernel) (pa_cons ha (pa_cons (pe_bltn (v := .ty t) hg2 hm2 hv rfl hn hdb) pa_nil s2) s1) (by decide) (by decide) s1 hpl) ?_
  rintro σ H Q ⟨ρ, g, m, re, rm, h⟩
  refine ⟨ρ, g, m, re, rm, h.bind.imp fun d m1 ρ1 H1 x1 rm1 h1 v r => ?_⟩
  obtain ⟨d', e, q⟩ := h1.opt rm1
  simp only [isD] at e
  obtain ⟨n, h2, h3⟩ := Option.map_eq_some_iff.mp e
  subst h3
  have hn : n ∈ tyNames := by
    cases d <;> simp only [D.tyN] at h2 <;> first
      | (cases h2; decide)
      | (split at h2 <;> first | (cases h2; decide) | cases h2)
      | cases h2
  show rIsi X.K [v, .ty t] H1 Q
  rw [← hK]
  exact ⟨v, .ty t, .type n, .type t, _, rfl, .ty t, ty_of rm1 r h2, kit_ty (kit_all n hn t ht), q _ H1 (Same.refl H1) rv_bl⟩
theorem bools_of {ρ : Rho} {H : Hp} : ∀ {ds : List D} {vs : List V}, ds.all (fun d => match d with | .bl _ => true | _ => false) = true → RepL C ρ H ds vs → ∃ bs : List Bool, vs = bs.map V.bl ∧ (ds.all fun d => match d with | .bl b => b | _ => false) = bs.all id
  | [], _, _, r => by simp only [RepL] at r; exact ⟨[], r, rfl⟩
  | d :: ds, vs, h, r => by
    simp only [RepL] at r
    obtain ⟨v, r', rfl, h1, h2⟩ := r
    simp only [List.all_cons, Bool.and_eq_true] at h
    obtain ⟨bs, e1, e2⟩ := bools_of h.2 h2
    cases d with
    | bl b => exact ⟨b :: bs, by rw [h1.bl_at, e1]; rfl, by simp only [List.all_cons, e2]; rfl⟩
    | _ => cases h.1
theorem bs_all : BfS C (rAll C.K) allB := by
  intro ρ H m ds vs d Q rm rl e q
  match ds, rl, e with
  | [x], rl, e =>
    simp only [RepL] at rl
    obtain ⟨v, _, rfl, r1, rfl⟩ := rl
    simp only [allB] at e
    split at e
    · rename_i ds' hq
      split at e
      · rename_i hb
        cases e
        obtain ⟨a, xs, rfl, sq, rl2⟩ := lst_read rm r1 hq
        obtain ⟨bs, e1, e2⟩ := bools_of hb rl2
        subst e1
        refine ⟨a, bs, rfl, sq, ?_⟩
        rw [← e2]
        exact q _ H (Same.refl H) rv_bl
      · cases e
    · cases e
  | [], _, e => cases e
  | _ :: _ :: _, _, e => cases e
theorem ints_of {ρ : Rho} {H : Hp} : ∀ {ds : List D} {vs : List V} {ns : List Int}, intsOf ds = some ns → RepL C ρ H ds vs → vs = ns.map V.int
  | [], _, _, e, r => by cases e; simp only [RepL] at r; rw [r]; rfl
  | d :: ds, vs, ns, e, r => by
    simp only [RepL] at r
    obtain ⟨v, r', rfl, h1, h2⟩ := r
    cases d with
    | int i =>
      simp only [intsOf] at e
      obtain ⟨l, h3, h4⟩ := Option.map_eq_some_iff.mp e
      subst h4
      rw [h1.int_at, ints_of h3 h2]; rfl
    | _ => cases e
theorem strs_of {ρ : Rho} {H : Hp} : ∀ {ds : List D} {vs : List V} {ps : List (List Nat)}, strsOf ds = some ps → RepL C ρ H ds vs → vs = (ps.map fun p => (⟨p.toArray⟩ : Str)).map V.str ∧ ∀ p ∈ ps, ∀ c ∈ p, c < 1114112
  | [], _, _, e, r => by cases e; exact ⟨by simp only [RepL] at r; rw [r]; rfl, fun p hp => (nomatch hp)⟩
  | d :: ds, vs, ps, e, r => by
    simp only [RepL] at r
    obtain ⟨v, r', rfl, h1, h2⟩ := r
    cases d with
    | str s =>
      simp only [strsOf] at e
      obtain ⟨l, h3, h4⟩ := Option.map_eq_some_iff.mp e
      subst h4
      obtain ⟨i1, i2⟩ := strs_of h3 h2
      refine ⟨by rw [h1.str_at.1, i1]; rfl, fun p hp => ?_⟩
      rcases List.mem_cons.mp hp with e | hp
      · subst e; exact h1.str_at.2.2
      · exact i2 p hp
    | _ => cases e
theorem bs_sum : BfS C (rSum C.K) sumB := by
  intro ρ H m ds vs d Q rm rl e q
  match ds, rl, e with
  | [x], rl, e =>
    simp only [RepL] at rl
    obtain ⟨v, _, rfl, r1, rfl⟩ := rl
    simp only [sumB] at e
    split at e
    · rename_i ds' hq
      obtain ⟨ns, h1, h2⟩ := Option.map_eq_some_iff.mp e
      subst h2
      obtain ⟨a, xs, rfl, sq, rl2⟩ := lst_read rm r1 hq
      have e1 := ints_of h1 rl2
      subst e1
      exact ⟨a, ns, rfl, sq, q _ H (Same.refl H) rv_int⟩
    · cases e
  | [], _, e => cases e
  | _ :: _ :: _, _, e => cases e
/-- list(text) -/
theorem cr_listS (hc : X.calm = true) : CallR X (.type "list") (fun xs H Q => ∃ z : Str, xs = [.str z] ∧ z.length ≤ sizeLine ∧ ∀ p, H p = none → Q (.ref p) (upd H p (.lst (z.cps.toList.map fun c => .str ⟨#[c]⟩)))) := by
  intro pins s σ H xs us Q I r h
  obtain ⟨z, rfl, hz, q⟩ := h
  obtain ⟨u, rfl, t, rfl⟩ := vals1 r
  refine call_list_str (I.ok.hd hc) z t (hn := hz) fun h' tk acc' c' hk hS' hacc => ?_
  have hf := I.hok.fresh (Nat.le_refl s.heap.objs.size)
  refine ⟨.ref s.heap.objs.size, _, I.laid (t' := tk) (o := .lst (z.cps.toList.map fun c => .str ⟨#[c]⟩)) hk (Nat.le_refl _) ⟨?_, acc'.toList, c', ?_, ?_⟩, rfl, q _ hf⟩
  · rw [List.length_map]; exact hz
  · refine vals_of_at ?_ fun j x u h1 h2 => ?_
    · rw [List.length_map, Array.length_toList, Array.length_toList]; exact hacc.1.symm
    · obtain ⟨c, t2, h3, rfl⟩ := hacc.2 j u (by rw [← Array.getElem?_toList]; exact h2)
      rw [List.getElem?_map, Array.getElem?_toList, h3] at h1
      cases h1
      exact ⟨t2, rfl⟩
  · rw [hS']
abbrev rList2 (K : PySem.W.Frag) : List V → Hp → VK → Prop := fun xs H Q => (∃ z : Str, xs = [.str z] ∧ z.length ≤ sizeLine ∧ ∀ p, H p = none → Q (.ref p) (upd H p (.lst (z.cps.toList.map fun c => .str ⟨#[c]⟩)))) ∨
  (∃ p ys, xs = [.ref p] ∧ (SqL K H p ys ∨ SqT K H p ys) ∧ ∀ l, H l = none → Q (.ref l) (upd H l (.lst ys)))
theorem CallR.or {f : Value} {r r' : List V → Hp → VK → Prop} (h : CallR X f r) (h' : CallR X f r') : CallR X f (fun xs H Q => r xs H Q ∨ r' xs H Q) := by
  intro pins s σ H xs us Q I rv q
  rcases q with q | q
  · exact h pins s σ H xs us Q I rv q
  · exact h' pins s σ H xs us Q I rv q
theorem or_list (hc : X.calm = true) : CallR X (.type "list") (rList2 X.K) := (cr_listS hc).or call_list_of
theorem signs_rep {ρ : Rho} {H : Hp} : ∀ {s : List Nat}, (∀ c ∈ s, c < 1114112) → RepL C ρ H (s.map fun c => D.str [c]) (s.map fun c => V.str ⟨#[c]⟩)
  | [], _ => by simp only [List.map_nil, RepL]
  | c :: s, h => by
    simp only [List.map_cons, RepL]
    exact ⟨_, _, rfl, rv_str (s := [c]) (show 1 ≤ lim by decide) (fun c' hm => by rw [List.mem_singleton.mp hm]; exact h c List.mem_cons_self), signs_rep fun c' hm => h c' (List.mem_cons_of_mem _ hm)⟩
theorem bs_list : BfS C (rList2 C.K) listB := by
  intro ρ H m ds vs d Q rm rl e q
  match ds, rl, e with
  | [x], rl, e =>
    simp only [RepL] at rl
    obtain ⟨v, _, rfl, r1, rfl⟩ := rl
    have viaS : ∀ ds, seqOf m x = some ds → d = .lst ds → rList2 C.K [v] H Q := fun ds e1 e2 => by
      obtain ⟨a, xs, rfl, sq, rl⟩ := seq_read rm r1 e1
      subst e2
      exact .inr ⟨a, xs, rfl, sq, fun p hp => q _ _ (same_upd hp) (rep_lst rm hp rl)⟩
    cases x with
    | str s =>
      cases e
      obtain ⟨e1, l1, c1⟩ := r1.str_at
      refine .inl ⟨_, by rw [e1], by rw [str_len, ← lim_eq]; exact l1, fun p hp => q _ _ (same_upd hp) (rep_lst rm hp (signs_rep c1))⟩
    | tup ds => cases e; exact viaS _ rfl rfl
    | tpx ds => cases e; exact viaS _ rfl rfl
    | lst ds => cases e; exact viaS _ rfl rfl
    | scr ns => cases e; exact viaS _ rfl rfl
    | ref n =>
      simp only [listB] at e
      obtain ⟨ds, h1, h2⟩ := Option.map_eq_some_iff.mp e
      exact viaS ds h1 h2.symm
    | _ => cases e
  | [], _, e => cases e
  | _ :: _ :: _, _, e => simp only [listB] at e; cases e
theorem bs_tuple : BfS C (fun xs H Q => ∃ p ys, xs = [.ref p] ∧ ((SqL C.K H p ys ∧ ∀ l, H l = none → Q (.ref l) (upd H l (.tup ys))) ∨ (SqT C.K H p ys ∧ Q (.ref p) H))) tupleB := by
  intro ρ H m ds vs d Q rm rl e q
  match ds, rl, e with
  | [x], rl, e =>
    simp only [RepL] at rl
    obtain ⟨v, _, rfl, r1, rfl⟩ := rl
    have viaL : ∀ ds, lstOf m x = some ds → d = .tup ds → ∃ p ys, [v] = [.ref p] ∧ ((SqL C.K H p ys ∧ ∀ l, H l = none → Q (.ref l) (upd H l (.tup ys))) ∨ (SqT C.K H p ys ∧ Q (.ref p) H)) := fun ds e1 e2 => by
      obtain ⟨a, xs, rfl, sq, rl⟩ := lst_read rm r1 e1
      subst e2
      exact ⟨a, xs, rfl, .inl ⟨sq, fun p hp => q _ _ (same_upd hp) (rep_tup rm hp rl)⟩⟩
    cases x with
    | tup ds =>
      cases e
      obtain ⟨a, xs, e1, sq, rl⟩ := r1.tup_sq
      refine ⟨a, xs, by rw [e1], .inr ⟨sq, ?_⟩⟩
      rw [← e1]
      exact q _ H (Same.refl H) r1
    | tpx ds =>
      cases e
      obtain ⟨a, xs, e1, sq, rl⟩ := r1.wk.tup_sq
      refine ⟨a, xs, by rw [e1], .inr ⟨sq, ?_⟩⟩
      rw [← e1]
      exact q _ H (Same.refl H) r1.wk
    | lst ds => cases e; exact viaL _ rfl rfl
    | scr ns => cases e; exact viaL _ rfl rfl
    | ref n =>
      simp only [tupleB] at e
      obtain ⟨ds, h1, h2⟩ := Option.map_eq_some_iff.mp e
      exact viaL ds h1 h2.symm
    | _ => cases e
  | [], _, e => cases e
  | _ :: _ :: _, _, e => simp only [tupleB] at e; cases e
theorem bs_int : BfS C (fun xs H Q => (∃ i, xs = [.int i] ∧ Q (.int i) H) ∨ ∃ k, xs = [.bl k] ∧ Q (.int (if k then 1 else 0)) H) intB := by
  intro ρ H m ds vs d Q rm rl e q
  cases ds with
  | nil => cases e
  | cons x r =>
    cases r with
    | cons _ _ => cases x <;> cases e
    | nil =>
      simp only [RepL] at rl
      obtain ⟨v, _, rfl, r1, rfl⟩ := rl
      cases x with
      | int i => cases e; exact .inl ⟨i, by rw [r1.int_at], q _ H (Same.refl H) rv_int⟩
      | bl b => cases e; exact .inr ⟨b, by rw [r1.bl_at], q _ H (Same.refl H) rv_int⟩
      | _ => cases e

/-! ### what is walked -/
theorem walk_str {ρ : Rho} {H : Hp} {s : List Nat} (hc : ∀ c ∈ s, c < 1114112) : WalkD C ρ H (s.map fun c => D.str [c]) (Its ⟨s.toArray⟩) := by
  intro ρ1 H1 i m1 x _
  refine ⟨fun e => ?_, fun d hd => ⟨?_, fun v H2 y => ?_⟩⟩
  · show s.toArray.size ≤ i
    rw [e]; simp
  · show i < s.toArray.size
    have := (List.getElem?_eq_some_iff.mp hd).1
    simpa using this
  · obtain ⟨rfl, c, h1, rfl⟩ := y
    have h1 : s[i]? = some c := by simpa using h1
    rw [List.getElem?_map, h1] at hd
    cases hd
    exact ⟨Same.refl _, rv_str (s := [c]) (show 1 ≤ lim by decide) fun c' hm => by rw [List.mem_singleton.mp hm]; exact hc c (List.mem_of_getElem? h1)⟩
variable {tg : Expr}
theorem di_str (ha : DE C W X a fa) : DI C W X tg a (itS fa) := by
  refine PI.imp (pi_str ha) ?_
  rintro σ H R ⟨ρ, g, m, re, rm, h⟩
  refine ⟨ρ, g, m, re, rm, h.bind.imp fun d m1 ρ1 H1 x1 rm1 h1 v r => ?_⟩
  cases d with
  | str s =>
    obtain ⟨e, l, hc⟩ := r.str_at
    exact ⟨_, e, fin.now rm1 h1 _ (walk_str hc)⟩
  | _ => exact h1.elim
theorem walk_lst {ρ : Rho} {H : Hp} {ds : List D} {a : Addr} {xs : List V} (nl : ¬ lives ρ a) (hq : H a = some (.lst xs)) (rl : RepL C ρ H ds xs) : WalkD C ρ H ds (Itl C.K a) := by
  intro ρ1 H1 i m1 x _
  obtain ⟨_, q1⟩ := x.keep a (.lst xs) trivial nl hq
  have sq : SqL C.K H1 a xs := .inl (.inl q1)
  refine ⟨fun e => ⟨xs, sq, by rw [e, rl.length]; exact Nat.le_refl _⟩, fun d hd => ?_⟩
  obtain ⟨v, hv, rv⟩ := rl.get hd
  refine ⟨⟨xs, v, sq, hv⟩, fun w H2 y => ?_⟩
  obtain ⟨rfl, y⟩ := y
  have e := y xs sq
  rw [hv] at e
  cases e
  exact ⟨Same.refl _, rv.ext x⟩
theorem di_lst (hK : C.K = X.K) (ha : DE C W X a fa) : DI C W X tg a (itL fa) := by
  refine PI.imp (pi_list ha) ?_
  rintro σ H R ⟨ρ, g, m, re, rm, h⟩
  refine ⟨ρ, g, m, re, rm, h.bind.imp fun d m1 ρ1 H1 x1 rm1 h1 v r => ?_⟩
  cases d with
  | lst ds =>
    obtain ⟨p, xs, e, nl, sq, rl⟩ := r.lst_at
    refine ⟨p, e, ⟨xs, .inl (.inl sq)⟩, ?_⟩
    rw [← hK]
    exact fin.now rm1 h1 _ (walk_lst nl sq rl)
  | _ => exact h1.elim
theorem walk_tup {ρ : Rho} {H : Hp} {ds : List D} {v : V} (r : RepV C ρ H (.tup ds) v) : ∃ a, v = .ref a ∧ (∃ xs, SqT C.K H a xs) ∧ WalkD C ρ H ds (Itt C.K a) := by
  simp only [RepV] at r
  obtain ⟨a, xs, e, h1, rl⟩ := r
  have r : RepV C ρ H (.tup ds) v := by simp only [RepV]; exact ⟨a, xs, e, h1, rl⟩
  have all : ∀ ρ1 H1, Ext ρ H ρ1 H1 → SqT C.K H1 a xs := fun ρ1 H1 x => by
    rcases h1 with ⟨nl, q | ⟨o, q⟩⟩ | k
    · exact .inl (.inl (x.keep a (.tup xs) trivial nl q).2)
    · exact .inl (.inr ⟨o, (x.keep a (.frz o (.tup xs)) trivial nl q).2⟩)
    · rcases k with (k | ⟨_, k⟩) | k
      · cases k
      · cases k
      · exact .inr k
  refine ⟨a, e, ⟨xs, all ρ H (.refl _ _)⟩, fun ρ1 H1 i m1 x _ => ?_⟩
  have sq := all ρ1 H1 x
  refine ⟨fun e => ⟨xs, sq, by rw [e, rl.length]; exact Nat.le_refl _⟩, fun d hd => ?_⟩
  obtain ⟨v, hv, rv⟩ := rl.get hd
  refine ⟨⟨xs, v, sq, hv⟩, fun w H2 y => ?_⟩
  obtain ⟨rfl, y⟩ := y
  have e := y xs sq
  rw [hv] at e
  cases e
  exact ⟨Same.refl _, rv.ext x⟩
theorem di_tup (hK : C.K = X.K) (ha : DE C W X a fa) : DI C W X tg a (itT fa) := by
  refine PI.imp (pi_tup ha) ?_
  rintro σ H R ⟨ρ, g, m, re, rm, h⟩
  refine ⟨ρ, g, m, re, rm, h.bind.imp fun d m1 ρ1 H1 x1 rm1 h1 v r => ?_⟩
  cases d with
  | tpx ds =>
    obtain ⟨p, e, sq, wk⟩ := walk_tup r.wk
    refine ⟨p, e, hK ▸ sq, ?_⟩
    rw [← hK]
    exact fin.now rm1 h1 _ wk
  | tup ds =>
    obtain ⟨p, e, sq, wk⟩ := walk_tup r
    refine ⟨p, e, hK ▸ sq, ?_⟩
    rw [← hK]
    exact fin.now rm1 h1 _ wk
  | _ => exact h1.elim
theorem walk_rng {ρ : Rho} {H : Hp} (lo : Int) (n : Nat) : WalkD C ρ H ((List.range n).map fun (k : Nat) => D.int (lo + k)) (Itr lo n) := by
  intro ρ1 H1 i m1 x _
  refine ⟨fun e => ?_, fun d hd => ⟨?_, fun v H2 y => ?_⟩⟩
  · show n ≤ i
    rw [e]; simp
  · show i < n
    have := (List.getElem?_eq_some_iff.mp hd).1
    simpa using this
  · obtain ⟨rfl, rfl⟩ := y
    have hi : i < n := by
      have := (List.getElem?_eq_some_iff.mp hd).1
      simpa using this
    rw [List.getElem?_map, List.getElem?_range hi] at hd
    cases hd
    exact ⟨Same.refl _, rv_int⟩
theorem di_rng1 {p : Pos} (hg : Gl X "range") (hm : X.mg "range" = none) (ha : DE C W X a fa) (hs : starEach [a] X.env = [(false, eval a X.env)] := by rfl) (s1 : starEach (a :: []) X.env = (false, eval a X.env) :: starEach [] X.env := by rfl) : DI C W X tg (.Call (.Name "range" p) [a] [] pos) (itR1 fa) := by
  refine PI.imp (pi_range1 hg hm (pa_cons ha pa_nil s1) hs) ?_
  rintro σ H R ⟨ρ, g, m, re, rm, h⟩
  refine ⟨ρ, g, m, re, rm, h.bind.imp fun d m1 ρ1 H1 x1 rm1 h1 v r => ?_⟩
  cases d with
  | int j =>
    by_cases hb : inR j = true
    · simp only [hb, if_true] at h1
      have hb := inR_le hb
      refine ⟨j, by rw [r.int_at], by omega, by omega, fin.now rm1 h1 _ ?_⟩
      have := walk_rng (C := C) (ρ := ρ1) (H := H1) 0 j.toNat
      simpa using this
    · simp only [hb, if_false] at h1
      exact h1.elim
  | _ => exact h1.elim
theorem di_rng2 {p : Pos} (hg : Gl X "range") (hm : X.mg "range" = none) (ha : DE C W X a fa) (hb : DE C W X b fb) (hs : starEach [a, b] X.env = [(false, eval a X.env), (false, eval b X.env)] := by rfl) (hs2 : starEach [b] X.env = [(false, eval b X.env)] := by rfl)
    (s1 : starEach (a :: [b]) X.env = (false, eval a X.env) :: starEach [b] X.env := by rfl) (s2 : starEach (b :: []) X.env = (false, eval b X.env) :: starEach [] X.env := by rfl) : DI C W X tg (.Call (.Name "range" p) [a, b] [] pos) (itR2 fa fb) := by
  refine PI.imp (pi_range2 hg hm (pa_cons ha (pa_cons hb pa_nil s2) s1) hs hs2) ?_
  rintro σ H R ⟨ρ, g, m, re, rm, h⟩
  refine ⟨ρ, g, m, re, rm, h.bind.imp fun d m1 ρ1 H1 x1 rm1 h1 v r => ?_⟩
  refine ⟨ρ1, g, m1, re.ext x1, rm1, h1.bind.imp fun d2 m2 ρ2 H2 x2 rm2 h2 v2 r2 => ?_⟩
  cases d with
  | int i =>
    cases d2 with
    | int j =>
      by_cases hb : (inR i && inR j) = true
      · simp only [hb, if_true] at h2
        rw [Bool.and_eq_true] at hb
        have h3 := inR_le hb.1
        have h4 := inR_le hb.2
        exact ⟨i, j, by rw [r.int_at, r2.int_at], ⟨by omega, by omega, by omega, by omega⟩, fin.now rm2 h2 _ (walk_rng i _)⟩
      · simp only [hb, if_false] at h2
        exact h2.elim
    | _ => exact h2.elim
  | _ => cases d2 <;> exact h2.elim
end
end LW
/-! LwM: things that change: made, changed, frozen; methods. -/
namespace LW
open PySem PySem.Spec PyProof.Rows L2
section
variable {C : Cn} {W : XK} {X : Cx} {a b c : Expr} {fa fb fc : Ex} {pos : Pos} {es : List Expr} {fr : Ar} {ρ : Rho} {H : Hp} {m : Mem}

/-! ### a new thing that is to change -/
def Rho.more (ρ : Rho) (p : Addr) : Rho := ⟨ρ.l ++ [(p, true)], ρ.z⟩
theorem lives_more {p q : Addr} : lives (ρ.more p) q ↔ lives ρ q ∨ q = p := by
  unfold lives Rho.more
  simp only [List.mem_append, List.mem_singleton, Prod.mk.injEq, and_true]
  constructor
  · rintro ((h | h) | h)
    · exact .inl (.inl h)
    · exact .inr h
    · exact .inl (.inr h)
  · rintro ((h | h) | h)
    · exact .inl (.inl h)
    · exact .inr h
    · exact .inl (.inr h)
theorem ext_more {p : Addr} {o : HO} (hp : H p = none) : Ext ρ H (ρ.more p) (upd H p o) := by
  refine ⟨fun n a ⟨l, h⟩ => ⟨l, ?_⟩, fun b u pl n r => ?_, fun b u pl n r => ?_, fun b o' z q => ⟨z, same_upd hp _ _ q⟩, (Ext.of_same (ρ := ρ) (same_upd hp)).there⟩
  · show (ρ.l ++ [(p, true)])[n]? = _
    rw [List.getElem?_append_left (List.getElem?_eq_some_iff.mp h).1]
    exact h
  · exact ⟨fun hl => (lives_more.mp hl).elim n fun e => absurd r (by rw [e, hp]; exact fun z => (nomatch z)), same_upd hp _ _ r⟩
  · exact ⟨fun hl => (lives_more.mp hl).elim n (fun e => by rcases r with r | ⟨_, r⟩ <;> (rw [e, hp] at r; cases r)), Rd.same (same_upd hp) r⟩
/-- what is told of a thing stays so -/
theorem RepO.ext {ρ' : Rho} {H' : Hp} {a : Addr} {l : Bool} (x : Ext ρ H ρ' H') (e : l = true → H' a = H a) : ∀ {o : MO}, RepO C ρ H a l o → RepO C ρ' H' a l o
  | .lst ds, h => by
    obtain ⟨hl, xs, q, r⟩ := h
    exact ⟨hl, xs, (e hl).trans q, r.ext x⟩
  | .dct ks vs, h => by
    obtain ⟨hl, xs, r, h⟩ := h
    refine ⟨hl, xs, r.ext x, ?_⟩
    rcases h with ⟨kk, l, ek, q⟩ | ⟨kk, l, ek, q⟩
    · exact .inl ⟨kk, l, ek, (e hl).trans q⟩
    · exact .inr ⟨kk, l, ek, (e hl).trans q⟩
  | .ins c fs, h => by
    obtain ⟨hl, Cc, dx, vs, h1, h2, h3, h4⟩ := h
    exact ⟨hl, Cc, dx, vs, h1, h2, (e hl).trans h3, h4.ext x⟩
  | .gd ks vs, h => by
    obtain ⟨hl, xs, vv, h1, h2, h3, h4, h5⟩ := h
    exact ⟨hl, xs, vv, (e hl).trans h1, h2, h3, h4.ext x, h5.ext x⟩
  | .gone, h => h
theorem RepM.more {p : Addr} {o : HO} {u : MO} (rm : RepM C ρ H m) (hp : H p = none) (ru : RepO C (ρ.more p) (upd H p o) p true u) : RepM C (ρ.more p) (upd H p o) (m ++ [u]) := by
  have x : Ext ρ H (ρ.more p) (upd H p o) := ext_more hp
  refine ⟨by show (ρ.l ++ [(p, true)]).length = _; rw [List.length_append, List.length_append, rm.len]; rfl, fun n a l w h1 h2 => ?_, fun n k a h1 h2 => ?_, fun a z => ⟨x.there a (rm.hid a z).1, fun hm => ?_⟩⟩
  · change (ρ.l ++ [(p, true)])[n]? = some (a, l) at h1
    by_cases hn : n < ρ.l.length
    · rw [List.getElem?_append_left hn] at h1
      rw [List.getElem?_append_left (by rw [← rm.len]; exact hn)] at h2
      refine (rm.obj n a l w h1 h2).ext x fun e => ?_
      subst e
      rw [upd_ne]
      intro e
      subst e
      exact rm.free_of hp (.inl (List.mem_of_getElem? h1))
    · have e : n = ρ.l.length := by
        have := (List.getElem?_eq_some_iff.mp h1).1
        rw [List.length_append, List.length_singleton] at this
        omega
      subst e
      rw [List.getElem?_append_right (Nat.le_refl _), Nat.sub_self] at h1
      rw [List.getElem?_append_right (by rw [rm.len]; exact Nat.le_refl _), rm.len, Nat.sub_self] at h2
      cases h1
      cases h2
      exact ru
  · have key : ∀ {n : Nat}, (ρ.l ++ [(p, true)])[n]? = some (a, true) → (ρ.l[n]? = some (a, true) ∧ a ≠ p) ∨ (n = ρ.l.length ∧ a = p) := fun {n} h => by
      by_cases hn : n < ρ.l.length
      · rw [List.getElem?_append_left hn] at h
        refine .inl ⟨h, fun e => ?_⟩
        subst e
        exact rm.free_of hp (.inl (List.mem_of_getElem? h))
      · have e : n = ρ.l.length := by
          have := (List.getElem?_eq_some_iff.mp h).1
          rw [List.length_append, List.length_singleton] at this
          omega
        subst e
        rw [List.getElem?_append_right (Nat.le_refl _), Nat.sub_self] at h
        cases h
        exact .inr ⟨rfl, rfl⟩
    rcases key h1 with ⟨q1, n1⟩ | ⟨q1, n1⟩ <;> rcases key h2 with ⟨q2, n2⟩ | ⟨q2, n2⟩
    · exact rm.dis n k a q1 q2
    · exact absurd n2 n1
    · exact absurd n1 n2
    · rw [q1, q2]
  · have hm : (a, true) ∈ ρ.l ++ [(p, true)] := hm
    rcases List.mem_append.mp hm with h | h
    · exact (rm.hid a z).2 h
    · have e : a = p := by simpa using h
      subst e
      exact (rm.hid a z).1 hp
theorem more_ref {p : Addr} {o : HO} (rm : RepM C ρ H m) : RepV C (ρ.more p) (upd H p o) (.ref m.length) (.ref p) := by
  simp only [RepV]
  refine ⟨p, rfl, true, ?_⟩
  show (ρ.l ++ [(p, true)])[m.length]? = _
  rw [← rm.len, List.getElem?_append_right (Nat.le_refl _), Nat.sub_self]
  rfl
/-- .. a list -/
theorem new_lst {p : Addr} {ds : List D} {xs : List V} (rm : RepM C ρ H m) (hp : H p = none) (rl : RepL C ρ H ds xs) : Ext ρ H (ρ.more p) (upd H p (.lst xs)) ∧ RepM C (ρ.more p) (upd H p (.lst xs)) (m ++ [.lst ds]) ∧ RepV C (ρ.more p) (upd H p (.lst xs)) (.ref m.length) (.ref p) :=
  ⟨ext_more hp, rm.more hp ⟨rfl, xs, upd_same, rl.ext (ext_more hp)⟩, more_ref rm⟩
theorem de_newL (h : DA C W X es fr) : DE C W X (.List es pos) (newE (lstE fr)) := by
  refine PE.imp (pe_lst h) ?_
  rintro σ H Q ⟨ρ, g, m, re, rm, h⟩
  have asc : ∀ {α β γ : Type} (r : R α) (f : α → Mem → R β) (f' : β → Mem → R γ), (r.bind f).bind f' = r.bind fun a m => (f a m).bind f' := fun r f f' => by cases r <;> rfl
  simp only [newE, lstE, asc] at h
  refine ⟨ρ, g, m, re, rm, h.bind.imp fun ds m1 ρ1 H1 x1 rm1 h1 vs r => ?_⟩
  by_cases hz : ds.length ≤ lim
  · rw [if_pos hz] at h1
    refine ⟨by rw [← lim_eq, ← r.length]; exact hz, fun p hp => ?_⟩
    obtain ⟨a1, a2, a3⟩ := new_lst rm1 hp r
    exact h1 _ _ a1 a2 _ a3
  · rw [if_neg hz] at h1; exact h1.elim
theorem de_newList {x : Str} {p : Pos} (hK : C.K = X.K) (hc : X.calm = true) (hg : Gl X x) (hm : X.mg x = none) (hv : bootBuiltins x = some (.type "list")) (ha : DE C W X a fa) (hn : x ≠ "__name__" := by decide) (hdb : (x == ("__debug__" : Str)) = false := by decide)
    (he : starEach (a :: []) X.env = (false, eval a X.env) :: starEach [] X.env := by rfl) : DE C W X (.Call (.Name x p) [a] [] pos) (newE (bE listB (consA fa nilA))) := by
  refine PE.imp (pe_callTy (or_list hc) hg hm hv (pa_cons ha pa_nil he) hn hdb he rfl) ?_
  rintro σ H Q ⟨ρ, g, m, re, rm, h⟩
  have asc : ∀ {α β γ : Type} (r : R α) (f : α → Mem → R β) (f' : β → Mem → R γ), (r.bind f).bind f' = r.bind fun a m => (f a m).bind f' := fun r f f' => by cases r <;> rfl
  simp only [newE, bE, consA, nilA, asc] at h
  refine ⟨ρ, g, m, re, rm, h.bind.imp fun d m1 ρ1 H1 x1 rm1 h1 v r => ?_⟩
  simp only [R.bind_ok] at h1
  show rList2 X.K [v] H1 Q
  rw [← hK]
  cases e : listB m1 [d] with
  | none => rw [e] at h1; exact h1.elim
  | some w =>
    rw [e] at h1
    simp only [opt_some, R.bind_ok] at h1
    have viaS : ∀ ds, seqOf m1 d = some ds → w = .lst ds → rList2 C.K [v] H1 Q := fun ds e1 e2 => by
      obtain ⟨q, xs, rfl, sq, rl⟩ := seq_read rm1 r e1
      subst e2
      refine .inr ⟨q, xs, rfl, sq, fun p hp => ?_⟩
      obtain ⟨a1, a2, a3⟩ := new_lst rm1 hp rl
      exact h1 _ _ a1 a2 _ a3
    cases d with
    | str s =>
      cases e
      obtain ⟨e1, l1, c1⟩ := r.str_at
      refine .inl ⟨_, by rw [e1], by rw [str_len, ← lim_eq]; exact l1, fun p hp => ?_⟩
      obtain ⟨a1, a2, a3⟩ := new_lst rm1 hp (signs_rep c1)
      exact h1 _ _ a1 a2 _ a3
    | tup ds => cases e; exact viaS _ rfl rfl
    | tpx ds => cases e; exact viaS _ rfl rfl
    | lst ds => cases e; exact viaS _ rfl rfl
    | scr ns => cases e; exact viaS _ rfl rfl
    | ref n =>
      simp only [listB] at e
      obtain ⟨ds, h3, h4⟩ := Option.map_eq_some_iff.mp e
      exact viaS ds h3 h4.symm
    | _ => cases e

/-! ### a thing is changed -/
theorem ext_put {n : Nat} {p : Addr} {o : HO} (rm : RepM C ρ H m) (hn : ρ.l[n]? = some (p, true)) : Ext ρ H ρ (upd H p o) := by
  have hp : lives ρ p := .inl (List.mem_of_getElem? hn)
  refine ⟨fun _ _ h => h, fun b u pl nl r => ⟨nl, ?_⟩, fun b u pl nl r => ⟨nl, ?_⟩, fun b o' z q => ⟨z, ?_⟩, fun b hb => ?_⟩
  · rw [upd_ne (fun e => nl (by rw [e]; exact hp))]; exact r
  · have ne : b ≠ p := fun e => nl (by rw [e]; exact hp)
    rcases r with r | ⟨ob, r⟩
    · exact .inl (by rw [upd_ne ne]; exact r)
    · exact .inr ⟨ob, by rw [upd_ne ne]; exact r⟩
  · rw [upd_ne (fun e => (rm.hid b z).2 (by rw [e]; exact List.mem_of_getElem? hn))]; exact q
  · by_cases e : b = p
    · rw [e, upd_same]; exact fun z => nomatch z
    · rw [upd_ne e]; exact hb
theorem RepM.put {n : Nat} {p : Addr} {o : HO} {u : MO} (rm : RepM C ρ H m) (hn : ρ.l[n]? = some (p, true)) (ru : RepO C ρ (upd H p o) p true u) : RepM C ρ (upd H p o) (m.set n u) := by
  have x := ext_put (o := o) rm hn
  refine ⟨by rw [List.length_set]; exact rm.len, fun k a l w h1 h2 => ?_, rm.dis, fun a z => ⟨x.there a (rm.hid a z).1, (rm.hid a z).2⟩⟩
  by_cases e : n = k
  · subst e
    rw [hn] at h1
    cases h1
    have hl : n < m.length := by rw [← rm.len]; exact (List.getElem?_eq_some_iff.mp hn).1
    rw [List.getElem?_set_self hl] at h2
    cases h2
    exact ru
  · rw [List.getElem?_set_ne e] at h2
    refine (rm.obj k a l w h1 h2).ext x fun hl => ?_
    subst hl
    rw [upd_ne]
    intro ea
    subst ea
    exact e (rm.dis n k a hn h1)
/-- what a list's method asks -/
def MtS (C : Cn) (r : V → List V → Hp → VK → Prop) (f : Mt) : Prop := ∀ (ρ : Rho) (H : Hp) (p : Addr) (ds es : List D) (xs ys : List V) (d : D) (ds' : List D) (Q : VK), H p = some (.lst xs) → RepL C ρ H ds xs → RepL C ρ H es ys → f ds es = some (d, ds') →
  (∀ v xs', RepV C ρ H d v → RepL C ρ H ds' xs' → Q v (upd H p (.lst xs'))) → r (.ref p) ys H Q
theorem mt_of {r : V → List V → Hp → VK → Prop} {f : Mt} (hs : MtS C r f) (σ : St) (H : Hp) (Q : VK) (h : tD C W (mtE f fa fr) σ H Q) :
    tBM X.K "list" r (tD C W fa) (tDA C W fr) σ H Q := by
  obtain ⟨ρ, g, m, re, rm, h⟩ := h
  refine ⟨ρ, g, m, re, rm, h.bind.imp fun d m1 ρ1 H1 x1 rm1 h1 v rv => ?_⟩
  cases d with
  | ref n =>
    simp only at h1
    split at h1
    · rename_i ds0 q1
      obtain ⟨p, xs0, rfl, hn, sq0, rl0⟩ := rm1.lst_at rv q1
      refine ⟨.inl ⟨rfl, xs0, .inl (.inl sq0)⟩, ρ1, g, m1, re.ext x1, rm1, h1.bind.imp fun ys m2 ρ2 H2 x2 rm2 h2 vs rys => ?_⟩
      split at h2
      · rename_i ds q2
        obtain ⟨p2, xs, e2, hn2, sq, rl⟩ := rm2.lst_at (rv.ext x2) q2
        cases e2
        cases e : f ds ys with
        | none => rw [e] at h2; exact h2.elim
        | some w =>
          obtain ⟨d', ds'⟩ := w
          rw [e] at h2
          refine hs ρ2 H2 p ds ys xs vs d' ds' Q sq rl rys e fun v' xs' r1 r2 => ?_
          have x3 := ext_put (o := .lst xs') rm2 hn2
          exact h2 ρ2 _ x3 (rm2.put hn2 ⟨rfl, xs', upd_same, r2.ext x3⟩) v' (r1.ext x3)
      · exact h2.elim
    · exact h1.elim
  | _ => exact h1.elim
theorem RepL.erase {ρ : Rho} {H : Hp} {ds : List D} {vs : List V} (h : RepL C ρ H ds vs) (k : Nat) : RepL C ρ H (ds.eraseIdx k) (vs.eraseIdx k) := by
  rw [List.eraseIdx_eq_take_drop_succ, List.eraseIdx_eq_take_drop_succ]
  exact (h.take k).append (h.drop (k + 1))
theorem ms_app : MtS C rAppend appM := by
  intro ρ H p ds es xs ys d ds' Q hp rl rys e q
  cases es with
  | nil => cases e
  | cons y r =>
    cases r with
    | cons _ _ => cases e
    | nil =>
      simp only [RepL] at rys
      obtain ⟨v, _, rfl, r1, rfl⟩ := rys
      simp only [appM] at e
      split at e
      · rename_i hz
        cases e
        refine ⟨p, xs, v, rfl, rfl, hp, by rw [← rl.length, ← lim_eq]; exact hz, q _ _ rv_non (rl.append ?_)⟩
        simp only [RepL]
        exact ⟨v, [], rfl, r1, rfl⟩
      · cases e
theorem ms_popAt : MtS C rPopAt popAtM := by
  intro ρ H p ds es xs ys d ds' Q hp rl rys e q
  have hlim : lim = 16777216 := rfl
  cases es with
  | nil => cases e
  | cons y r =>
    cases r with
    | cons _ _ => cases y <;> cases e
    | nil =>
      simp only [RepL] at rys
      obtain ⟨v, _, rfl, r1, rfl⟩ := rys
      cases y with
      | int i =>
        simp only [popAtM] at e
        split at e
        · rename_i hz
          split at e
          · rename_i k hk
            split at e
            · rename_i d1 hd
              cases e
              have hk' : ixN xs.length i = some k := by rw [← rl.length]; exact hk
              obtain ⟨h1, h2, h3, h4⟩ := ixN_seq hk'
              obtain ⟨v2, hv, rv⟩ := rl.get hd
              have hxl : xs.length ≤ 16777216 := by rw [← rl.length]; exact hz
              refine ⟨p, xs, i, k, v2, rfl, by rw [r1.int_at], hp, by omega, by omega, h1, hv, q _ _ rv ?_⟩
              exact rl.erase k
            · cases e
          · cases e
        · cases e
      | _ => cases e
theorem RepL.dropLast {ρ : Rho} {H : Hp} {ds : List D} {vs : List V} (h : RepL C ρ H ds vs) : RepL C ρ H ds.dropLast vs.dropLast := by
  rw [List.dropLast_eq_take, List.dropLast_eq_take, h.length]
  exact h.take _
theorem ms_pop : MtS C rPop popM := by
  intro ρ H p ds es xs ys d ds' Q hp rl rys e q
  cases es with
  | cons _ _ => cases e
  | nil =>
    simp only [RepL] at rys
    subst rys
    simp only [popM] at e
    split at e
    · rename_i d1 hd
      cases e
      obtain ⟨v2, hv, rv⟩ := rl.get hd
      exact ⟨p, xs, v2, rfl, rfl, hp, by rw [← rl.length]; exact hv, q _ _ rv rl.dropLast⟩
    · cases e
theorem ms_ext : MtS C rExtend extM := by
  intro ρ H p ds es xs ys d ds' Q hp rl rys e q
  cases es with
  | nil => cases e
  | cons y r =>
    cases r with
    | cons _ _ => cases y <;> cases e
    | nil =>
      simp only [RepL] at rys
      obtain ⟨v, _, rfl, r1, rfl⟩ := rys
      cases y with
      | lst fs =>
        simp only [extM] at e
        split at e
        · rename_i hz
          cases e
          obtain ⟨b, zs, e1, _, s1, l1⟩ := r1.lst_at
          exact ⟨p, b, xs, zs, rfl, by rw [e1], hp, s1, by rw [← rl.length, ← l1.length, ← lim_eq]; exact hz, q _ _ rv_non (rl.append l1)⟩
        · cases e
      | _ => cases e

/-! ### methods by name -/
variable {o e : Expr} {fo : Ex} {apos cpos : Pos}
theorem de_app (ho : DE C W X o fo) (ha : DA C W X [a] fr) (hbase : attributeBase o "append" X.env (eval o X.env) = eval o X.env := by rfl) (hfew : ((backTo cpos (starEach [a] X.env)).all (fun x => !x.1) && (backToKw cpos (keywordEach [] X.env)).all (fun x => x.1.isSome) && decide ([a].length < 15)) = true := by rfl)
    (hline : (apos.endLine == cpos.line) = true := by rfl) : True := trivial
end
/-! ### frozen -/
def Rho.cold (ρ : Rho) (n : Nat) (p : Addr) : Rho := ⟨ρ.l.set n (p, false), ρ.z⟩
section
variable {C : Cn} {W : XK} {X : Cx} {ρ : Rho} {H : Hp} {m : Mem}
theorem lives_cold {n : Nat} {p q : Addr} (hn : ρ.l[n]? = some (p, true)) : lives (ρ.cold n p) q → lives ρ q := by
  rintro (h | h)
  · have h : (q, true) ∈ ρ.l.set n (p, false) := h
    obtain ⟨k, hk⟩ := List.mem_iff_getElem?.mp h
    by_cases e : n = k
    · subst e
      rw [List.getElem?_set_self (List.getElem?_eq_some_iff.mp hn).1] at hk
      cases hk
    · rw [List.getElem?_set_ne e] at hk
      exact .inl (List.mem_of_getElem? hk)
  · exact .inr h
theorem cold_not {n : Nat} {p : Addr} (rm : RepM C ρ H m) (hn : ρ.l[n]? = some (p, true)) : ¬ lives (ρ.cold n p) p := by
  rintro (h | h)
  · have h : (p, true) ∈ ρ.l.set n (p, false) := h
    obtain ⟨k, hk⟩ := List.mem_iff_getElem?.mp h
    by_cases e : n = k
    · subst e
      rw [List.getElem?_set_self (List.getElem?_eq_some_iff.mp hn).1] at hk
      cases hk
    · rw [List.getElem?_set_ne e] at hk
      exact e (rm.dis n k p hn hk)
  · exact (rm.hid p h).2 (List.mem_of_getElem? hn)
theorem ext_cold {n : Nat} {p : Addr} (hn : ρ.l[n]? = some (p, true)) : Ext ρ H (ρ.cold n p) H := by
  refine ⟨fun k a ⟨l, h⟩ => ?_, fun b u pl nl r => ⟨fun h => nl (lives_cold hn h), r⟩, fun b u pl nl r => ⟨fun h => nl (lives_cold hn h), r⟩, fun b o z q => ⟨z, q⟩, fun _ h => h⟩
  by_cases e : n = k
  · subst e
    rw [hn] at h
    cases h
    exact ⟨false, List.getElem?_set_self (List.getElem?_eq_some_iff.mp hn).1⟩
  · exact ⟨l, by show (ρ.l.set n (p, false))[k]? = _; rw [List.getElem?_set_ne e]; exact h⟩
theorem RepM.cold {n : Nat} {p : Addr} (rm : RepM C ρ H m) (hn : ρ.l[n]? = some (p, true)) : RepM C (ρ.cold n p) H (m.set n .gone) := by
  have x : Ext ρ H (ρ.cold n p) H := ext_cold hn
  refine ⟨by show (ρ.l.set n (p, false)).length = _; rw [List.length_set, List.length_set, rm.len], fun k a l w h1 h2 => ?_, fun k j a h1 h2 => ?_, fun a z => ⟨(rm.hid a z).1, fun hm => ?_⟩⟩
  · change (ρ.l.set n (p, false))[k]? = some (a, l) at h1
    by_cases e : n = k
    · subst e
      rw [List.getElem?_set_self (List.getElem?_eq_some_iff.mp hn).1] at h1
      rw [List.getElem?_set_self (by rw [← rm.len]; exact (List.getElem?_eq_some_iff.mp hn).1)] at h2
      cases h1
      cases h2
      rfl
    · rw [List.getElem?_set_ne e] at h1 h2
      exact (rm.obj k a l w h1 h2).ext x fun _ => rfl
  · have key : ∀ {k : Nat}, (ρ.l.set n (p, false))[k]? = some (a, true) → ρ.l[k]? = some (a, true) := fun {k} h => by
      by_cases e : n = k
      · subst e
        rw [List.getElem?_set_self (List.getElem?_eq_some_iff.mp hn).1] at h
        cases h
      · rw [List.getElem?_set_ne e] at h; exact h
    exact rm.dis k j a (key h1) (key h2)
  · rcases lives_cold hn (.inl hm) with h | h
    · exact (rm.hid a z).2 h
    · obtain ⟨k, hk⟩ := List.mem_iff_getElem?.mp (show (a, true) ∈ ρ.l.set n (p, false) from hm)
      by_cases e : n = k
      · subst e
        rw [List.getElem?_set_self (List.getElem?_eq_some_iff.mp hn).1] at hk
        cases hk
      · rw [List.getElem?_set_ne e] at hk
        exact (rm.hid a z).2 (List.mem_of_getElem? hk)
theorem dss_frz {sts : List Stmt} {f : Sm} (i : Nat) (h : DSs C W X sts f) : DSs C W X sts (seqS (frzS i) f) := by
  refine PSs.imp h ?_
  rintro N σ H ⟨ρ, g, m, re, rm, h⟩
  simp only [seqS_eq, frzS] at h
  split at h
  · rename_i n e
    obtain ⟨v, hv, rv⟩ := re.at_ i _ e
    split at h
    · rename_i ds q
      obtain ⟨p, xs, rfl, hn, sq, rl⟩ := rm.lst_at rv q
      have x : Ext ρ H (ρ.cold n p) H := ext_cold hn
      simp only [R.bind_ok] at h
      refine ⟨_, _, _, ?_, rm.cold hn, fin.ext x h⟩
      have re2 := (re.ext x).set (d := .lst ds) (v := .ref p) (by simp only [RepV]; exact ⟨p, xs, rfl, cold_not rm hn, sq, rl.ext x⟩) i
      have : σ.set i (some (V.ref p)) = σ := by
        apply List.ext_getElem?
        intro j
        by_cases ej : i = j
        · subst ej
          rw [List.getElem?_set_self (List.getElem?_eq_some_iff.mp hv).1, hv]
        · rw [List.getElem?_set_ne ej]
      rw [this] at re2
      exact re2
    · exact h.elim
  · exact h.elim
end
end LW
/-! LwS: names with their facts by rfl; join; lists' methods without arguments; how many targets; a small dict that is asked at once. -/
namespace LW
open PySem PySem.Spec PyProof.Rows L2
section
variable {C : Cn} {W : XK} {X : Cx} {a b c o e : Expr} {fa fb fc : Ex} {t : Ts} {fr : Ar} {pos : Pos} {ρ : Rho} {H : Hp} {m : Mem}
theorem dv (i : Nat) {x : Str} {pos : Pos} (hN : X.N[i]? = some x := by rfl) (hv : Vis X.env.scope x := by first | exact Or.inl rfl | exact Or.inr (Or.inl rfl) | exact Or.inr (Or.inr rfl)) (hd : (x == ("__debug__" : Str)) = false := by decide)
    (hcd : (x == ("__classdict__" : Str)) = false := by decide) : DE C W X (.Name x pos) (vE i) := de_var hN hv hd hcd

/-! ### how many targets -/
def TgNo (t : Tg) : Prop := ∀ d g m c m', t d g m ≠ .exc c m'
def GsNo (n : Nat) (t : Gs) : Prop := (∀ ds g m g' m', t ds g m = .ok g' m' → ds.length = n) ∧ ∀ ds g m c m', t ds g m ≠ .exc c m'
theorem no_nm {i : Nat} : TgNo (nmG i) := fun d g m c m' e => by cases e
theorem gs_nil : GsNo 0 nilG := ⟨fun ds g m g' m' e => by cases ds <;> simp_all, fun ds g m c m' e => by cases ds <;> simp_all⟩
theorem gs_cons {t : Tg} {r : Gs} {n : Nat} (h1 : TgNo t) (h2 : GsNo n r) : GsNo (n + 1) (consG t r) := by
  refine ⟨fun ds g m g' m' e => ?_, fun ds g m c m' e => ?_⟩
  · cases ds with
    | nil => cases e
    | cons d ds =>
      simp only [consG] at e
      cases q : t d g m with
      | bad => rw [q] at e; cases e
      | exc c m2 => exact absurd q (h1 _ _ _ _ _)
      | ok g1 m1 => rw [q] at e; rw [List.length_cons, h2.1 _ _ _ _ _ e]
  · cases ds with
    | nil => cases e
    | cons d ds =>
      simp only [consG] at e
      cases q : t d g m with
      | bad => rw [q] at e; cases e
      | exc c m2 => exact absurd q (h1 _ _ _ _ _)
      | ok g1 m1 => rw [q] at e; exact h2.2 _ _ _ _ _ e
theorem no_tup {n : Nat} {r : Gs} (h : GsNo n r) : TgNo (tupG r) := fun d g m c m' e => by
  cases d with
  | tup ds => exact h.2 _ _ _ _ _ e
  | _ => cases e
theorem dg_tupN {es : List Expr} {k n : Nat} {tgs : Gs} (hK : C.K = X.K) (hc : X.calm = true) (h : DGs C W X es tgs) (hl : GsNo n tgs)
    (hn : (assignEach es X.env).length = n := by rfl) (hst : (assignEach es X.env).findIdx? (·.1) = none := by rfl) : DG C W X (.Tuple es k pos) (tupG tgs) :=
  dg_tup hK hc h hl.1 (fun ds g m c m' e => absurd e (hl.2 _ _ _ _ _)) hn hst

/-! ### methods without arguments -/
theorem mt0_of {r : V → List V → Hp → VK → Prop} {f : Mt} (hs : MtS C r f) (σ : St) (H : Hp) (Q : VK) (h : tD C W (mtE f fa nilA) σ H Q) : tBM0 X.K "list" r (tD C W fa) σ H Q := by
  obtain ⟨ρ, g, m, re, rm, h⟩ := h
  refine ⟨ρ, g, m, re, rm, h.bind.imp fun d m1 ρ1 H1 x1 rm1 h1 v rv => ?_⟩
  cases d with
  | ref n =>
    simp only at h1
    split at h1
    · rename_i ds q2
      obtain ⟨p, xs, rfl, hn2, sq, rl⟩ := rm1.lst_at rv q2
      refine ⟨.inl ⟨rfl, xs, .inl (.inl sq)⟩, ?_⟩
      simp only [nilA, R.bind_ok] at h1
      rw [q2] at h1
      simp only at h1
      cases e : f ds [] with
      | none => rw [e] at h1; exact h1.elim
      | some w =>
        obtain ⟨d', ds'⟩ := w
        rw [e] at h1
        refine hs ρ1 H1 p ds [] xs [] d' ds' Q sq rl (by simp only [RepL]) e fun v' xs' r1 r2 => ?_
        have x3 := ext_put (o := .lst xs') rm1 hn2
        exact h1 ρ1 _ x3 (rm1.put hn2 ⟨rfl, xs', upd_same, r2.ext x3⟩) v' (r1.ext x3)
    · exact h1.elim
  | _ => exact h1.elim
theorem RepL.rev {ρ : Rho} {H : Hp} : ∀ {ds : List D} {vs : List V}, RepL C ρ H ds vs → RepL C ρ H ds.reverse vs.reverse
  | [], vs, h => by simp only [RepL] at h; subst h; simp only [List.reverse_nil, RepL]
  | d :: ds, vs, h => by
    simp only [RepL] at h
    obtain ⟨v, r, rfl, h1, h2⟩ := h
    rw [List.reverse_cons, List.reverse_cons]
    exact RepL.append (RepL.rev h2) (by simp only [RepL]; exact ⟨v, [], rfl, h1, rfl⟩)
theorem ms_rev : MtS C rReverse revM := by
  intro ρ H p ds es xs ys d ds' Q hp rl rys e q
  cases es with
  | cons _ _ => cases e
  | nil =>
    simp only [RepL] at rys
    subst rys
    cases e
    exact ⟨p, xs, rfl, rfl, hp, q _ _ rv_non rl.rev⟩

/-! ### join -/
theorem join_eq (s : List Nat) : ∀ ps : List (List Nat), TL.joinL s ps = joinL s ps
  | [] => rfl
  | [p] => rfl
  | p :: q :: r => by
    show p ++ (s ++ TL.joinL s (q :: r)) = p ++ s ++ joinL s (q :: r)
    rw [join_eq s (q :: r), List.append_assoc]
theorem joinL_lt {s : List Nat} (hs : ∀ c ∈ s, c < 1114112) : ∀ {ps : List (List Nat)}, (∀ p ∈ ps, ∀ c ∈ p, c < 1114112) → ∀ c ∈ joinL s ps, c < 1114112
  | [], _, c, hc => by simp [joinL] at hc
  | [p], h, c, hc => h p (by simp) c hc
  | p :: q :: r, h, c, hc => by
    simp only [joinL, List.mem_append] at hc
    rcases hc with (hc | hc) | hc
    · exact h p (by simp) c hc
    · exact hs c hc
    · exact joinL_lt hs (fun p' hp' => h p' (List.mem_cons_of_mem _ hp')) c hc
theorem joinL_len (s : List Nat) : ∀ ps : List (List Nat), (joinL s ps).length ≤ (ps.map List.length).sum + ps.length * s.length
  | [] => by simp [joinL]
  | [p] => by simp [joinL]
  | p :: q :: r => by
    have h := joinL_len s (q :: r)
    simp only [joinL, List.length_append, List.map_cons, List.sum_cons, List.length_cons] at h ⊢
    have e : (r.length + 1 + 1) * s.length = (r.length + 1) * s.length + s.length := by rw [Nat.add_mul, Nat.one_mul]
    omega
theorem de_join {apos cpos : Pos} (hK : C.K = X.K) (ho : DE C W X o fa) (he : DE C W X e fb) (hs : starEach [e] X.env = [(false, eval e X.env)] := by rfl) (hbase : attributeBase o "join" X.env (eval o X.env) = eval o X.env := by rfl) (hline : (apos.endLine == cpos.line) = true := by rfl) :
    DE C W X (.Call (.Attribute o "join" apos) [e] [] cpos) (sopE joinD fa fb) := by
  refine PE.imp (pe_m1 F.slot_str_join F.type_str_join mt_join ho he hs hbase hline) ?_
  rintro σ H Q ⟨ρ, g, m, re, rm, h⟩
  refine ⟨ρ, g, m, re, rm, h.bind.imp fun d m1 ρ1 H1 x1 rm1 h1 v rv => ?_⟩
  cases d with
  | str s =>
    simp only [RepV] at rv
    obtain ⟨rfl, hl, hc⟩ := rv
    refine ⟨⟨_, rfl⟩, ρ1, g, m1, re.ext x1, rm1, h1.bind.imp fun d2 m2 ρ2 H2 x2 rm2 h2 v2 rv2 => ?_⟩
    obtain ⟨d, e, q⟩ := h2.opt rm2
    simp only [joinD] at e
    split at e
    · rename_i ds q1
      split at e
      · rename_i ps q2
        split at e
        · rename_i hz
          cases e
          obtain ⟨p, xs, rfl, sq, rl⟩ := seq_read rm2 rv2 q1
          obtain ⟨rfl, hcs⟩ := strs_of q2 rl
          have hz' : ((ps.map fun p => (⟨p.toArray⟩ : Str)).map (·.length)).sum + (ps.map fun p => (⟨p.toArray⟩ : Str)).length * (⟨s.toArray⟩ : Str).length ≤ 16777216 := by
            have e1 : (ps.map fun p => (⟨p.toArray⟩ : Str)).map (·.length) = ps.map List.length := by
              rw [List.map_map]
              exact List.map_congr_left fun p _ => by show p.toArray.size = _; simp
            rw [e1, List.length_map]
            have e2 : (⟨s.toArray⟩ : Str).length = s.length := by show s.toArray.size = _; simp
            rw [e2]
            exact hz
          refine ⟨_, p, _, rfl, rfl, hK ▸ sq, hz', ?_⟩
          refine q _ _ (fun _ _ e => e) ?_
          refine rep_str ?_ (Nat.le_trans (joinL_len s ps) hz) (List.all_eq_true.mpr fun c hc' => decide_eq_true (joinL_lt hc hcs c hc'))
          rw [TL.join_eq]
          refine (TL.tl_join _ _).trans ?_
          rw [← join_eq]
          show TL.joinL (s.toArray).toList _ = _
          have e3 : (ps.map fun p => (⟨p.toArray⟩ : Str)).map TL.tl = ps := by
            rw [List.map_map]
            conv => rhs; rw [← List.map_id ps]
            exact List.map_congr_left fun p _ => by show (p.toArray).toList = _; simp
          rw [e3]
        · cases e
      · cases e
    · cases e
  | _ => exact h1.elim

/-! ### a small dict, asked at once -/
theorem hide_str {ρ1 : Rho} {H1 : Hp} {s : List Nat} {v : V} (h : RepV C ρ1 H1 (.str s) v) : v = .str ⟨s.toArray⟩ := by simp only [RepV] at h; exact h.1
theorem two_look {k1 k2 q : Key} {w1 w2 : V} : valV (mergeK [] [(k1, w1), (k2, w2)]) q = if q = k2 then some w2 else if q = k1 then some w1 else none := by
  by_cases h12 : k1 = k2
  · subst h12
    by_cases hq : q = k1
    · subst hq
      simp [mergeK, putK, valV]
    · have hq' : ¬ k1 = q := fun e => hq e.symm
      simp [mergeK, putK, valV, hq, hq']
  · have h21 : ¬ k2 = k1 := fun e => h12 e.symm
    by_cases hq : q = k1
    · subst hq
      simp [mergeK, putK, valV, h12, h21]
    · have hq' : ¬ k1 = q := fun e => hq e.symm
      by_cases hq2 : q = k2
      · subst hq2
        simp [mergeK, putK, valV, h12, h21]
      · have hq3 : ¬ k2 = q := fun e => hq2 e.symm
        simp [mergeK, putK, valV, h12, h21, hq, hq2, hq', hq3]
theorem key_eq {x y : List Nat} : ((.inr ⟨x.toArray⟩ : Key) = .inr ⟨y.toArray⟩) ↔ x = y := by
  constructor
  · intro e
    have e1 := Sum.inr.inj e
    have e2 : x.toArray = y.toArray := congrArg Str.cps e1
    simpa using e2
  · intro e; rw [e]
end
end LW
/-! LwT: sets of a text's signs: how many, in their order. -/
namespace LW
open PySem PySem.Spec PyProof.Rows L2 PySem.Froz
section
variable {P : Program} {w : World} {A : Around} {E : Value → Shared → Prop} {s : Shared}
/-- the table can be walked -/
def RL (w : World) (G : SD) : Prop := Ris G.2.2.place.toList ∧ (w.params.followText "set-order" = true ∨ G.2.2.led = true)
theorem tail_rl {ep : Nat} {es : Array (Int × Value)} {t : SetTable} {b : Bool} (hr : Ris t.place.toList) (hl : w.params.followText "set-order" = true ∨ t.led = true) : RL w (tailTx ep es t b) := by
  unfold tailTx
  by_cases c : (!b && t.tooFull) = true
  · rw [if_pos c]
    exact ⟨relayAll_ris t es _, hl.imp id fun z => (relayAll_led t es _).trans z⟩
  · rw [if_neg c]
    exact ⟨hr, hl⟩
theorem add_rl {G : SD} {h : Int} {v : Value} (r : RL w G) : RL w (addTx h v G) := by
  have r1 := layNew_ris G.2.2 G.1 h v r.1
  have l1 := layNew_led G.2.2 G.1 h v
  have l2 : w.params.followText "set-order" = true ∨ (layNew G.2.2 G.1 h v).2.1.led = true := r.2.imp id fun z => l1.trans z
  unfold addTx
  refine tail_rl ?_ ?_
  · by_cases c : (layNew G.2.2 G.1 h v).2.1.plain = true
    · rw [if_pos c]; exact r1
    · rw [if_neg c]; exact r1
  · by_cases c : (layNew G.2.2 G.1 h v).2.1.plain = true
    · rw [if_pos c]; exact l2
    · rw [if_neg c]; exact l2
/-- a text that is there already is not put in again -/
theorem old_x {a : Addr} {G : SD} {l : List Str} {k : Str} {u : Tok} {Q : Bool → Shared → Prop} (ho : s.heap.get? a = some (sObj "set" G)) (F : TxOk P w G l) (hk : k ∈ l) (hb : l.length < scanBound) (h : Q false s) :
    wpAny (model P w) A (setAddHashed a (.str k u) (hashStr w k)) Q E s := by
  obtain ⟨es, ep, t⟩ := G
  have hkey : (strKind P w).is k (.str k u) = true := is_str k u
  have hb0 : es.size < scanBound := by have z : es.size = l.length := F.sz; omega
  unfold setAddHashed setAddHashedIn
  refine wpAny_holding (wpAny_bind (wpAny_setState_of ho (show (sObj "set" (es, ep, t)).data = .set es ep t from rfl) F.fit ?_))
  dsimp only
  rw [byScan_of rfl hb0 F.el]
  simp only [↓reduceIte]
  unfold setAddByScan
  refine wpAny_bind (wpAny_bind (wpAny_rule (wpAny_bind (wpAny_setScan_of (knd := strKind P w) (k := k) hkey ho (show (sObj "set" (es, ep, t)).data = .set es ep t from rfl) F.fit F.el ?_))))
  obtain ⟨e, he, q⟩ := (F.mem k).mp hk
  cases hf : List.findIdx? (fun e => (strKind P w).is k e.2) es.toList with
  | none =>
    have c := List.findIdx?_eq_none_iff.mp hf e he
    rw [q] at c
    cases c
  | some j =>
    dsimp only
    exact wpAny_pure (wpAny_pure h)
/-- the signs that have come, each once -/
def addNew (l : List Str) (c : Nat) : List Str := if sing c ∈ l then l else sing c :: l
theorem addNew_len (l : List Str) (c : Nat) : (addNew l c).length ≤ l.length + 1 := by
  unfold addNew
  split
  · omega
  · simp
theorem sub_text_set : isSubtype (.type "str") (.type "set") = pure false := PySem.F.sub_str_set
end
section
variable {P : Program} {w : World} {A : Around} {R : Result → Shared → Prop} {I : Addr} {fp wr : List Addr} {n : Nat} {x : Str} {St : Nat → Heap → Prop} {a : Addr}
theorem cps_at {i c : Nat} (hc : x.cps[i]? = some c) : x.cps.toList.drop i = c :: x.cps.toList.drop (i + 1) := by
  have hc' : x.cps.toList[i]? = some c := by rw [Array.getElem?_toList]; exact hc
  obtain ⟨h1, h2⟩ := List.getElem?_eq_some_iff.mp hc'
  rw [List.drop_eq_getElem_cons h1, h2]
theorem upd_loop (W : Walks P w A.in1 I fp wr n (SignAt x) St) (hn : n = x.cps.size) (haf : a ∉ fp) : ∀ (m i : Nat) (s : Shared) (G : SD) (l : List Str), n - i = m → i ≤ n → St i s.heap →
    s.heap.get? a = some (sObj "set" G) → TxOk P w G l → RL w G → l.length + (n - i) + 1 < scanBound →
    (∀ h' tk G', (∀ b o, b ≠ a → b ∉ wr → s.heap.get? b = some o → h'.get? b = some o) → h'.get? a = some (sObj "set" G') → TxOk P w G' ((x.cps.toList.drop i).foldl addNew l) → RL w G' → R (.ok (.ret .none)) { s with heap := h', toks := tk }) →
    codeAny (model P w) A (.builtin "set.update.loop" ⟨[.ref a, .ref I], []⟩) R s := by
  have haw : a ∉ wr := fun z => haf (W.sub _ z)
  intro m
  induction m with
  | zero =>
    intro i s G l hm hi hst ha F r hb hR
    have hin : i = n := by omega
    refine codeAny_builtin PyProof.Rows.F.entry_set_update_loop ?_
    rw [Around.under_plainId PyProof.Rows.F.plain_set_update_loop _]
    show wpAny _ A.in1 (pyNext (.ref I) >>= _) _ _ s
    refine wpAny_bind (W.done s _ _ (hin ▸ hst) fun h' tk hk' => ?_)
    have q := hR h' tk G (fun b o _ hb e => hk' b o hb e) (hk' a _ haw ha)
    rw [List.drop_of_length_le (by rw [hin, hn]; simp)] at q
    show wpAny _ A.in1 (ret Value.none) _ _ _
    exact wpAny_pure (q F r)
  | succ m ih =>
    intro i s G l hm hi hst ha F r hb hR
    have hlt : i < n := by omega
    refine codeAny_builtin PyProof.Rows.F.entry_set_update_loop ?_
    rw [Around.under_plainId PyProof.Rows.F.plain_set_update_loop _]
    show wpAny _ A.in1 (pyNext (.ref I) >>= _) _ _ s
    refine wpAny_bind (W.item i s _ _ hlt hst fun v h' tk hP hst' hk' => ?_)
    obtain ⟨c, t, hc, rfl⟩ := hP
    have hd := cps_at hc
    have ha' : h'.get? a = some (sObj "set" G) := hk' a _ haw ha
    rw [hd] at hR
    show wpAny _ A.in1 (holding [Value.str (sing c) t] (setAdd a (.str (sing c) t)) >>= _) _ _ _
    refine wpAny_bind (wpAny_holding ?_)
    unfold setAdd
    refine wpAny_holding (wpAny_bind ((strKind P w).pyHash (k := sing c) (is_str _ _) ?_))
    by_cases hin : sing c ∈ l
    · refine old_x (s := { s with heap := h', toks := tk + 1 }) ha' F hin (by omega) ?_
      refine wpAny_pure ⟨plainId_quiet PyProof.Rows.F.plain_set_update_loop _, ih (i + 1) { s with heap := h', toks := tk + 1 } G l (by omega) hlt hst' ha' F r (by omega) fun h'' tk'' G'' k'' a'' F'' r'' => ?_⟩
      refine hR h'' tk'' G'' (fun b o h1 h2 e => k'' b o h1 h2 (hk' b o h2 e)) a'' ?_ r''
      rw [List.foldl_cons, show addNew l c = l from if_pos hin]
      exact F''
    · refine add_x (s := { s with heap := h', toks := tk + 1 }) (l := l) ha' F hin (by omega) ?_
      have hst2 : St (i + 1) (h'.update a fun _ => sObj "set" (addTx (hashStr w (sing c)) (.str (sing c) t) G)) := W.frame (i + 1) h' _ hst' fun b hb o e => Heap.get?_update_of_ne _ (fun z => haf (z ▸ hb)) e
      have ha2 := get_upd (sObj "set" (addTx (hashStr w (sing c)) (.str (sing c) t) G)) ha' rfl
      refine wpAny_pure ⟨plainId_quiet PyProof.Rows.F.plain_set_update_loop _, ih (i + 1) { s with heap := h'.update a fun _ => sObj "set" (addTx (hashStr w (sing c)) (.str (sing c) t) G), toks := tk + 1 } _ (sing c :: l) (by omega) hlt hst2 ha2 (add_ok t F) (add_rl r) (by rw [List.length_cons]; omega) fun h'' tk'' G'' k'' a'' F'' r'' => ?_⟩
      refine hR h'' tk'' G'' (fun b o h1 h2 e => k'' b o h1 h2 (Heap.get?_update_of_ne _ (Ne.symm h1) (hk' b o h2 e))) a'' ?_ r''
      rw [List.foldl_cons, show addNew l c = sing c :: l from if_neg hin]
      exact F''
end
section
variable {P : Program} {w : World} {A : Around} {E : Value → Shared → Prop} {s : Shared}
theorem set_made (v : Value) {Q : Value → Shared → Prop}
    (h : Q (.ref s.heap.objs.size) { s with heap := s.heap.push { cls := .type "set", dict := none, data := .set #[] 0 (.fresh 0 0 (!w.params.followText "set-order")) } }) :
    codeAny (model P w) A (.call (.builtin "set.__new__") ⟨[.type "set", v], []⟩) (wants Q E) s := by
  refine codeAny_of_tree ?_
  show wpAny _ A.in1 (do checkBuiltinCall "set.__new__" ⟨[.type "set", v], []⟩; again (.builtin "set.__new__" ⟨[.type "set", v], []⟩)) _ _ s
  refine wpAny_bind (wpAny_of_eq (PySem.F.newCall_set_1 v) (wpAny_pure ⟨plainId_quiet PySem.F.plain_set_new _, codeAny_builtin PySem.F.entry_set_new ?_⟩))
  rw [Around.under_plainId PySem.F.plain_set_new _]
  unfold Builtin.«set.__new__» Builtin.Frozenset.newClass
  have hsub := sub_set_self
  obtain ⟨hp, g, d, tk, os⟩ := s
  dsimp only
  wp_walk
  refine wpAny_askSetting (wpAny_pure ?_)
  dsimp only
  simp only [newObj]
  exact wpAny_bind (wpAny_alloc (wpAny_pure (wpAny_pure h)))
/-- set(text) -/
theorem call_set_text {y : Str} {tk0 : Tok} {Q : Value → Shared → Prop} (hh : A.handled = none) (hb : y.cps.size + 1 < scanBound)
    (h : ∀ (h' : Heap) (tk : Nat) (G : SD), h'.get? s.heap.objs.size = some (sObj "set" G) → TxOk P w G (y.cps.toList.foldl addNew []) → RL w G →
      (∀ b o, s.heap.get? b = some o → h'.get? b = some o) → Q (.ref s.heap.objs.size) { s with heap := h', toks := tk }) :
    wpAny (model P w) A (call (.type "set") [.str y tk0]) Q E s := by
  obtain ⟨c, tl, hmro⟩ := PySem.F.called_set.mro
  have hmade := PySem.F.called_set.made
  have hsub := PySem.F.called_set.sub
  refine wpAny_call (codeAny_of_tree ?_)
  show wpAny _ _ (callAny (.type "set") _) _ _ _
  refine wpAny_pure ⟨Code.quiet_builtin _ (by decide +kernel), codeAny_builtin PySem.F.entry_type_call ?_⟩
  rw [Around.under_plain (weight_type_call_type "set" [.str y tk0] []) rfl]
  have h1 := PySem.F.called_set.notType
  have h2 := PySem.F.called_set.canCreate
  have hct := PySem.F.typeCall_set_1 (.str y tk0)
  repeat (any_goals (first | assumption | wp_step))
  generalize hO : ({ cls := .type "set", dict := none, data := .set #[] 0 (.fresh 0 0 (!w.params.followText "set-order")) } : Obj) = O
  refine codeAny_mono (set_made (.str y tk0) (E := E) (Q := fun obj s1 => obj = .ref s.heap.objs.size ∧ s1 = { s with heap := s.heap.push O }) ⟨rfl, by rw [← hO]⟩) fun r s1 hr => ?_
  cases r with
  | error e => exact hr
  | ok fl =>
    cases fl with
    | ret obj =>
      obtain ⟨rfl, rfl⟩ := hr
      have hOc : O.cls = .type "set" := by rw [← hO]
      have hS : (s.heap.push O).get? s.heap.objs.size = some O := Heap.get?_push_size _ (by rw [← hO]; rfl)
      have hT : Shared.TypeIs { s with heap := s.heap.push O } (.ref s.heap.objs.size) "set" := ⟨_, hS, hOc⟩
      have hli := PySem.F.called_set.init.lookup
      have hbi := PySem.F.called_set.init.bind (.ref s.heap.objs.size)
      repeat (any_goals (first | assumption | wp_step))
      refine codeAny_mono (codeAny_call_builtin (R := wants (fun r s2 => r = .none ∧ ∃ h' tk G, s2 = { s with heap := h', toks := tk } ∧ h'.get? s.heap.objs.size = some (sObj "set" G) ∧ TxOk P w G (y.cps.toList.foldl addNew []) ∧ RL w G ∧
          (∀ b o, s.heap.get? b = some o → h'.get? b = some o)) E) PySem.F.called_set.init.plain PySem.F.entry_set_init (check_set_init_1 hT ?_)) fun r2 s2 hr2 => ?_
      · have hTy : Shared.TypeIs { s with heap := s.heap.push O } (.str y tk0) "str" := typeIs_str _ _ _
        have hsls := PySem.F.sub_str_set
        have hslf := PySem.F.sub_str_frozenset
        have hne : (Value.type "str" == Value.type "dict") = false := by decide
        subst hO
        unfold Builtin.«set.__init__» noKeywords Builtin.Frozenset.updateFrom
        generalize hPI : pyIter = PI
        wp_walk
        subst hPI
        refine wpAny_pyIter_str fun o St hW hst => ?_
        refine wpAny_bind (wpAny_runValue ?_)
        have hns : s.heap.objs.size ∉ [(s.heap.push { cls := .type "set", dict := none, data := .set #[] 0 (.fresh 0 0 (!w.params.followText "set-order")) }).objs.size] := by
          rw [Heap.size_push, List.mem_singleton]
          exact Nat.ne_of_lt (Nat.lt_succ_self _)
        have hG : ((s.heap.push { cls := .type "set", dict := none, data := .set #[] 0 (.fresh 0 0 (!w.params.followText "set-order")) }).push o).get? s.heap.objs.size = some (sObj "set" (#[], 0, .fresh 0 0 (!w.params.followText "set-order"))) := Heap.get?_push_of_some _ hS
        refine upd_loop (hW _ (by simp [hh])) rfl hns (y.cps.size - 0) 0 _ (#[], 0, .fresh 0 0 (!w.params.followText "set-order")) [] rfl (Nat.zero_le _) hst hG (TxOk.nil (by rfl)) ⟨List.Pairwise.nil, ?_⟩ (by simpa using hb) fun h' tk G' k' a' F' r' => ?_
        · show _ ∨ (!w.params.followText "set-order") = true
          cases w.params.followText "set-order"
          · exact .inr rfl
          · exact .inl rfl
        · show wpAny _ _ _ _ _ _
          refine wpAny_pure ?_
          show wpAny _ _ (ret Value.none) _ _ _
          refine wpAny_pure ⟨rfl, h', tk, G', rfl, a', F', r', fun b o' e => ?_⟩
          have hlt := Heap.lt_size e
          refine k' b o' (Nat.ne_of_lt hlt) ?_ (Heap.get?_push_of_some _ (Heap.get?_push_of_some _ e))
          rw [Heap.size_push, List.mem_singleton]
          exact Nat.ne_of_lt (Nat.lt_succ_of_lt hlt)
      · cases r2 with
        | error e => exact hr2
        | ok fl2 =>
          cases fl2 with
          | ret r =>
            obtain ⟨rfl, h', tk, G, rfl, g1, g2, g3, g4⟩ := hr2
            repeat (any_goals (first | assumption | wp_step))
            exact h _ _ G g1 g2 g3 g4
          | _ => exact hr2.elim
    | _ => exact hr.elim
/-! ### sorted -/
theorem strs_out : ∀ (l : List Value), (∀ v ∈ l, ∃ k t, v = Value.str k t) → StrsAre l (l.map strOf) := strsAre_map
theorem sorted_txt {a : Addr} {G : SD} {l : List Str} {Q : Value → Shared → Prop} (ho : s.heap.get? a = some (sObj "set" G)) (F : TxOk P w G l) (r : RL w G) (hh : A.handled = none) (h64 : l.length < 64)
    (hQ : ∀ s' p (out : Array Value) (c : Nat) (ss : List Str), (∀ b o, s.heap.get? b = some o → s'.heap.get? b = some o) → s'.gens = s.gens → s'.os = s.os → s.heap.objs.size ≤ p →
      s'.heap.get? p = some (seqObj "list" out c) → StrsAre out.toList ss → sortedS ss = true → (∀ k, k ∈ ss ↔ k ∈ l) → ss.length = l.length → Q (.ref p) s') :
    wpAny (model P w) A (call (.builtin "sorted") [.ref a]) Q E s := by
  obtain ⟨es, ep, t⟩ := G
  have hsz : es.size = l.length := F.sz
  have hb : es.size < scanBound := by rw [hsz]; exact Nat.lt_trans h64 (by decide)
  refine Calls.call_function_entry kind_sorted plain_sorted entry_sorted (args_sorted1 _) ?_
  unfold Builtin.«sorted»
  refine wpAny_bind (m := checkCount "sorted" 1 1 _) (wpAny_pure ?_)
  refine wpAny_bind (collect_set (A := A.in1) hh ⟨_, ho, rfl, rfl⟩ F.fit hb r.1 r.2 fun s1 vs k1 hz g1 o1 pm => ?_)
  have hvl : vs.length = l.length := by rw [pm.length_eq, List.length_map, Array.length_toList]; exact hsz
  have hall : ∀ v ∈ vs, ∃ k u, v = Value.str k u := fun v hv => by
    obtain ⟨e, he, q⟩ := List.mem_map.mp (pm.mem_iff.mp hv)
    obtain ⟨⟨k, hk, _⟩, _⟩ := F.el e he
    have hk' : Value.isStrOf k e.2 = true := hk
    cases he2 : e.2 with
    | str k2 u2 => exact ⟨k2, u2, by rw [← q, he2]⟩
    | _ => rw [he2] at hk'; simp [Value.isStrOf] at hk'
  have hI := strsAre_map vs hall
  refine wpAny_bind (wpAny_newList ?_ (by rw [hvl, sizeLine_eq]; omega))
  have hoL : (s1.heap.push (seqObj "list" vs.toArray 0)).get? s1.heap.objs.size = some (seqObj "list" vs.toArray 0) := Heap.get?_push_size _ rfl
  refine wpAny_bind (wpAny_holding (wpAny_call_entry slot_list_sort ⟨_, hoL, rfl⟩ entry_list_sort (list_sort_treeK strKind_oneLt hoL hI.keysOf (fun v1 v2 rest e => keyKind_strs (by rw [← e]; exact hI)) (by rw [hvl]; exact h64) fun st' a1 a2 => ⟨_, rfl, ?_⟩) (args_list_sort _)))
  obtain ⟨ss, c1, c2, c3⟩ := sorted_out_str hI a1 a2
  obtain ⟨c, hc⟩ := sortedHeap_at (vs := vs) (out := (arrOf st').map (·.2)) hoL
  refine wpAny_pure ⟨_, rfl, hQ _ s1.heap.objs.size _ c ss (fun b u e => ?_) g1 o1 hz hc c1 c3 (fun k => ?_) ?_⟩
  · have q := k1 b u e
    have hlt := Heap.lt_size q
    show (sortedHeap (s1.heap.push (seqObj "list" vs.toArray 0)) s1.heap.objs.size vs _).get? b = some u
    rw [sortedHeap_old (Nat.ne_of_lt hlt) (by rw [size_push']; exact Nat.lt_succ_of_lt hlt)]
    exact Heap.get?_push_of_some _ q
  · rw [c2.mem_iff]
    constructor
    · intro hk
      obtain ⟨v, hv, e⟩ := List.mem_map.mp hk
      obtain ⟨k2, u2, rfl⟩ := hall v hv
      have e : k2 = k := e
      subst e
      obtain ⟨e, he, q⟩ := List.mem_map.mp (pm.mem_iff.mp hv)
      exact (F.mem k2).mpr ⟨e, he, by rw [q]; exact is_str k2 u2⟩
    · intro hk
      obtain ⟨e, he, q⟩ := (F.mem k).mp hk
      have q' : Value.isStrOf k e.2 = true := q
      refine List.mem_map.mpr ⟨e.2, pm.mem_iff.mpr (List.mem_map.mpr ⟨e, he, rfl⟩), ?_⟩
      cases he2 : e.2 with
      | str k2 u2 =>
        rw [he2] at q'
        simp [Value.isStrOf] at q'
        exact q'
      | _ => rw [he2] at q'; simp [Value.isStrOf] at q'
  · rw [c2.length_eq, List.length_map]; exact hvl
end
end LW
/-! LwU: len(set(text)), sorted(set(text)) over data. -/
namespace LW
open PySem PySem.Spec PyProof.Rows L2 PySem.Froz
/-! ### lists -/
theorem perm_of_sub {α : Type} [DecidableEq α] : ∀ {l m : List α}, l.Nodup → (∀ x ∈ l, x ∈ m) → m.length ≤ l.length → m.Perm l
  | [], m, _, _, hm => by
    have : m = [] := List.eq_nil_of_length_eq_zero (by simpa using hm)
    rw [this]
  | x :: l, m, nd, h, hm => by
    obtain ⟨n1, n2⟩ := List.nodup_cons.mp nd
    have hx : x ∈ m := h x (by simp)
    have p := List.perm_cons_erase hx
    refine p.trans (List.Perm.cons x (perm_of_sub n2 (fun y hy => ?_) ?_))
    · exact (List.mem_erase_of_ne (fun (e : y = x) => n1 (e ▸ hy))).mpr (h y (List.mem_cons_of_mem _ hy))
    · have := p.length_eq
      simp only [List.length_cons] at this hm
      omega
theorem fold_mem {k : Str} : ∀ (s : List Nat) (l : List Str), k ∈ s.foldl addNew l ↔ k ∈ l ∨ ∃ c ∈ s, k = sing c
  | [], l => by simp
  | c :: s, l => by
    rw [List.foldl_cons, fold_mem s]
    unfold addNew
    by_cases h : sing c ∈ l
    · rw [if_pos h]
      constructor
      · rintro (h1 | ⟨d, hd, e⟩)
        · exact .inl h1
        · exact .inr ⟨d, List.mem_cons_of_mem _ hd, e⟩
      · rintro (h1 | ⟨d, hd, e⟩)
        · exact .inl h1
        · rcases List.mem_cons.mp hd with rfl | hd
          · exact .inl (e ▸ h)
          · exact .inr ⟨d, hd, e⟩
    · rw [if_neg h]
      constructor
      · rintro (h1 | ⟨d, hd, e⟩)
        · rcases List.mem_cons.mp h1 with h1 | h1
          · exact .inr ⟨c, by simp, h1⟩
          · exact .inl h1
        · exact .inr ⟨d, List.mem_cons_of_mem _ hd, e⟩
      · rintro (h1 | ⟨d, hd, e⟩)
        · exact .inl (List.mem_cons_of_mem _ h1)
        · rcases List.mem_cons.mp hd with rfl | hd
          · exact .inl (List.mem_cons.mpr (.inl e))
          · exact .inr ⟨d, hd, e⟩
theorem fold_nodup : ∀ (s : List Nat) (l : List Str), l.Nodup → (s.foldl addNew l).Nodup
  | [], l, h => h
  | c :: s, l, h => by
    rw [List.foldl_cons]
    refine fold_nodup s _ ?_
    unfold addNew
    by_cases hc : sing c ∈ l
    · rw [if_pos hc]; exact h
    · rw [if_neg hc]; exact List.nodup_cons.mpr ⟨hc, h⟩
theorem sing_inj {c d : Nat} (h : sing c = sing d) : c = d := by
  have : [c] = [d] := congrArg (fun y : Str => y.cps.toList) h
  exact (List.cons.inj this).1
theorem dedup_mem {c : Nat} : ∀ {l : List Nat}, c ∈ dedup l ↔ c ∈ l
  | [] => by simp [dedup]
  | x :: r => by
    rw [dedup, List.mem_cons, List.mem_filter, dedup_mem (l := r), List.mem_cons]
    by_cases h : c = x
    · simp [h]
    · simp [h]
theorem dedup_nd : ∀ l : List Nat, (dedup l).Nodup
  | [] => by simp [dedup]
  | x :: r => by
    rw [dedup]
    refine List.nodup_cons.mpr ⟨fun h => ?_, (dedup_nd r).filter _⟩
    have := (List.mem_filter.mp h).2
    simp at this
theorem dedup_le : ∀ l : List Nat, (dedup l).length ≤ l.length
  | [] => by simp [dedup]
  | x :: r => by
    have h1 := dedup_le r
    have h2 := List.length_filter_le (fun y => decide (y ≠ x)) (dedup r)
    rw [dedup, List.length_cons, List.length_cons]
    omega
theorem map_sing_nd {l : List Nat} (h : l.Nodup) : (l.map sing).Nodup := by
  rw [List.nodup_iff_pairwise_ne] at h ⊢
  rw [List.pairwise_map]
  exact h.imp fun hab e => hab (sing_inj e)
theorem fold_perm (s : List Nat) : ((dedup s).map sing).Perm (s.foldl addNew []) := by
  have sub : ∀ k, k ∈ s.foldl addNew [] ↔ k ∈ (dedup s).map sing := fun k => by
    rw [fold_mem, List.mem_map]
    constructor
    · rintro (h | ⟨c, hc, e⟩)
      · simp at h
      · exact ⟨c, dedup_mem.mpr hc, e.symm⟩
    · rintro ⟨c, hc, e⟩
      exact .inr ⟨c, dedup_mem.mp hc, e.symm⟩
  have n1 := map_sing_nd (dedup_nd s)
  have n2 := fold_nodup s [] List.nodup_nil
  rcases Nat.le_total ((dedup s).map sing).length (s.foldl addNew []).length with h | h
  · exact perm_of_sub n2 (fun k hk => (sub k).mp hk) h
  · exact (perm_of_sub n1 (fun k hk => (sub k).mpr hk) h).symm
theorem fold_len (s : List Nat) : (s.foldl addNew []).length = (dedup s).length := by
  rw [← (fold_perm s).length_eq, List.length_map]
theorem insN_mem {x y : Nat} : ∀ {l : List Nat}, y ∈ insN x l ↔ y = x ∨ y ∈ l
  | [] => by simp [insN]
  | z :: r => by
    unfold insN
    split
    · simp
    · rw [List.mem_cons, insN_mem (l := r), List.mem_cons]
      constructor
      · rintro (h | h | h)
        · exact .inr (.inl h)
        · exact .inl h
        · exact .inr (.inr h)
      · rintro (h | h | h)
        · exact .inr (.inl h)
        · exact .inl h
        · exact .inr (.inr h)
theorem insN_rise (x : Nat) : ∀ {l : List Nat}, l.Pairwise (· ≤ ·) → (insN x l).Pairwise (· ≤ ·)
  | [], _ => by simp [insN]
  | z :: r, h => by
    obtain ⟨h1, h2⟩ := List.pairwise_cons.mp h
    unfold insN
    split
    · rename_i c
      refine List.pairwise_cons.mpr ⟨fun y hy => ?_, h⟩
      rcases List.mem_cons.mp hy with rfl | hy
      · exact c
      · exact Nat.le_trans c (h1 y hy)
    · rename_i c
      refine List.pairwise_cons.mpr ⟨fun y hy => ?_, insN_rise x h2⟩
      rcases insN_mem.mp hy with rfl | hy
      · omega
      · exact h1 y hy
theorem sortN_rise : ∀ l : List Nat, (sortN l).Pairwise (· ≤ ·)
  | [] => by simp [sortN]
  | x :: r => insN_rise x (sortN_rise r)
theorem insN_perm0 (x : Nat) : ∀ l : List Nat, (insN x l).Perm (x :: l)
  | [] => by simp [insN]
  | y :: r => by
    unfold insN
    split
    · exact List.Perm.refl _
    · exact ((insN_perm0 x r).cons y).trans (List.Perm.swap x y r)
theorem sortN_perm0 : ∀ l : List Nat, (sortN l).Perm l
  | [] => by simp [sortN]
  | x :: r => (insN_perm0 x _).trans ((sortN_perm0 r).cons x)
/-- texts of one sign in their order -/
theorem risingS_ones : ∀ (l : List Nat) (c : Nat), risingS (sing c) (l.map sing) = true → (c :: l).Pairwise (· ≤ ·)
  | [], c, _ => by simp
  | d :: l, c, h => by
    simp only [List.map_cons, risingS, Bool.and_eq_true] at h
    obtain ⟨h1, h2⟩ := h
    have ih := risingS_ones l d h2
    have hcd : c ≤ d := by
      have h3 : ltCps [d] [c] = false := by simpa [sing] using h1
      rw [ltCps_eq] at h3
      have h4 := of_decide_eq_false h3
      by_cases q : c ≤ d
      · exact q
      · exact absurd (List.cons_lt_cons_iff.mpr (.inl (by omega))) h4
    refine List.pairwise_cons.mpr ⟨fun y hy => ?_, ih⟩
    rcases List.mem_cons.mp hy with rfl | hy
    · exact hcd
    · exact Nat.le_trans hcd ((List.pairwise_cons.mp ih).1 y hy)
theorem sortedS_ones {l : List Nat} (h : sortedS (l.map sing) = true) : l.Pairwise (· ≤ ·) := by
  cases l with
  | nil => simp
  | cons c l => exact risingS_ones l c h
theorem sorted_is {s : List Nat} {ss : List Str} (h1 : sortedS ss = true) (h2 : ∀ k, k ∈ ss ↔ k ∈ s.foldl addNew []) (h3 : ss.length = (s.foldl addNew []).length) : ss = (sortN (dedup s)).map sing := by
  have p1 : ss.Perm (s.foldl addNew []) := perm_of_sub (fold_nodup s [] List.nodup_nil) (fun k hk => (h2 k).mpr hk) (by omega)
  have p2 : ss.Perm ((dedup s).map sing) := p1.trans (fold_perm s).symm
  have hs : ss = (ss.map fun k => k.cps.toList.headD 0).map sing := by
    rw [List.map_map]
    conv => lhs; rw [← List.map_id ss]
    refine List.map_congr_left fun k hk => ?_
    obtain ⟨c, _, rfl⟩ := List.mem_map.mp (p2.mem_iff.mp hk)
    rfl
  have p3 : (ss.map fun k => k.cps.toList.headD 0).Perm (dedup s) := by
    have := p2.map fun k : Str => k.cps.toList.headD 0
    rw [List.map_map] at this
    have e : (dedup s).map ((fun k : Str => k.cps.toList.headD 0) ∘ sing) = dedup s := by
      conv => rhs; rw [← List.map_id (dedup s)]
      exact List.map_congr_left fun c _ => rfl
    rw [e] at this
    exact this
  rw [hs] at h1 ⊢
  congr 1
  exact List.Perm.eq_of_pairwise (le := fun a b => a ≤ b) (fun a b _ _ h1 h2 => Nat.le_antisymm h1 h2) (sortedS_ones h1) (sortN_rise _) (p3.trans (sortN_perm0 _).symm)

/-! ### the rules -/
section
variable {C : Cn} {W : XK} {X : Cx} {a : Expr} {fa : Ex} {p p2 pos pos2 : Pos}
def tLenT (ta : TE) : TE := fun σ H Q => ta σ H fun x H1 => ∃ z : Str, x = .str z ∧ z.cps.size < 4000 ∧ Q (.int (dedup z.cps.toList).length) H1
theorem pe_lenT {ta : TE} (hc : X.calm = true) (hg : Gl X "len") (hm : X.mg "len" = none) (hg2 : Gl X "set") (hm2 : X.mg "set" = none) (ha : PE X a ta)
    (na : starEach [a] X.env = (false, eval a X.env) :: starEach [] X.env := by rfl) : PE X (.Call (.Name "len" p) [.Call (.Name "set" p2) [a] [] pos2] [] pos) (tLenT ta) := by
  refine ⟨fun pins s σ H Q I h => ?_⟩
  refine Call_ (ld_blt I hg hm boot_len (PyProof.Rows.callWith_builtin1 (PyProof.Rows.args_cons ?_ rfl) rfl rfl))
  refine Call_ (ld_blt I hg2 hm2 boot_set (PyProof.Rows.callWith_type1 (PyProof.Rows.args_cons (thn (ha.run pins s σ H _ I h) fun v s1 ⟨x, H1, I1, r1, q1⟩ => PyProof.Rows.args_nil ?_) na) na rfl))
  obtain ⟨z, rfl, hz, q1⟩ := q1
  obtain ⟨u, rfl⟩ := id r1
  refine call_set_text (I1.ok.hd hc) (by unfold scanBound; omega) fun h' tk G g1 g2 g3 g4 => PyProof.Rows.args_nil ?_
  have I2 : Inv X pins σ H1 { s1 with heap := h', toks := tk } := I1.kept g4
  have hsz : G.1.size = (dedup z.cps.toList).length := by rw [g2.sz, fold_len]
  have hle : (dedup z.cps.toList).length < 4000 := by
    have h1 := dedup_le z.cps.toList
    have h2 : z.cps.toList.length = z.cps.size := Array.length_toList
    omega
  exact call_len_set g1 ⟨rfl, rfl, rfl⟩ rfl g2.fit (by rw [hsz]; omega) ⟨.int (dedup z.cps.toList).length, H1, I2.tok _, ⟨_, by rw [hsz]⟩, q1⟩
theorem txt_at {ρ : Rho} {H : Hp} {t : List Nat} {v : V} (h : RepV C ρ H (.str t) v) : v = .str ⟨t.toArray⟩ ∧ ∀ c ∈ t, c < 1114112 := by
  simp only [RepV] at h
  exact ⟨h.1, h.2.2⟩
theorem de_lenSet (hc : X.calm = true) (hg : Gl X "len") (hm : X.mg "len" = none) (hg2 : Gl X "set") (hm2 : X.mg "set" = none) (ha : DE C W X a fa) (na : starEach [a] X.env = (false, eval a X.env) :: starEach [] X.env := by rfl) :
    DE C W X (.Call (.Name "len" p) [.Call (.Name "set" p2) [a] [] pos2] [] pos) (unE lenSetD fa) := by
  refine PE.imp (pe_lenT hc hg hm hg2 hm2 ha na) ?_
  rintro σ H Q ⟨ρ, g, m, re, rm, h⟩
  refine ⟨ρ, g, m, re, rm, h.bind.imp fun d m1 ρ1 H1 x1 rm1 h1 v r => ?_⟩
  obtain ⟨d', e, q⟩ := h1.opt rm1
  cases d with
  | str t =>
    obtain ⟨rfl, hcs⟩ := txt_at r
    unfold lenSetD at e
    simp only at e
    split at e
    · rename_i hl
      cases e
      refine ⟨_, rfl, by simpa using hl, ?_⟩
      refine q _ H1 (fun _ _ e => e) ?_
      simp only [RepV, List.toList_toArray]
    · cases e
  | _ => cases e
def tSortT (ta : TE) : TE := fun σ H Q => ta σ H fun x H1 => ∃ z : Str, x = .str z ∧ z.cps.size < 4000 ∧ (dedup z.cps.toList).length < 64 ∧ ∀ l, H1 l = none → Q (.ref l) (upd H1 l (.lst ((sortN (dedup z.cps.toList)).map fun c => .str (sing c))))
theorem vals_strs : ∀ {us : List Value} {ss : List Str}, StrsAre us ss → Vals (ss.map V.str) us
  | _, _, .nil => .nil
  | _, _, .cons x t r => .cons ⟨t, rfl⟩ (vals_strs r)
theorem pe_sortT {ta : TE} (hc : X.calm = true) (hg : Gl X "sorted") (hm : X.mg "sorted" = none) (hg2 : Gl X "set") (hm2 : X.mg "set" = none) (ha : PE X a ta)
    (na : starEach [a] X.env = (false, eval a X.env) :: starEach [] X.env := by rfl) : PE X (.Call (.Name "sorted" p) [.Call (.Name "set" p2) [a] [] pos2] [] pos) (tSortT ta) := by
  refine ⟨fun pins s σ H Q I h => ?_⟩
  refine Call_ (ld_blt I hg hm (by decide +kernel : bootBuiltins "sorted" = some (.builtin "sorted")) (PyProof.Rows.callWith_builtin1 (PyProof.Rows.args_cons ?_ rfl) rfl rfl))
  refine Call_ (ld_blt I hg2 hm2 boot_set (PyProof.Rows.callWith_type1 (PyProof.Rows.args_cons (thn (ha.run pins s σ H _ I h) fun v s1 ⟨x, H1, I1, r1, q1⟩ => PyProof.Rows.args_nil ?_) na) na rfl))
  obtain ⟨z, rfl, hz, h64, q1⟩ := q1
  obtain ⟨u, rfl⟩ := id r1
  refine call_set_text (I1.ok.hd hc) (by unfold scanBound; omega) fun h' tk G g1 g2 g3 g4 => PyProof.Rows.args_nil ?_
  have I2 : Inv X pins σ H1 { s1 with heap := h', toks := tk } := I1.kept g4
  have hl : (z.cps.toList.foldl addNew []).length = (dedup z.cps.toList).length := fold_len _
  refine sorted_txt (s := { s1 with heap := h', toks := tk }) g1 g2 g3 (I1.ok.hd hc) (by omega) fun s' l out c ss k g o hp hg' hi hs hmm hln => ?_
  have e0 : ss = (sortN (dedup z.cps.toList)).map sing := sorted_is hs hmm hln
  have hlen : ((sortN (dedup z.cps.toList)).map fun c => V.str (sing c)).length ≤ sizeLine := by
    rw [List.length_map, (sortN_perm0 _).length_eq, sizeLine_eq]
    omega
  have hn : H1 l = none := I2.hok.fresh hp
  have hv : Vals ((sortN (dedup z.cps.toList)).map fun c => V.str (sing c)) out.toList := by
    have q := vals_strs hi
    rw [e0, List.map_map] at q
    exact q
  have J : Inv X pins σ (upd H1 l (.lst ((sortN (dedup z.cps.toList)).map fun c => .str (sing c)))) { ({ s1 with heap := h', toks := tk } : Shared) with heap := s'.heap, gens := s'.gens, drawn := s'.drawn, toks := s'.toks } :=
    I2.call (s := { s1 with heap := h', toks := tk }) (ch := []) (Un.laid k hp hn) (I2.hok.laid k hp ⟨hlen, out.toList, c, hv, hg'⟩) (by rw [g]; exact I2.bare) (fun _ z => nomatch z)
  have e : s' = { s1 with heap := s'.heap, gens := s'.gens, drawn := s'.drawn, toks := s'.toks } := by
    cases s'
    cases s1
    cases o
    rfl
  rw [e]
  exact ⟨.ref l, _, J, rfl, q1 l hn⟩
theorem de_sortedSet (hc : X.calm = true) (hg : Gl X "sorted") (hm : X.mg "sorted" = none) (hg2 : Gl X "set") (hm2 : X.mg "set" = none) (ha : DE C W X a fa) (na : starEach [a] X.env = (false, eval a X.env) :: starEach [] X.env := by rfl) :
    DE C W X (.Call (.Name "sorted" p) [.Call (.Name "set" p2) [a] [] pos2] [] pos) (unE sortedSetD fa) := by
  refine PE.imp (pe_sortT hc hg hm hg2 hm2 ha na) ?_
  rintro σ H Q ⟨ρ, g, m, re, rm, h⟩
  refine ⟨ρ, g, m, re, rm, h.bind.imp fun d m1 ρ1 H1 x1 rm1 h1 v r => ?_⟩
  obtain ⟨d', e, q⟩ := h1.opt rm1
  cases d with
  | str t =>
    obtain ⟨rfl, hcs⟩ := txt_at r
    unfold sortedSetD at e
    simp only at e
    split at e
    · rename_i hl
      cases e
      refine ⟨_, rfl, by simpa using hl.2, by simpa using hl.1, fun l nl => ?_⟩
      rw [List.toList_toArray]
      refine q _ _ (same_upd nl) (rep_lst rm1 nl ?_)
      have := signs_rep (C := C) (ρ := ρ1) (H := H1) (s := sortN (dedup t)) fun c hc => hcs c (dedup_mem.mp ((sortN_perm0 _).mem_iff.mp hc))
      exact this
    · cases e
  | _ => cases e
end
end LW
/-! LwZ: zip over texts, lists, tuples, in any mixture. -/
namespace LW
open PySem PySem.Spec PyProof.Rows L2
/-- what is drawn from -/
inductive Src where
  | txt (z : Str) (t : Tok) | lst (a : Addr) | tup (a : Addr)
def Src.ad : Src → List Addr
  | .txt _ _ => [] | .lst a => [a] | .tup a => [a]
def Src.vals (K : PySem.W.Frag) : Src → Hp → List V → Prop
  | .txt z _, _, xs => xs = z.cps.toList.map fun c => .str ⟨#[c]⟩
  | .lst a, H, xs => SqL K H a xs
  | .tup a, H, xs => SqT K H a xs
def Src.itr : Src → Heap → Addr → Nat → Prop
  | .txt z t, h, it, i => h.IsStrIter it (strIterType z) z t i
  | .lst a, h, it, i => h.IsListIter it a i
  | .tup a, h, it, i => h.IsTupleIter it a i
def Src.val : Src → Value
  | .txt z t => .str z t | .lst a => .ref a | .tup a => .ref a
def Src.o : Src → Obj
  | .txt z t => { cls := .type (strIterType z), data := .fields #[.str z t, .int 0 0] }
  | .lst a => { cls := .type "list_iterator", data := .fields #[.ref a, .int 0 0] }
  | .tup a => { cls := .type "tuple_iterator", data := .fields #[.ref a, .int 0 0] }
theorem itr_keep {src : Src} {h h' : Heap} {it : Addr} {i : Nat} (x : src.itr h it i) (k : ∀ o, h.get? it = some o → h'.get? it = some o) : src.itr h' it i := by
  cases src with
  | txt z t => obtain ⟨o, ho, r⟩ := x; exact ⟨o, k o ho, r⟩
  | lst a => exact x.at k
  | tup a => exact x.at k
theorem itr_obj {src : Src} {h : Heap} {it : Addr} {i : Nat} (x : src.itr h it i) : ∃ o, h.get? it = some o ∧ ∀ v, o.data ≠ .cell v := by
  cases src with
  | txt z t => obtain ⟨o, ho, _, d⟩ := x; exact ⟨o, ho, fun v q => by rw [d] at q; cases q⟩
  | lst a => obtain ⟨o, ho, _, d⟩ := x; exact ⟨o, ho, fun v q => by rw [d] at q; cases q⟩
  | tup a => obtain ⟨o, ho, _, d⟩ := x; exact ⟨o, ho, fun v q => by rw [d] at q; cases q⟩
section
variable {X : Cx} {pins : List (Addr × Obj)} {σ : St} {H : Hp} {s : Shared} {A : Around}
theorem src_inj (I : Inv X pins σ H s) {src : Src} {xs ys : List V} (h1 : src.vals X.K H xs) (h2 : src.vals X.K H ys) : xs = ys := by
  cases src with
  | txt z t => rw [show xs = _ from h1, show ys = _ from h2]
  | lst a => exact I.list_inj h1 h2
  | tup a => exact I.tuple_inj h1 h2
theorem src_begins (I : Inv X pins σ H s) {src : Src} {xs : List V} (h : src.vals X.K H xs) : (∀ b ∈ src.ad, b < s.heap.objs.size) ∧ ∃ Hq, Begins src.val src.o Hq ∧ Hq s.heap := by
  cases src with
  | txt z t => exact ⟨fun b hb => by simp [Src.ad] at hb, _, begins_text z t, trivial⟩
  | lst a =>
    obtain ⟨its, rv, pl, _⟩ := I.list h
    refine ⟨fun b hb => ?_, _, begins_list a its.toArray, pl.isList⟩
    simp only [Src.ad, List.mem_singleton] at hb
    rw [hb]
    exact pl.lt
  | tup a =>
    obtain ⟨its, rv, pl, _⟩ := I.tuple h
    refine ⟨fun b hb => ?_, _, begins_tuple a its.toArray, pl⟩
    simp only [Src.ad, List.mem_singleton] at hb
    rw [hb]
    obtain ⟨o, ho, _⟩ := pl
    exact Heap.lt_size ho
theorem itr_zero {src : Src} {h : Heap} {it : Addr} (e : h.get? it = some src.o) : src.itr h it 0 := by
  cases src with
  | txt z t => exact ⟨_, e, rfl, rfl⟩
  | lst a => exact ⟨_, e, rfl, rfl⟩
  | tup a => exact ⟨_, e, rfl, rfl⟩
theorem src_draws (hh : A.handled = none) (I : Inv X pins σ H s) {src : Src} {it : Addr} {i : Nat} {xs : List V} (hne : it ∉ src.ad) (hv : src.vals X.K H xs) (hi : src.itr s.heap it i) :
    ∃ (Pv : Nat → Value → Prop) (St : Nat → Heap → Prop), Draws X.prog X.w A it (it :: src.ad) xs.length Pv St ∧ St i s.heap ∧ (∀ j v, Pv j v → ∃ x, xs[j]? = some x ∧ RelV x v) ∧ ∀ j h, St j h → src.itr h it j := by
  cases src with
  | txt z t =>
    have e : xs.length = z.cps.size := by rw [show xs = _ from hv]; simp
    rw [e]
    refine ⟨_, _, Draws.text hh it z t, hi, fun j v hp => ?_, fun j h q => q⟩
    obtain ⟨c, u, hc, rfl⟩ := hp
    refine ⟨.str ⟨#[c]⟩, ?_, u, rfl⟩
    rw [show xs = _ from hv, List.getElem?_map, Array.getElem?_toList, hc]
    rfl
  | lst a =>
    obtain ⟨its, rv, pl, _⟩ := I.list hv
    have e : xs.length = its.toArray.size := by rw [List.size_toArray]; exact rv.length
    rw [e]
    refine ⟨_, _, Draws.list hh it a (fun z => hne (by simp [Src.ad, z])) its.toArray, ⟨hi, pl.isList⟩, fun j v hp => ?_, fun j h q => q.1⟩
    have hp : its[j]? = some v := by simpa using hp
    have hj : j < xs.length := by rw [rv.length]; exact (List.getElem?_eq_some_iff.mp hp).1
    obtain ⟨u, hu, ru⟩ := rv.get (List.getElem?_eq_getElem hj)
    rw [hu] at hp
    cases hp
    exact ⟨_, List.getElem?_eq_getElem hj, ru⟩
  | tup a =>
    obtain ⟨its, rv, pl, _⟩ := I.tuple hv
    have e : xs.length = its.toArray.size := by rw [List.size_toArray]; exact rv.length
    rw [e]
    refine ⟨_, _, Draws.tuple hh it a (fun z => hne (by simp [Src.ad, z])) its.toArray, ⟨hi, pl⟩, fun j v hp => ?_, fun j h q => q.1⟩
    have hp : its[j]? = some v := by simpa using hp
    have hj : j < xs.length := by rw [rv.length]; exact (List.getElem?_eq_some_iff.mp hp).1
    obtain ⟨u, hu, ru⟩ := rv.get (List.getElem?_eq_getElem hj)
    rw [hu] at hp
    cases hp
    exact ⟨_, List.getElem?_eq_getElem hj, ru⟩
end
theorem nq {N i j : Nat} (h : i ≠ j) : @Ne Addr (N + i) (N + j) := fun e => h (Nat.add_left_cancel e)
theorem nqL {N j : Nat} (h : j ≠ 0) : @Ne Addr N (N + j) := fun e => h (Nat.left_eq_add.mp e)
theorem nqR {N j : Nat} (h : j ≠ 0) : @Ne Addr (N + j) N := fun e => h (Nat.left_eq_add.mp e.symm)
/-- pairs of both as they stand at each turn -/
def ItZ (K : PySem.W.Frag) (s1 s2 : Src) : It :=
  ⟨fun i H => ∃ xs ys x y, s1.vals K H xs ∧ s2.vals K H ys ∧ xs[i]? = some x ∧ ys[i]? = some y,
    fun i H v H' => ∃ T x y, v = .ref T ∧ H T = none ∧ H' = upd H T (.tup [x, y]) ∧ (∀ xs, s1.vals K H xs → xs[i]? = some x) ∧ ∀ ys, s2.vals K H ys → ys[i]? = some y,
    fun i H => ∃ xs ys, s1.vals K H xs ∧ s2.vals K H ys ∧ i ≤ xs.length ∧ i ≤ ys.length ∧ (i = xs.length ∨ i = ys.length)⟩
theorem turn_zipS {P : Program} {w : World} {K : PySem.W.Frag} {elts : List Expr} {kk : Nat} {tpos : Pos} {s1 s2 : Src} {N : Nat} (h1 : ∀ b ∈ s1.ad, b < N) (h2 : ∀ b ∈ s2.ad, b < N) :
    Turn P w K (.Tuple elts kk tpos) (ItZ K s1 s2) [N + 4, N + 2, N + 3, N, N + 1] (N + 4) (fun i h => IsZip h (N + 4) (N + 2) (N + 3) .none ∧ IsTupOf2 h (N + 2) (.ref N) (.ref (N + 1)) ∧ (∃ x y, IsTupOf2 h (N + 3) x y) ∧ s1.itr h N i ∧ s2.itr h (N + 1) i) where
  mem := by simp
  obj := fun i h st c hc => by
    obtain ⟨hz, hTI, ⟨x, y, hTO⟩, a1, a2⟩ := st
    simp only [List.mem_cons, List.not_mem_nil, or_false] at hc
    rcases hc with rfl | rfl | rfl | rfl | rfl
    · exact ⟨_, hz, fun v q => nomatch q⟩
    · exact ⟨_, hTI, fun v q => nomatch q⟩
    · exact ⟨_, hTO, fun v q => nomatch q⟩
    · exact itr_obj a1
    · exact itr_obj a2
  keep := fun i h h' st k => by
    obtain ⟨hz, hTI, ⟨x, y, hTO⟩, a1, a2⟩ := st
    exact ⟨k _ (by simp) _ hz, k _ (by simp) _ hTI, ⟨x, y, k _ (by simp) _ hTO⟩, itr_keep a1 fun o q => k _ (by simp) o q, itr_keep a2 fun o q => k _ (by simp) o q⟩
  item := by
    intro X hP hw hK hc i pins s σ H E I hf st hg
    subst hP hw hK
    obtain ⟨hz, hTI, ⟨x0, y0, hTO⟩, a1, a2⟩ := st
    obtain ⟨xs, ys, x, y, hqx, hqy, hx, hy⟩ := hg
    have hA : X.A.in1.handled = none := I.ok.hd hc
    obtain ⟨P1, S1, D1, t1, v1, b1⟩ := src_draws (A := X.A.in1) hA I (src := s1) (it := N) (fun z => Nat.lt_irrefl _ (h1 _ z)) hqx a1
    obtain ⟨P2, S2, D2, t2, v2, b2⟩ := src_draws (A := X.A.in1) hA I (src := s2) (it := N + 1) (fun z => absurd (h2 _ z) (Nat.not_lt.mpr (Nat.le_succ N))) hqy a2
    have hzl : (N + 4 : Nat) < s.heap.objs.size := Heap.lt_size hz
    refine wpAny_pyNext_zipD2_item (zip_sep2 h1 h2) D1 D2 hz hTI hTO t1 t2 (List.getElem?_eq_some_iff.mp hx).1 (List.getElem?_eq_some_iff.mp hy).1 fun u1 u2 h' tk p1 p2 z' TO' c1 c2 hT hsz hk => ?_
    refine ⟨_, rfl, wpAny_letOwnedTupleGo_zip (s := { s with heap := h', toks := tk }) z' fun h'' z'' sb => ?_⟩
    obtain ⟨x', hx', r1⟩ := v1 i u1 p1
    obtain ⟨y', hy', r2⟩ := v2 i u2 p2
    rw [hx] at hx'
    rw [hy] at hy'
    cases hx'
    cases hy'
    have hT2 : h''.get? s.heap.objs.size = some { cls := .type "tuple", data := .seq #[u1, u2] } := (sb.2 _ (Nat.ne_of_gt hzl)).trans hT
    have new : ObjOk X.prog X.w (upd H s.heap.objs.size (.tup [x, y])) h'' s.heap.objs.size (.tup [x, y]) :=
      ⟨by show 2 ≤ sizeLine; decide, [u1, u2], .cons r1 (.cons r2 .nil), ⟨_, hT2, rfl, _, rfl⟩⟩
    have I1 : Inv X pins σ (upd H s.heap.objs.size (.tup [x, y])) { s with heap := h'', toks := tk } :=
      I.turnedNew (t' := tk) (ch := [N + 4, N + 2, N + 3, N, N + 1]) (fun c o hb q => (sb.2 c (fun q' => hb (by simp [q']))).trans (hk c o (fun q' => hb (by simp [q'])) (fun q' => hb (by simp [q'])) (fun q' => hb (by simp [q'])) (fun q' => hb (by simp [q'])) q)) hf (Nat.le_refl _) new
    refine ⟨.ref s.heap.objs.size, _, I1, rfl, ⟨_, x, y, rfl, I.hok.fresh (Nat.le_refl _), rfl, fun l hl => by rw [src_inj I hl hqx]; exact hx, fun l hl => by rw [src_inj I hl hqy]; exact hy⟩, ⟨z'', ?_, ⟨u1, u2, ?_⟩, ?_, ?_⟩, fun c hcm => ?_⟩
    · exact (sb.2 _ (nq (by decide))).trans (hk _ _ (nq (by decide)) (nq (by decide)) (nqR (by decide)) (nq (by decide)) hTI)
    · exact (sb.2 _ (nq (by decide))).trans TO'
    · exact itr_keep (b1 _ _ c1) fun o q => (sb.2 _ (nqL (by decide))).trans q
    · exact itr_keep (b2 _ _ c2) fun o q => (sb.2 _ (nq (by decide))).trans q
    · have hlt : c < s.heap.objs.size := by
        simp only [List.mem_cons, List.not_mem_nil, or_false] at hcm
        have q : ∀ j : Nat, j ≤ 4 → N + j < s.heap.objs.size := fun j hj => Nat.lt_of_le_of_lt (Nat.add_le_add_left hj N) hzl
        rcases hcm with e | e | e | e | e
        · rw [e]; exact q 4 (by decide)
        · rw [e]; exact q 2 (by decide)
        · rw [e]; exact q 3 (by decide)
        · rw [e]; exact q 0 (by decide)
        · rw [e]; exact q 1 (by decide)
      rw [upd_ne (Nat.ne_of_lt hlt)]
      exact (hf c hcm).1
  done := by
    intro X hP hw hK hc i pins s σ H E I hf st hg
    subst hP hw hK
    obtain ⟨hz, hTI, ⟨x0, y0, hTO⟩, a1, a2⟩ := st
    obtain ⟨xs, ys, hqx, hqy, l1, l2, hend⟩ := hg
    have hA : X.A.in1.handled = none := I.ok.hd hc
    obtain ⟨P1, S1, D1, t1, v1, b1⟩ := src_draws (A := X.A.in1) hA I (src := s1) (it := N) (fun z => Nat.lt_irrefl _ (h1 _ z)) hqx a1
    obtain ⟨P2, S2, D2, t2, v2, b2⟩ := src_draws (A := X.A.in1) hA I (src := s2) (it := N + 1) (fun z => absurd (h2 _ z) (Nat.not_lt.mpr (Nat.le_succ N))) hqy a2
    exact wpAny_pyNext_zipD2_end (zip_sep2 h1 h2) D1 D2 hz hTI hTO t1 t2 l1 l2 hend fun h' tk hk => ⟨rfl, I.turnedL (t' := tk) (ch := [N + 4, N + 2, N + 3, N, N + 1]) (fun c o hb q =>
      hk c o (fun q' => hb (by simp [q'])) (fun q' => hb (by simp [q'])) (fun q' => hb (by simp [q'])) (fun q' => hb (by simp [q'])) q) hf⟩
  self := fun A i s Q E st h => wpAny_pyIter_zip st.1 h
/-- a value to draw from -/
def SrcV (K : PySem.W.Frag) (H : Hp) (v : V) (f : Tok → Src) : Prop :=
  (∃ z, v = .str z ∧ f = fun t => .txt z t) ∨ (∃ a xs, v = .ref a ∧ SqL K H a xs ∧ f = fun _ => .lst a) ∨ ∃ a xs, v = .ref a ∧ SqT K H a xs ∧ f = fun _ => .tup a
theorem srcV_at {K : PySem.W.Frag} {H : Hp} {v : V} {f : Tok → Src} {u : Value} (h : SrcV K H v f) (r : RelV v u) : ∃ t xs, u = (f t).val ∧ (f t).vals K H xs := by
  rcases h with ⟨z, rfl, rfl⟩ | ⟨a, xs, rfl, sq, rfl⟩ | ⟨a, xs, rfl, sq, rfl⟩
  · obtain ⟨t, rfl⟩ := r
    exact ⟨t, _, rfl, rfl⟩
  · cases r
    exact ⟨0, xs, rfl, sq⟩
  · cases r
    exact ⟨0, xs, rfl, sq⟩
def iZipS (K : PySem.W.Frag) (ta : TA) : TI := fun σ H R => ta σ H fun vs H1 => ∃ v1 v2 f1 f2, vs = [v1, v2] ∧ SrcV K H1 v1 f1 ∧ SrcV K H1 v2 f2 ∧ ∀ t1 t2, R (ItZ K (f1 t1) (f2 t2)) H1
theorem pi_zipS {X : Cx} {e e2 : Expr} {ta : TA} {p pos tpos : Pos} {elts : List Expr} {kk : Nat} (hg : Gl X "zip") (hm : X.mg "zip" = none) (ha : PA X [e, e2] ta)
    (hs : starEach [e, e2] X.env = (false, eval e X.env) :: starEach [e2] X.env := by rfl) (hpl : (backTo pos (starEach [e2] X.env)).any (·.1) = false := by rfl) :
    PI X (.Tuple elts kk tpos) (.Call (.Name "zip" p) [e, e2] [] pos) (iZipS X.K ta) := by
  refine ⟨fun pins s σ H R I h => ?_⟩
  refine Call_ (ld_blt I hg hm PyProof.Rows.boot_zip (PyProof.Rows.callWith_type1 (thn (ha.run pos pins s σ H _ I h) fun us s1 ⟨vs, H1, I1, r1, q1⟩ => ?_) hs hpl))
  obtain ⟨v1, v2, f1, f2, rfl, b1, b2, q⟩ := q1
  cases r1 with
  | cons r rr =>
    cases rr with
    | cons r' rr =>
      cases rr
      obtain ⟨t1, xs, rfl, w1⟩ := srcV_at b1 r
      obtain ⟨t2, ys, rfl, w2⟩ := srcV_at b2 r'
      obtain ⟨l1, H1q, B1, k1⟩ := src_begins I1 w1
      obtain ⟨l2, H2q, B2, k2⟩ := src_begins I1 w2
      refine zip_begins2 B1 B2 k1 k2 fun h' hz hTI hTO g1 g2 hsz hk => wpAny_pyIter_zip hz ?_
      have I2 : Inv X pins σ H1 { s1 with heap := h' } := I1.kept (t' := s1.toks) hk
      refine ⟨s1.heap.objs.size + 4, [s1.heap.objs.size + 4, s1.heap.objs.size + 2, s1.heap.objs.size + 3, s1.heap.objs.size, s1.heap.objs.size + 1], _, _, H1, rfl, I2, turn_zipS l1 l2, ⟨hz, hTI, ⟨_, _, hTO⟩, itr_zero g1, itr_zero g2⟩, fun c hcm => ?_, q t1 t2⟩
      have hle : s1.heap.objs.size ≤ c := by
        simp only [List.mem_cons, List.not_mem_nil, or_false] at hcm
        rcases hcm with e | e | e | e | e
        · rw [e]; exact Nat.le_add_right _ _
        · rw [e]; exact Nat.le_add_right _ _
        · rw [e]; exact Nat.le_add_right _ _
        · rw [e]; exact Nat.le_refl _
        · rw [e]; exact Nat.le_add_right _ _
      exact I1.fpOk hle (I1.hok.fresh hle)
/-! ### over data -/
section
variable {C : Cn} {W : XK} {X : Cx} {a b : Expr} {fa fb : Ex} {ρ : Rho} {H : Hp}
theorem src_rep {d : D} {ds : List D} {v : V} (r : RepV C ρ H d v) (e : srcOf d = some ds) : ∃ f, SrcV C.K H v f ∧ ∀ t ρ1 H1, Ext ρ H ρ1 H1 → ∃ xs, (f t).vals C.K H1 xs ∧ RepL C ρ1 H1 ds xs := by
  cases d with
  | str s =>
    obtain ⟨rfl, hc⟩ := txt_at r
    cases e
    refine ⟨_, .inl ⟨_, rfl, rfl⟩, fun t ρ1 H1 _ => ⟨_, rfl, ?_⟩⟩
    have := signs_rep (C := C) (ρ := ρ1) (H := H1) hc
    simpa using this
  | lst xs =>
    cases e
    obtain ⟨p, vs, rfl, nl, q, rl⟩ := r.lst_at
    refine ⟨_, .inr (.inl ⟨p, vs, rfl, .inl (.inl q), rfl⟩), fun t ρ1 H1 x => ⟨vs, ?_, rl.ext x⟩⟩
    exact .inl (.inl (x.keep p (.lst vs) trivial nl q).2)
  | tup xs =>
    cases e
    obtain ⟨p, vs, rfl, sq, rl⟩ := r.tup_sq
    refine ⟨_, .inr (.inr ⟨p, vs, rfl, sq, rfl⟩), fun t ρ1 H1 x => ?_⟩
    obtain ⟨p', vs', e', sq', rl'⟩ := (r.ext x).tup_sq
    cases e'
    exact ⟨vs', sq', rl'⟩
  | tpx xs =>
    cases e
    obtain ⟨p, vs, rfl, sq, rl⟩ := r.wk.tup_sq
    refine ⟨_, .inr (.inr ⟨p, vs, rfl, sq, rfl⟩), fun t ρ1 H1 x => ?_⟩
    obtain ⟨p', vs', e', sq', rl'⟩ := (r.ext x).wk.tup_sq
    cases e'
    exact ⟨vs', sq', rl'⟩
  | _ => cases e
theorem zipD_len (xs ys : List D) : (zipD xs ys).length = min xs.length ys.length := by simp [zipD]
theorem zipD_get {xs ys : List D} {i : Nat} {d : D} (h : (zipD xs ys)[i]? = some d) : ∃ x y, xs[i]? = some x ∧ ys[i]? = some y ∧ d = .tup [x, y] := by
  unfold zipD at h
  rw [List.getElem?_zipWith] at h
  cases hx : xs[i]? with
  | none => rw [hx] at h; cases h
  | some x =>
    cases hy : ys[i]? with
    | none => rw [hx, hy] at h; cases h
    | some y => rw [hx, hy] at h; cases h; exact ⟨x, y, rfl, rfl, rfl⟩
theorem di_zip {elts : List Expr} {kk : Nat} {p pos tpos : Pos} (hK : C.K = X.K) (hg : Gl X "zip") (hm : X.mg "zip" = none) (ha : DE C W X a fa) (hb : DE C W X b fb)
    (s1 : starEach (a :: [b]) X.env = (false, eval a X.env) :: starEach [b] X.env := by rfl) (s2 : starEach (b :: []) X.env = (false, eval b X.env) :: starEach [] X.env := by rfl)
    (hs : starEach [a, b] X.env = (false, eval a X.env) :: starEach [b] X.env := by rfl) (hpl : (backTo pos (starEach [b] X.env)).any (·.1) = false := by rfl) :
    DI C W X (.Tuple elts kk tpos) (.Call (.Name "zip" p) [a, b] [] pos) (itZ fa fb) := by
  refine PI.imp (pi_zipS hg hm (pa_cons ha (pa_cons hb pa_nil s2) s1) hs hpl) ?_
  rintro σ H R ⟨ρ, g, m, re, rm, h⟩
  refine ⟨ρ, g, m, re, rm, h.bind.imp fun d m1 ρ1 H1 x1 rm1 h1 v r => ?_⟩
  refine ⟨ρ1, g, m1, re.ext x1, rm1, h1.bind.imp fun d2 m2 ρ2 H2 x2 rm2 h2 v2 r2 => ?_⟩
  cases e1 : srcOf d with
  | none => rw [e1] at h2; exact h2.elim
  | some xs =>
    cases e2 : srcOf d2 with
    | none => rw [e1, e2] at h2; exact h2.elim
    | some ys =>
      rw [e1, e2] at h2
      obtain ⟨f1, b1, c1⟩ := src_rep (r.ext x2) e1
      obtain ⟨f2, b2, c2⟩ := src_rep r2 e2
      refine ⟨v, v2, f1, f2, rfl, hK ▸ b1, hK ▸ b2, fun t1 t2 => fin.now rm2 h2 _ ?_⟩
      intro ρ3 H3 i m3 x3 rm3
      obtain ⟨us, u1, u2⟩ := c1 t1 ρ3 H3 x3
      obtain ⟨ws, w1, w2⟩ := c2 t2 ρ3 H3 x3
      refine ⟨fun hi => ?_, fun d' hd => ?_⟩
      · rw [zipD_len] at hi
        have q1 := u2.length
        have q2 := w2.length
        exact ⟨us, ws, hK ▸ u1, hK ▸ w1, by omega, by omega, by omega⟩
      · obtain ⟨x, y, hx, hy, rfl⟩ := zipD_get hd
        obtain ⟨vx, ex, rx⟩ := u2.get hx
        obtain ⟨vy, ey, ry⟩ := w2.get hy
        refine ⟨⟨us, ws, vx, vy, hK ▸ u1, hK ▸ w1, ex, ey⟩, fun z H4 hy4 => ?_⟩
        obtain ⟨T, x', y', rfl, nT, rfl, k1, k2⟩ := hy4
        have q1 := k1 us (hK ▸ u1)
        have q2 := k2 ws (hK ▸ w1)
        rw [ex] at q1
        rw [ey] at q2
        cases q1
        cases q2
        exact ⟨same_upd nT, rep_tup rm3 nT (by simp only [RepL]; exact ⟨_, _, rfl, rx, _, _, rfl, ry, rfl⟩)⟩
end
end LW
/-! LwX: exact tuples; dict(pairs); what a dict of whole numbers holds; None asked of a dict of texts. -/
namespace LW
open PySem PySem.Spec PyProof.Rows L2
section
variable {C : Cn} {W : XK} {X : Cx} {a b c o e : Expr} {fa fb fc : Ex} {fr : Ar} {es : List Expr} {pos : Pos} {ρ : Rho} {H : Hp} {m : Mem}
def tTupX (t : TA) : TE := fun σ H Q => t σ H fun xs H1 => xs.length ≤ sizeLine ∧ ∀ p o, H1 p = none → o.dict = none → Q (.ref p) (upd H1 p (.frz o (.tup xs)))
theorem pe_tupX {x1} {t : TA} (h : PA X es t) : PE X (.Tuple es x1 pos) (tTupX t) := by
  refine ⟨fun pins s σ H Q I hq => ?_⟩
  refine wpAny_Tuple_spliced (thn (h.run pos pins s σ H _ I hq) fun us s1 ⟨xs, H1, I1, r, z, q⟩ => ⟨by rw [← r.length]; exact z, ?_⟩)
  have hf : H1 s1.heap.objs.size = none := I1.hok.fresh (Nat.le_refl _)
  refine ⟨.ref s1.heap.objs.size, upd H1 s1.heap.objs.size (.frz _ (.tup xs)), I1.laid (t' := s1.toks) (fun b u e => Heap.get?_push_of_some _ e) (Nat.le_refl _) ⟨Heap.get?_push_size _ rfl, z, us, r, ⟨_, Heap.get?_push_size _ rfl, rfl, _, rfl⟩⟩, rfl, q _ _ hf rfl⟩
theorem de_tpx {x1} (h : DA C W X es fr) : DE C W X (.Tuple es x1 pos) (tpxE fr) := by
  refine PE.imp (pe_tupX h) ?_
  rintro σ H Q ⟨ρ, g, m, re, rm, h⟩
  refine ⟨ρ, g, m, re, rm, h.bind.imp fun ds m1 ρ1 H1 x1 rm1 h1 vs r => ?_⟩
  by_cases hz : ds.length ≤ lim
  · rw [if_pos hz] at h1
    refine ⟨by rw [← lim_eq, ← r.length]; exact hz, fun p o hp hd => ?_⟩
    refine h1 ρ1 _ (.of_same (same_upd hp)) (rm1.same (same_upd hp)) _ ?_
    simp only [RepV]
    exact ⟨p, vs, o, rfl, rm1.free_of hp, upd_same, hd, r.ext (.of_same (same_upd hp))⟩
  · rw [if_neg hz] at h1; exact h1.elim

/-! ### dict(pairs) -/
/-- the pairs as they lie -/
theorem pairs_lie {pins : List (Addr × Obj)} {σ : L2.St} {s : Shared} (I : Inv X pins σ H s) : ∀ {ps : List Addr} {kvs : List (Key × V)}, Paired (fun p kv => SqT X.K H p [kV kv.1, kv.2]) ps kvs →
    ∃ (qs : List (Value × Value)) (prs : List (Key × Value)), KV kvs prs ∧ qs.length = ps.length ∧ prs.length = ps.length ∧
      (∀ (j : Nat) k v, qs[j]? = some (k, v) → ∃ b kk, ps[j]? = some b ∧ IsTup s.heap b #[k, v] ∧ prs[j]? = some (kk, v) ∧ keyIs kk k = true)
  | _, _, .nil => ⟨[], [], .nil, rfl, rfl, fun j k v e => by simp at e⟩
  | _, _, .cons (a := p) (b := kv) h t => by
    obtain ⟨qs, prs, r, l1, l2, hp⟩ := pairs_lie I t
    obtain ⟨its, rv, ht, _⟩ := I.tuple h
    cases rv with
    | cons ru rv =>
      cases rv with
      | cons ry rv =>
        cases rv
        rename_i u y
        refine ⟨(u, y) :: qs, (kv.1, y) :: prs, .cons ⟨rfl, ry⟩ r, by simp [l1], by simp [l2], fun j k v e => ?_⟩
        cases j with
        | zero =>
          simp only [List.getElem?_cons_zero, Option.some.injEq, Prod.mk.injEq] at e
          obtain ⟨rfl, rfl⟩ := e
          exact ⟨p, kv.1, rfl, ht, rfl, kV_is (P := X.prog) (w := X.w) ru⟩
        | succ j => exact hp j k v (by simpa using e)
def rDictX (K : PySem.W.Frag) : List V → Hp → VK → Prop := fun xs H Q => ∃ (a : Addr) (o : Obj) (ps : List Addr) (kvs : List (Key × V)), xs = [.ref a] ∧ H a = some (.frz o (.tup (ps.map V.ref))) ∧ o.dict = none ∧ Paired (fun p kv => SqT K H p [kV kv.1, kv.2]) ps kvs ∧
    ∀ p, H p = none → Q (.ref p) (upd H p (.dK (mergeK [] kvs)))
theorem cr_dictX (hcalm : X.calm = true) : CallR X (.type "dict") (rDictX X.K) := by
  intro pins s σ H xs us Q I r q
  obtain ⟨a, o, ps, kvs, rfl, hq, hd, hp, q⟩ := q
  rw [Vals.ref1 r]
  obtain ⟨ho, hz, its, rv, o2, ho2, hc, n, hdat⟩ := I.hok a _ hq
  rw [ho] at ho2
  cases ho2
  have ei := refs_at rv
  subst ei
  rw [List.length_map] at hz
  obtain ⟨qs, prs, rel, l1, l2, hpr⟩ := pairs_lie I hp
  have PI : PairItems s.heap (ps.map Value.ref).toArray (fun j => ps.getD j 0) qs := by
    refine ⟨by simp [l1], fun j k v e => ?_⟩
    obtain ⟨b, kk, e1, e2, _⟩ := hpr j k v e
    have eb : ps.getD j 0 = b := by rw [List.getD_eq_getElem?_getD, e1]; rfl
    refine ⟨by simp [e1], ?_⟩
    show PairAt s.heap (ps.getD j 0) k v
    rw [eb]
    exact .inl e2
  refine PySem.call_dict_pairs (knd := mixKind X.prog X.w) (kvs := prs) (PairArg.tuple a (ps.map Value.ref).toArray (fun j => ps.getD j 0) qs) (I.ok.hd hcalm) ⟨⟨o, n, ho, hc, hd, hdat⟩, PI⟩ ⟨by rw [l2, l1], fun i k v e => ?_⟩ (by rw [l1]; exact hz) fun h' tk hd' k => ?_
  · obtain ⟨b, kk, _, _, e3, e4⟩ := hpr i k v e
    exact ⟨kk, e3, e4⟩
  · have hm : (s.heap.objs.size == sysModules) = false := beq_eq_false_iff_ne.mpr (Nat.ne_of_gt I.big)
    have hlen : (mergeK [] kvs).length ≤ sizeLine := by
      refine Nat.le_trans (length_mergeK kvs []) ?_
      rw [List.length_nil, Nat.zero_add, rel.length, l2]
      exact hz
    exact ⟨.ref s.heap.objs.size, upd H s.heap.objs.size (.dK (mergeK [] kvs)), I.laid (t' := tk) (fun b o e => k b o (by simp) e) (Nat.le_refl _) (show ObjOk X.prog X.w _ _ _ (.dK (mergeK [] kvs)) from ⟨hlen, hm, merged [] prs, KV.merge rel .nil, hd'⟩), rfl, q _ (I.hok.fresh (Nat.le_refl _))⟩
/-! ### None asked of a dict of texts -/
theorem get_none {pins : List (Addr × Obj)} {σ : L2.St} {s : Shared} {A : Around} {E : Value → Shared → Prop} {l : Addr} {kvs : List (Key × V)} {u : Value} {Q : Value → Shared → Prop} (I : Inv X pins σ H s) (e : Rd H l (.dK kvs)) (h : ∀ s', Inv X pins σ H s' → Q u s') :
    wpAny (model X.prog X.w) A (call (.builtin "dict.get") [.ref l, .none, u]) Q E s := by
  obtain ⟨z, hd, vs, rel, dd⟩ := dk_rd I.hok e
  obtain ⟨f, hm, hf⟩ := none_map dd
  refine call_meetsIn PySem.F.slot_dict_get dd.typeIs PySem.F.entry_dict_get (PySem.F.args_dict_get_3 _ _ _) (meets_dict_get_default (knd := noneKind X.prog X.w) (k := none) (key := .none) (d := l) rfl hd u) ⟨f, hm, ?_⟩
  rw [hf]
  exact h _ (I.tok _)
def tDGet2N (td ty tx : TE) : TE := fun σ H Q => td σ H fun x H1 => ∃ a, x = .ref a ∧ IsD H1 a ∧ ty σ H1 fun y H2 => tx σ H2 fun z H3 => (∃ o, DGet H3 a y o ∧ Q (o.getD z) H3) ∨ (y = .non ∧ ∃ kvs, Rd H3 a (.dK kvs) ∧ Q z H3)
theorem pe_dget2N {f : Expr} {apos cpos : Pos} {td ty tx : TE} (hu : X.A.units + 1 < cLine) (ho : PE X o td) (he : PE X e ty) (hf : PE X f tx) (mm : M2 X o "get" apos e f cpos) : PE X (.Call (.Attribute o "get" apos) [e, f] [] cpos) (tDGet2N td ty tx) := by
  refine ⟨fun pins s σ H Q I h => ?_⟩
  refine wpAny_Call_method mm.base mm.few mm.line PySem.F.plainAttrs_dict PySem.F.slot_dict_get PySem.F.type_dict_get (thn (ho.run pins s σ H _ I h) fun u s1 ⟨x, H1, I1, rx, l, ex, d, q1⟩ => ?_)
  subst ex
  obtain rfl : u = Value.ref l := rx
  obtain ⟨t1, t2, _⟩ := isD_at I1 d
  refine ⟨t1, t2, ?_⟩
  rw [mm.trees]
  refine Calls.callWith_builtin rfl (Calls.evalArgs_plain (Calls.spliced_cons (thn (he.run pins s1 σ H1 _ I1 q1) fun iv s2 ⟨y, H2, I2, ry, q2⟩ =>
    Calls.spliced_cons (thn (hf.run pins s2 σ H2 _ I2 q2) fun fv s3 ⟨z, H3, I3, rz, q3⟩ => Calls.spliced_nil ?_))))
  rcases q3 with ⟨ov, gg, q3⟩ | ⟨ey, kvs, rd, q3⟩
  · exact d_get2 hu I3 gg ry rz fun w' s4 I4 rw' => ⟨_, H3, I4, rw', q3⟩
  · subst ey
    obtain rfl : iv = Value.none := ry
    exact get_none I3 rd fun s4 I4 => ⟨z, H3, I4, rz, q3⟩
theorem de_dget2 {k1 v1 k2 v2 k x : Expr} {g1 h1 g2 h2 gk gx : Ex} {apos cpos p : Pos} (hu : X.A.units + 1 < cLine) (a1 : DE C W X k1 g1) (b1 : DE C W X v1 h1) (a2 : DE C W X k2 g2) (b2 : DE C W X v2 h2) (hk : DE C W X k gk) (hx : DE C W X x gx)
    (mm : M2 X (.Dict [some k1, some k2] [v1, v2] p) "get" apos k x cpos) : DE C W X (.Call (.Attribute (.Dict [some k1, some k2] [v1, v2] p) "get" apos) [k, x] [] cpos) (dget2E g1 h1 g2 h2 gk gx) := by
  refine PE.imp (pe_dget2N hu (pe_disp (pps_cons a1 b1 (pps_cons a2 b2 pps_nil)) rfl rfl (by simp) (by simp)) hk hx mm) ?_
  rintro σ H Q ⟨ρ, g, m, re, rm, h⟩ L hL
  have x0 : Ext ρ H (ρ.hide L) (upd H L (.dK [])) := ext_hide hL
  refine ⟨ρ.hide L, g, m, re.ext x0, rm.hide hL, fin.from h x0 fun d1 m1 h ρ1 H1 x1 rm1 v1 r1 => ?_⟩
  refine ⟨ρ1, g, m1, (re.ext x0).ext x1, rm1, fin.from h (x0.trans x1) fun e1 m2 h ρ2 H2 x2 rm2 w1 s1 => ?_⟩
  refine ⟨ρ2, g, m2, ((re.ext x0).ext x1).ext x2, rm2, fin.from h ((x0.trans x1).trans x2) fun d2 m3 h ρ3 H3 x3 rm3 v2 r2 => ?_⟩
  refine ⟨ρ3, g, m3, (((re.ext x0).ext x1).ext x2).ext x3, rm3, fin.from h (((x0.trans x1).trans x2).trans x3) fun e2 m4 h ρ4 H4 x4 rm4 w2 s2 => ?_⟩
  have xx : Ext (ρ.hide L) (upd H L (.dK [])) ρ4 H4 := x1.trans (x2.trans (x3.trans x4))
  obtain ⟨z4, q4⟩ := xx.lx L _ List.mem_cons_self upd_same
  cases d1 with
  | str k1' =>
    cases d2 with
    | str k2' =>
      have ev1 := hide_str r1
      have ev2 := hide_str r2
      subst ev1 ev2
      refine ⟨q4, [(.inr ⟨k1'.toArray⟩, w1), (.inr ⟨k2'.toArray⟩, w2)], rfl, by simp, ?_⟩
      generalize hkv : mergeK [] [((.inr ⟨k1'.toArray⟩ : Key), w1), (.inr ⟨k2'.toArray⟩, w2)] = kvs
      have xd : Ext ρ H ρ4 (upd H4 L (.dK kvs)) := ext_grow (x0.trans xx) hL z4
      refine ⟨L, rfl, .inl ⟨kvs, .inl upd_same⟩, ρ4, g, m4, re.ext xd, rm4.grow z4, fin.from h xd fun d5 m5 h ρ5 H5 x5 rm5 v5 r5 => ?_⟩
      refine ⟨ρ5, g, m5, (re.ext xd).ext x5, rm5, fin.from h (xd.trans x5) fun d6 m6 h ρ6 H6 x6 rm6 v6 r6 => ?_⟩
      have xy : Ext ρ4 (upd H4 L (.dK kvs)) ρ6 H6 := x5.trans x6
      obtain ⟨z6, q6⟩ := xy.lx L _ z4 upd_same
      cases d5 with
      | str kq =>
        have ev5 := hide_str r5
        subst ev5
        have key : RepV C ρ6 H6 (if kq = k2' then e2 else if kq = k1' then e1 else d6) ((valV kvs (.inr ⟨kq.toArray⟩)).getD v6) := by
          rw [← hkv, two_look]
          by_cases c2 : kq = k2'
          · rw [if_pos c2, if_pos (key_eq.mpr c2)]
            exact ((s2.grow z4).ext xy)
          · rw [if_neg c2, if_neg (fun e => c2 (key_eq.mp e))]
            by_cases c1 : kq = k1'
            · rw [if_pos c1, if_pos (key_eq.mpr c1)]
              exact (((s1.ext (x3.trans x4)).grow z4).ext xy)
            · rw [if_neg c1, if_neg (fun e => c1 (key_eq.mp e))]
              exact r6
        exact .inl ⟨_, .inl ⟨kvs, _, .inl q6, rfl, rfl⟩, h ρ6 H6 (xd.trans xy) rm6 _ key⟩
      | non =>
        refine .inr ⟨by simpa only [RepV] using r5.ext x6, kvs, .inl q6, h ρ6 H6 (xd.trans xy) rm6 _ r6⟩
      | _ => exact h.elim
    | _ => exact h.elim
  | _ => exact h.elim
/-! ### dict(pairs), book.get(number) over data -/
theorem pairs_rep {K : PySem.W.Frag} (hK : C.K = K) : ∀ {ds : List D} {l : List (Int × D)} {vs : List V}, pairsOf ds = some l → RepL C ρ H ds vs →
    ∃ (ps : List Addr) (xs : List V), vs = ps.map V.ref ∧ RepL C ρ H (l.map (·.2)) xs ∧ Paired (fun p kv => SqT K H p [kV kv.1, kv.2]) ps ((l.map fun p => (.inl p.1 : Key)).zip xs)
  | [], l, vs, e, r => by
    cases e
    simp only [RepL] at r
    subst r
    exact ⟨[], [], rfl, by simp only [List.map_nil, RepL], .nil⟩
  | d :: ds, l, vs, e, r => by
    simp only [RepL] at r
    obtain ⟨v, r', rfl, r1, r2⟩ := r
    unfold pairsOf at e
    split at e
    · rename_i heq; cases heq
    · rename_i i w rest heq
      cases heq
      obtain ⟨l', e', rfl⟩ := Option.map_eq_some_iff.mp e
      obtain ⟨ps, xs, rfl, rl, pp⟩ := pairs_rep hK e' r2
      obtain ⟨p, ys, rfl, sq, ry⟩ := r1.tup_sq
      simp only [RepL] at ry
      obtain ⟨y1, _, rfl, q1, y2, _, rfl, q2, rfl⟩ := ry
      have e1 := q1.int_at
      subst e1
      refine ⟨p :: ps, y2 :: xs, rfl, ?_, ?_⟩
      · simp only [List.map_cons, RepL]
        exact ⟨y2, xs, rfl, q2, rl⟩
      · simp only [List.map_cons, List.zip_cons_cons]
        exact .cons (hK ▸ sq) pp
    · cases e
theorem merge_self {kvs : List (Key × V)} (nd : (kvs.map (·.1)).Nodup) : mergeK [] kvs = kvs := by
  suffices H : ∀ (more acc : List (Key × V)), ((acc ++ more).map (·.1)).Nodup → mergeK acc more = acc ++ more from H kvs [] nd
  intro more
  induction more with
  | nil => intro acc _; simp [mergeK]
  | cons p more ih =>
    intro acc h
    have hp : putK acc p.1 p.2 = acc ++ [p] := by
      unfold putK
      rw [if_neg]
      intro hh
      obtain ⟨q, hq, e⟩ := List.any_eq_true.mp hh
      have e : q.1 = p.1 := of_decide_eq_true e
      rw [List.map_append, List.map_cons] at h
      exact (List.nodup_append.mp h).2.2 q.1 (List.mem_map.mpr ⟨q, hq, rfl⟩) p.1 (by simp) e
    show mergeK (putK acc p.1 p.2) more = _
    rw [hp, ih (acc ++ [p]) (by simpa using h)]
    simp
theorem bs_dict : BfS C (rDictX C.K) dictB := by
  intro ρ H m ds vs d Q rm rl e q
  unfold dictB at e
  split at e
  · rename_i ds2
    simp only [RepL] at rl
    obtain ⟨v, _, rfl, r1, rfl⟩ := rl
    split at e
    · rename_i l hl
      split at e
      · rename_i nd
        cases e
        have r1' := r1
        simp only [RepV] at r1'
        obtain ⟨a, xs, o, rfl, nl, hq, hd, rx⟩ := r1'
        obtain ⟨ps, ys, rfl, ry, pp⟩ := pairs_rep rfl hl rx
        refine ⟨a, o, ps, _, rfl, hq, hd, pp, fun p hp => ?_⟩
        have ly : (l.map fun p => (.inl p.1 : Key)).length = ys.length := by rw [← ry.length]; simp
        have kn : (((l.map fun p => (.inl p.1 : Key)).zip ys).map (·.1)).Nodup := by
          rw [List.map_fst_zip (by omega)]
          have : (l.map fun p => (.inl p.1 : Key)) = (l.map (·.1)).map Sum.inl := by rw [List.map_map]; rfl
          rw [this, List.nodup_iff_pairwise_ne, List.pairwise_map]
          exact (List.nodup_iff_pairwise_ne.mp nd).imp fun hab e => hab (Sum.inl.inj e)
        rw [merge_self kn]
        refine q _ _ (same_upd hp) ?_
        simp only [RepV]
        refine ⟨p, ys, rfl, rm.free_of hp, ry.ext (.of_same (same_upd hp)), _, ly, ?_, .inl upd_same⟩
        rw [List.map_map]
        rfl
      · cases e
    · cases e
  · cases e
theorem find_val {ρ : Rho} {H : Hp} (i : Int) (z : V) : ∀ {kk : List Key} {vs : List D} {xs : List V}, kk.length = xs.length → RepL C ρ H vs xs → RepV C ρ H .non z → RepV C ρ H ((dfind i (kk.map keyD) vs).getD .non) ((valV (kk.zip xs) (.inl i)).getD z)
  | [], vs, xs, l, r, hz => by
    have : xs = [] := List.eq_nil_of_length_eq_zero l.symm
    subst this
    cases vs with
    | nil => simpa [dfind, valV] using hz
    | cons d ds => simp [RepL] at r
  | k :: kk, vs, xs, l, r, hz => by
    cases xs with
    | nil => simp at l
    | cons x xs =>
      cases vs with
      | nil => simp [RepL] at r
      | cons d ds =>
        simp only [RepL] at r
        obtain ⟨x', r', e, r1, r2⟩ := r
        cases e
        have ih := find_val i z (kk := kk) (vs := ds) (xs := xs) (by simpa using l) r2 hz
        cases k with
        | inl j =>
          by_cases hj : j = i
          · subst hj
            simp [dfind, keyD, valV, r1]
          · have hj' : ¬ (Sum.inl j : Key) = .inl i := fun e => hj (Sum.inl.inj e)
            simp [dfind, keyD, valV, hj] at ih ⊢
            exact ih
        | inr t =>
          simp [dfind, keyD, valV] at ih ⊢
          exact ih
theorem de_get1 {apos cpos : Pos} (hu : X.A.units + 1 < cLine) (ho : DE C W X o fa) (he : DE C W X e fb) (mm : M1 X o "get" apos e cpos) : DE C W X (.Call (.Attribute o "get" apos) [e] [] cpos) (dopE get1D fa fb) := by
  refine PE.imp (pe_dget1 hu ho he mm) ?_
  rintro σ H Q ⟨ρ, g, m, re, rm, h⟩
  refine ⟨ρ, g, m, re, rm, h.bind.imp fun d m1 ρ1 H1 x1 rm1 h1 v r => ?_⟩
  cases d with
  | dct ks vs =>
    have r' := r
    simp only [RepV] at r'
    obtain ⟨p, xs, rfl, nl, rl, kk, lk, ek, rd⟩ := r'
    refine ⟨p, rfl, .inl ⟨_, rd⟩, ρ1, g, m1, re.ext x1, rm1, h1.bind.imp fun d2 m2 ρ2 H2 x2 rm2 h2 v2 r2 => ?_⟩
    obtain ⟨d', e', q⟩ := h2.opt rm2
    cases d2 with
    | int i =>
      cases e'
      have e2 := r2.int_at
      subst e2
      have r3 := r.ext x2
      simp only [RepV] at r3
      obtain ⟨p', xs', e3, nl', rl', kk', lk', ek', rd'⟩ := r3
      cases e3
      refine ⟨_, .inl ⟨_, .inl i, rd', rfl, rfl⟩, q _ H2 (fun _ _ e => e) ?_⟩
      rw [ek']
      exact find_val i .non lk' rl' (by simp only [RepV])
    | _ => cases e'
  | _ => exact h1.elim
end
end LW
/-! LwY: enumerate over texts and lists; constants that are tuples. -/
namespace LW
open PySem PySem.Spec PyProof.Rows L2
def ItE (K : PySem.W.Frag) (src : Src) : It :=
  ⟨fun i H => ∃ xs x, src.vals K H xs ∧ xs[i]? = some x, fun i H v H' => ∃ T x, v = .ref T ∧ H T = none ∧ H' = upd H T (.tup [.int (i : Nat), x]) ∧ ∀ xs, src.vals K H xs → xs[i]? = some x, fun i H => ∃ xs, src.vals K H xs ∧ i = xs.length⟩
theorem turn_enumS {P : Program} {w : World} {K : PySem.W.Frag} {elts : List Expr} {kk : Nat} {tpos : Pos} {src : Src} {N : Nat} (h1 : ∀ b ∈ src.ad, b < N) :
    Turn P w K (.Tuple elts kk tpos) (ItE K src) [N + 1, N] (N + 1) (fun i h => (∃ old, IsEnum h (N + 1) N ((i : Nat) : Int) old) ∧ src.itr h N i) where
  mem := by simp
  obj := fun i h st c hc => by
    obtain ⟨⟨old, he⟩, a1⟩ := st
    simp only [List.mem_cons, List.not_mem_nil, or_false] at hc
    rcases hc with rfl | rfl
    · exact ⟨_, he, fun v q => nomatch q⟩
    · exact itr_obj a1
  keep := fun i h h' st k => by
    obtain ⟨⟨old, he⟩, a1⟩ := st
    exact ⟨⟨old, k _ (by simp) _ he⟩, itr_keep a1 fun o q => k _ (by simp) o q⟩
  item := by
    intro X hP hw hK hc i pins s σ H E I hf st hg
    subst hP hw hK
    obtain ⟨⟨old, he⟩, a1⟩ := st
    obtain ⟨xs, x, hqx, hx⟩ := hg
    have hA : X.A.in1.handled = none := I.ok.hd hc
    obtain ⟨P1, S1, D1, t1, v1, b1⟩ := src_draws (A := X.A.in1) hA I (src := src) (it := N) (fun z => Nat.lt_irrefl _ (h1 _ z)) hqx a1
    have hel : (N + 1 : Nat) < s.heap.objs.size := Heap.lt_size he
    have hef : (N + 1 : Addr) ∉ N :: src.ad := fun z => by
      rcases List.mem_cons.mp z with z | z
      · exact nqR (by decide) z
      · exact absurd (h1 _ z) (Nat.not_lt.mpr (Nat.le_succ N))
    refine wpAny_pyNext_enum_itemD D1 he t1 (List.getElem?_eq_some_iff.mp hx).1 (nqR (by decide)) hef fun u h' tk p1 ho c1 hT hsz hk => ?_
    refine ⟨_, rfl, wpAny_letOwnedTupleGo_enum (s := { s with heap := h', toks := tk + 1 }) ho fun h'' he' sb => ?_⟩
    obtain ⟨x', hx', r1⟩ := v1 i u p1
    rw [hx] at hx'
    cases hx'
    have hT2 : h''.get? s.heap.objs.size = some { cls := .type "tuple", data := .seq #[.int i tk, u] } := (sb.2 _ (Nat.ne_of_gt hel)).trans hT
    have new : ObjOk X.prog X.w (upd H s.heap.objs.size (.tup [.int (i : Nat), x])) h'' s.heap.objs.size (.tup [.int (i : Nat), x]) :=
      ⟨by show 2 ≤ sizeLine; decide, [.int i tk, u], .cons ⟨_, rfl⟩ (.cons r1 .nil), ⟨_, hT2, rfl, _, rfl⟩⟩
    have I1 : Inv X pins σ (upd H s.heap.objs.size (.tup [.int (i : Nat), x])) { s with heap := h'', toks := tk + 1 } :=
      I.turnedNew (t' := tk + 1) (ch := [N + 1, N]) (fun b ob hb q => (sb.2 b (fun z => hb (by simp [z]))).trans (hk b ob (fun z => hb (by simp [z])) (fun z => hb (by simp [z])) q)) hf (Nat.le_refl _) new
    refine ⟨.ref s.heap.objs.size, _, I1, rfl, ⟨_, x, rfl, I.hok.fresh (Nat.le_refl _), rfl, fun l hl => by rw [src_inj I hl hqx]; exact hx⟩, ⟨⟨u, ?_⟩, ?_⟩, fun c hcm => ?_⟩
    · have e1 : ((i + 1 : Nat) : Int) = (i : Int) + 1 := by omega
      rw [e1]; exact he'
    · exact itr_keep (b1 _ _ c1) fun o q => (sb.2 _ (nqL (by decide))).trans q
    · have hlt : c < s.heap.objs.size := by
        simp only [List.mem_cons, List.not_mem_nil, or_false] at hcm
        rcases hcm with e | e
        · rw [e]; exact hel
        · rw [e]; exact Nat.lt_of_succ_lt hel
      rw [upd_ne (Nat.ne_of_lt hlt)]
      exact (hf c hcm).1
  done := by
    intro X hP hw hK hc i pins s σ H E I hf st hg
    subst hP hw hK
    obtain ⟨⟨old, he⟩, a1⟩ := st
    obtain ⟨xs, hqx, rfl⟩ := hg
    have hA : X.A.in1.handled = none := I.ok.hd hc
    obtain ⟨P1, S1, D1, t1, v1, b1⟩ := src_draws (A := X.A.in1) hA I (src := src) (it := N) (fun z => Nat.lt_irrefl _ (h1 _ z)) hqx a1
    exact wpAny_pyNext_enum_endD D1 he t1 fun h' hk => ⟨rfl, I.turnedL (t' := s.toks) (ch := [N + 1, N]) (fun c o hb q => hk c o (fun q' => hb (by simp [q'])) q) hf⟩
  self := fun A i s Q E st h => let ⟨⟨_, he⟩, _⟩ := st; wpAny_pyIter_enum he h
def SrcW (K : PySem.W.Frag) (H : Hp) (v : V) (f : Tok → Src) : Prop := (∃ z, v = .str z ∧ f = fun t => .txt z t) ∨ ∃ a xs, v = .ref a ∧ SqL K H a xs ∧ f = fun _ => .lst a
def iEnumS (K : PySem.W.Frag) (ta : TA) : TI := fun σ H R => ta σ H fun vs H1 => ∃ v f, vs = [v] ∧ SrcW K H1 v f ∧ ∀ t, R (ItE K (f t)) H1
theorem pi_enumS {X : Cx} {e : Expr} {ta : TA} {p pos tpos : Pos} {elts : List Expr} {kk : Nat} (hg : Gl X "enumerate") (hm : X.mg "enumerate" = none) (ha : PA X [e] ta) (hs : starEach [e] X.env = [(false, eval e X.env)] := by rfl) :
    PI X (.Tuple elts kk tpos) (.Call (.Name "enumerate" p) [e] [] pos) (iEnumS X.K ta) := by
  refine ⟨fun pins s σ H R I h => ?_⟩
  refine Call_ (ld_blt I hg hm boot_enumerate (PyProof.Rows.callWith_type1 (thn (ha.run pos pins s σ H _ I h) fun us s1 ⟨vs, H1, I1, r1, q1⟩ => ?_) hs rfl))
  obtain ⟨v, f, rfl, sw, q⟩ := q1
  have fp2 : ∀ c, c ∈ [s1.heap.objs.size + 1, s1.heap.objs.size] → FpOk X pins H1 c := fun c hcm => by
    have hle : s1.heap.objs.size ≤ c := by
      simp only [List.mem_cons, List.not_mem_nil, or_false] at hcm
      rcases hcm with e | e
      · rw [e]; exact Nat.le_add_right _ _
      · rw [e]; exact Nat.le_refl _
    exact I1.fpOk hle (I1.hok.fresh hle)
  cases r1 with
  | cons r rr =>
    cases rr
    rcases sw with ⟨z, rfl, rfl⟩ | ⟨a, xs, rfl, sq, rfl⟩
    · obtain ⟨t, rfl⟩ := r
      refine call_enumerate_str fun h' he hit hsz hk => wpAny_pyIter_enum he ?_
      have I2 : Inv X pins σ H1 { s1 with heap := h' } := I1.kept (t' := s1.toks) hk
      exact ⟨s1.heap.objs.size + 1, [s1.heap.objs.size + 1, s1.heap.objs.size], _, _, H1, rfl, I2, turn_enumS (src := .txt z t) (fun b hb => by simp [Src.ad] at hb), ⟨⟨.none, he⟩, hit⟩, fp2, q t⟩
    · cases r
      obtain ⟨its, rv, p', hz⟩ := I1.list sq
      refine call_enumerate_list p'.isList fun h' he hit hsz hk => wpAny_pyIter_enum he ?_
      have I2 : Inv X pins σ H1 { s1 with heap := h' } := I1.kept (t' := s1.toks) hk
      exact ⟨s1.heap.objs.size + 1, [s1.heap.objs.size + 1, s1.heap.objs.size], _, _, H1, rfl, I2, turn_enumS (src := .lst a) (fun b hb => by simp only [Src.ad, List.mem_singleton] at hb; rw [hb]; exact p'.lt), ⟨⟨.none, he⟩, hit⟩, fp2, q 0⟩
section
variable {C : Cn} {W : XK} {X : Cx} {a : Expr} {fa : Ex}
theorem enumD_len (xs : List D) : (enumD xs).length = xs.length := by simp [enumD]
theorem enumD_get {xs : List D} {i : Nat} {d : D} (h : (enumD xs)[i]? = some d) : ∃ x, xs[i]? = some x ∧ d = .tup [.int i, x] := by
  unfold enumD at h
  rw [List.getElem?_zipWith] at h
  cases hx : xs[i]? with
  | none => rw [hx] at h; cases q : (List.range xs.length)[i]? <;> rw [q] at h <;> cases h
  | some x =>
    have hi := (List.getElem?_eq_some_iff.mp hx).1
    rw [hx, List.getElem?_range hi] at h
    cases h
    exact ⟨x, rfl, rfl⟩
theorem di_enum {elts : List Expr} {kk : Nat} {p pos tpos : Pos} (hK : C.K = X.K) (hg : Gl X "enumerate") (hm : X.mg "enumerate" = none) (ha : DE C W X a fa) (hs : starEach [a] X.env = [(false, eval a X.env)] := by rfl) (s1 : starEach (a :: []) X.env = (false, eval a X.env) :: starEach [] X.env := by rfl) :
    DI C W X (.Tuple elts kk tpos) (.Call (.Name "enumerate" p) [a] [] pos) (itE fa) := by
  refine PI.imp (pi_enumS hg hm (pa_cons ha pa_nil s1) hs) ?_
  rintro σ H R ⟨ρ, g, m, re, rm, h⟩
  refine ⟨ρ, g, m, re, rm, h.bind.imp fun d m1 ρ1 H1 x1 rm1 h1 v r => ?_⟩
  have key : ∀ ds, srcOf d = some ds → (∃ f, SrcW C.K H1 v f ∧ ∀ t ρ2 H2, Ext ρ1 H1 ρ2 H2 → ∃ xs, (f t).vals C.K H2 xs ∧ RepL C ρ2 H2 ds xs) → fin C ρ1 H1 W (.ok (enumD ds) m1) (fun ds _ ρ' H' => ∀ J, WalkD C ρ' H' ds J → R J H') → ∃ v' f, [v] = [v'] ∧ SrcW X.K H1 v' f ∧ ∀ t, R (ItE X.K (f t)) H1 := fun ds e1 hf h2 => by
    obtain ⟨f, b1, c1⟩ := hf
    refine ⟨v, f, rfl, hK ▸ b1, fun t => fin.now rm1 h2 _ ?_⟩
    intro ρ3 H3 i m3 x3 rm3
    obtain ⟨us, u1, u2⟩ := c1 t ρ3 H3 x3
    refine ⟨fun hi => ?_, fun d' hd => ?_⟩
    · rw [enumD_len] at hi
      exact ⟨us, hK ▸ u1, by rw [hi, u2.length]⟩
    · obtain ⟨x, hx, rfl⟩ := enumD_get hd
      obtain ⟨vx, ex, rx⟩ := u2.get hx
      refine ⟨⟨us, vx, hK ▸ u1, ex⟩, fun z H4 hy4 => ?_⟩
      obtain ⟨T, x', rfl, nT, rfl, k1⟩ := hy4
      have q1 := k1 us (hK ▸ u1)
      rw [ex] at q1
      cases q1
      exact ⟨same_upd nT, rep_tup rm3 nT (by simp only [RepL]; exact ⟨_, _, rfl, by simp only [RepV], _, _, rfl, rx, rfl⟩)⟩
  have w : ∀ ds, srcOf d = some ds → (∀ q : List D, d ≠ .tup q) → (∀ q : List D, d ≠ .tpx q) → ∃ f, SrcW C.K H1 v f ∧ ∀ t ρ2 H2, Ext ρ1 H1 ρ2 H2 → ∃ xs, (f t).vals C.K H2 xs ∧ RepL C ρ2 H2 ds xs := fun ds e n1 n2 => by
    cases d with
    | str s =>
      obtain ⟨rfl, hc⟩ := txt_at r
      cases e
      refine ⟨_, .inl ⟨_, rfl, rfl⟩, fun t ρ2 H2 _ => ⟨_, rfl, ?_⟩⟩
      have := signs_rep (C := C) (ρ := ρ2) (H := H2) hc
      simpa using this
    | lst xs =>
      cases e
      obtain ⟨p, vs, rfl, nl, q, rl⟩ := r.lst_at
      exact ⟨_, .inr ⟨p, vs, rfl, .inl (.inl q), rfl⟩, fun t ρ2 H2 x => ⟨vs, .inl (.inl (x.keep p (.lst vs) trivial nl q).2), rl.ext x⟩⟩
    | tup q => exact absurd rfl (n1 q)
    | tpx q => exact absurd rfl (n2 q)
    | _ => cases e
  cases d with
  | str s => exact key _ rfl (w _ rfl (fun _ e => nomatch e) (fun _ e => nomatch e)) h1
  | lst s => exact key _ rfl (w _ rfl (fun _ e => nomatch e) (fun _ e => nomatch e)) h1
  | _ => exact h1.elim
end
/-- a constant that is a tuple of flat things -/
theorem con_tup {C : Cn} {mg : Str → Option Value} {x : Str} {a : Addr} {ds : List D} {od : Option Addr} {its : Array Value} {n : Nat} {sl : Array (Option Value)} {xs : List V} (h : mg x = some (.ref a)) (l : C.K.lookup a = some ⟨.type "tuple", od, .seq its n, sl⟩) (hz : its.size ≤ sizeLine) (hv : Vals xs its.toList) (hr : ∀ ρ H, RepL C ρ H ds xs) :
    ∃ v u, mg x = some u ∧ RelV v u ∧ ∀ ρ H, RepV C ρ H (.tup ds) v :=
  ⟨.ref a, _, h, rfl, fun ρ H => by
    simp only [RepV]
    exact ⟨a, xs, rfl, .inr (.inr ⟨_, its, n, l, rfl, rfl, hz, hv⟩), hr ρ H⟩⟩
end LW
/-! LwE: what is walked by what it is; a module's constants; the end of a law. -/
namespace LW
open PySem PySem.Spec PyProof.Rows L2
section
variable {C : Cn} {W : XK} {X : Cx} {a tg : Expr} {fa : Ex} {pos : Pos}
theorem di_any (hK : C.K = X.K) (ha : DE C W X a fa) (ha2 : DI C W X tg a (itS fa)) (ha3 : DI C W X tg a (itL fa)) (ha4 : DI C W X tg a (itT fa)) : DI C W X tg a (itA fa) := by
  refine ⟨fun pins s σ H R I h => ?_⟩
  obtain ⟨ρ, g, m, re, rm, h⟩ := h
  have key : tDI C W (itS fa) σ H R ∨ tDI C W (itL fa) σ H R ∨ tDI C W (itT fa) σ H R := by
    simp only [itA] at h
    cases q : fa g m with
    | bad => rw [q] at h; exact h.elim
    | exc c m1 =>
      rw [q] at h
      refine .inl ⟨ρ, g, m, re, rm, ?_⟩
      simp only [itS, q]
      exact h
    | ok d m1 =>
      rw [q] at h
      cases d with
      | str s => exact .inl ⟨ρ, g, m, re, rm, by simp only [itS, q]; exact h⟩
      | lst s => exact .inr (.inl ⟨ρ, g, m, re, rm, by simp only [itL, q]; exact h⟩)
      | tpx s => exact .inr (.inr ⟨ρ, g, m, re, rm, by simp only [itT, q]; exact h⟩)
      | tup s => exact .inr (.inr ⟨ρ, g, m, re, rm, by simp only [itT, q]; exact h⟩)
      | _ => exact h.elim
  rcases key with k | k | k
  · exact ha2.run pins s σ H R I k
  · exact ha3.run pins s σ H R I k
  · exact ha4.run pins s σ H R I k
theorem di_all (hK : C.K = X.K) (ha : DE C W X a fa) : DI C W X tg a (itA fa) := di_any hK ha (di_str ha) (di_lst hK ha) (di_tup hK ha)
theorem de_const {x : Str} {d : D} (hg : Gl X x) (h : ∃ v u, X.mg x = some u ∧ RelV v u ∧ ∀ ρ H, RepV C ρ H d v) (hd : (x == ("__debug__" : Str)) = false := by decide) : DE C W X (.Name x pos) (cE d) := by
  obtain ⟨v, u, hm, r, hr⟩ := h
  exact de_glob hg hm r hr hd
end
theorem con_int {C : Cn} {mg : Str → Option Value} {x : Str} {i : Int} {t : Tok} (h : mg x = some (.int i t)) : ∃ v u, mg x = some u ∧ RelV v u ∧ ∀ ρ H, RepV C ρ H (.int i) v := ⟨.int i, _, h, ⟨t, rfl⟩, fun _ _ => by simp only [RepV]⟩
theorem con_str {C : Cn} {mg : Str → Option Value} {x z : Str} {s : List Nat} {t : Tok} (h : mg x = some (.str z t)) (hz : z.cps.toList = s) (hc : ((s.all fun c => decide (c < 1114112)) && decide (s.length ≤ lim)) = true) : ∃ v u, mg x = some u ∧ RelV v u ∧ ∀ ρ H, RepV C ρ H (.str s) v := by
  rw [Bool.and_eq_true, decide_eq_true_eq] at hc
  exact ⟨.str z, _, h, ⟨t, rfl⟩, fun _ _ => rep_str hz hc.2 hc.1⟩

theorem cl_nil {C : Cn} (ρ : Rho) (H : Hp) : RepL C ρ H [] [] := by simp only [RepL]
theorem cl_int {C : Cn} {i : Int} {ds : List D} {xs : List V} (h : ∀ ρ H, RepL C ρ H ds xs) (ρ : Rho) (H : Hp) : RepL C ρ H (.int i :: ds) (.int i :: xs) := by
  simp only [RepL]
  exact ⟨_, xs, rfl, by simp only [RepV], h ρ H⟩
theorem cl_str {C : Cn} {z : Str} {s : List Nat} {ds : List D} {xs : List V} (hz : z.cps.toList = s) (hc : ((s.all fun c => decide (c < 1114112)) && decide (s.length ≤ lim)) = true) (h : ∀ ρ H, RepL C ρ H ds xs) (ρ : Rho) (H : Hp) : RepL C ρ H (.str s :: ds) (.str z :: xs) := by
  rw [Bool.and_eq_true, decide_eq_true_eq] at hc
  simp only [RepL]
  exact ⟨_, xs, rfl, rep_str hz hc.2 hc.1, h ρ H⟩
/-- what the head asks of the law -/
def spTop (K : PySem.W.Frag) : Sp := fun vs H Q _ => ∃ (a : Addr) (ns : List Int), vs = [.ref a] ∧ SqL K H a (ns.map V.int) ∧ Only H ∧ ns.length ≤ 63 ∧ ∀ v H', v = .bl true → Q v H'
theorem top_imp {C : Cn} {F : Fn} (hF : ∀ ns : List Int, ns.length ≤ 63 → ∃ m', F [.scr ns] [] = .ok (.bl true) m') (vs : List V) (H : Hp) (Q : VK) (E : XK) (h : spTop C.K vs H Q E) : spOf C 1 F vs H Q E := by
  obtain ⟨a, ns, rfl, sq, hO, hl, q⟩ := h
  obtain ⟨m', e⟩ := hF ns hl
  refine ⟨⟨[], []⟩, [], [.scr ns], rfl, ?_, ⟨rfl, fun n a l o h => by simp at h, fun n k a h => by simp at h, fun a h => by simp at h⟩, ?_⟩
  · simp only [RepL, RepV]
    refine ⟨.ref a, [], rfl, ⟨a, rfl, ?_⟩, rfl⟩
    rcases sq with (sq | ⟨o, sq⟩) | sq
    · rcases hO a with z | ⟨o, xs, z⟩
      · rw [z] at sq; cases sq
      · rw [z] at sq; cases sq
    · refine .inl ⟨fun z => ?_, o, sq⟩
      rcases z with z | z <;> simp at z
    · exact .inr (.inr sq)
  · rw [e]
    intro ρ' H' _ _ v rv
    exact q v H' (by simpa only [RepV] using rv)
theorem cx_no {P : Program} {w : World} (H : Hp) (s : Shared) (e : Value) (s' : Shared) (h : L2.CX P w [] H s (fun _ _ _ => False) e s') : False := by
  obtain ⟨_, _, _, _, _, _, _, _, _, _, _, _, h⟩ := h
  exact h
end LW
/-! LwN: further operations on plain data. Core Lean alone. -/
namespace LW
/-- the place of a refusal's class, for those that may be raised -/
def ixR (all R : List String) (c : String) : Option Nat := if c ∈ R then all.findIdx? (· == c) else none
def tblOf : List (String × Fn) → String → Option Fn
  | [], _ => none
  | (y, F) :: t, x => if x = y then some F else tblOf t x
/-- tuple(list): a tuple of which all is known -/
def tuplexB : Bf := fun m xs => match xs with
  | [x] => (lstOf m x).map fun ds => .tpx ds
  | _ => none
/-! ### dicts whose keys are tuples -/
mutual
/-- whole numbers, texts, tuples of such -/
def D.key : Nat → D → Bool
  | _, .int _ => true
  | _, .str _ => true
  | k + 1, .tup ds => D.keyL k ds
  | _, _ => false
def D.keyL : Nat → List D → Bool
  | _, [] => true
  | k, d :: ds => D.key k d && D.keyL k ds
end
/-- a tuple as a key -/
@[simp] def D.tkey : D → Bool
  | .tup ds => D.keyL 7 ds
  | _ => false
def gfind (k : D) : List D → List D → Option D
  | q :: ks, v :: vs => if D.eqv q k then some v else gfind k ks vs
  | _, _ => none
def gputV (k v : D) (ks vs : List D) : List D := if (gfind k ks vs).isSome then List.zipWith (fun q x => if D.eqv q k then v else x) ks vs else vs ++ [v]
def gputK (k : D) (ks vs : List D) : List D := if (gfind k ks vs).isSome then ks else ks ++ [k]
/-- k in d, k not in d -/
def inG : Op := fun m x y => match y with
  | .ref n => match m[n]? with
    | some (.gd ks vs) => if x.tkey then some (.bl (gfind x ks vs).isSome) else none
    | _ => none
  | .gdz ks vs => if x.tkey then some (.bl (gfind x ks vs).isSome) else none
  | _ => none
def notInG : Op := fun m x y => match inG m x y with | some (.bl b) => some (.bl (!b)) | _ => none
/-- d[k] -/
def getG : Op := fun m x y => match x with
  | .ref n => match m[n]? with
    | some (.gd ks vs) => if y.tkey then gfind y ks vs else none
    | _ => none
  | .gdz ks vs => if y.tkey then gfind y ks vs else none
  | _ => none
/-- {} -/
@[simp] def gd0E : Ex := fun _ m => .ok (.ref m.length) (m ++ [.gd [] []])
/-- {k: v} -/
@[simp] def gd1E (k v : Ex) : Ex := fun g m => (k g m).bind fun x m1 => (v g m1).bind fun y m2 => if x.tkey then .ok (.ref m2.length) (m2 ++ [.gd [x] [y]]) else .bad
/-- d[k] = v -/
@[simp] def putG (d k v : Ex) : Sm := fun g m => (v g m).bind fun y m1 => (d g m1).bind fun q m2 => (k g m2).bind fun x m3 => match q with
  | .ref n => match m3[n]? with
    | some (.gd ks vs) => if x.tkey && Nat.blt ks.length lim then .ok (.nx g) (m3.set n (.gd (gputK x ks vs) (gputV x y ks vs))) else .bad
    | _ => .bad
  | _ => .bad
/-- the keys and values of a dict -/
@[simp] def gdOf (m : Mem) : D → Option (List D × List D)
  | .ref n => match m[n]? with | some (.gd ks vs) => some (ks, vs) | _ => none
  | .gdz ks vs => some (ks, vs)
  | _ => none
/-- d.get(k, x) -/
@[simp] def getdG (d k x : Ex) : Ex := fun g m => (d g m).bind fun q m1 => match gdOf m1 q with
  | none => .bad
  | some _ => (k g m1).bind fun y m2 => (x g m2).bind fun z m3 => match gdOf m3 q with
    | none => .bad
    | some c => if y.tkey then .ok ((gfind y c.1 c.2).getD z) m3 else .bad
/-- d.setdefault(k, x) -/
@[simp] def setdG (d k x : Ex) : Ex := fun g m => (d g m).bind fun q m1 => match q with
  | .ref n => match m1[n]? with
    | some (.gd _ _) => (k g m1).bind fun y m2 => (x g m2).bind fun z m3 => match m3[n]? with
      | some (.gd ks vs) => if y.tkey && Nat.blt ks.length lim then (match gfind y ks vs with
        | some w => .ok w m3
        | none => .ok z (m3.set n (.gd (gputK y ks vs) (gputV y z ks vs)))) else .bad
      | _ => .bad
    | _ => .bad
  | _ => .bad
/-- from here on the dict at a slot does not change -/
@[simp] def frzG (i : Nat) : Sm := fun g m => match g[i]? with
  | some (some (.ref n)) => match m[n]? with
    | some (.gd ks vs) => .ok (.nx (g.set i (some (.gdz ks vs)))) (m.set n .gone)
    | _ => .bad
  | _ => .bad
/-- for k in d; for v in d.values(); for k, v in d.items() -/
@[simp] def itK (f : Ex) : Ar := fun g m => (f g m).bind fun d m1 => match d with | .gdz ks _ => .ok ks m1 | _ => .bad
@[simp] def itV (f : Ex) : Ar := fun g m => (f g m).bind fun d m1 => match d with | .gdz _ vs => .ok vs m1 | _ => .bad
@[simp] def itI (f : Ex) : Ar := fun g m => (f g m).bind fun d m1 => match d with | .gdz ks vs => .ok (List.zipWith (fun k v => .tup [k, v]) ks vs) m1 | _ => .bad
/-! ### order -/
mutual
/-- of one kind, place by place: whole numbers, texts, tuples -/
def D.alk : Nat → D → D → Bool
  | _, .int _, .int _ => true
  | _, .str _, .str _ => true
  | k + 1, .tup xs, .tup ys => D.alkL k xs ys
  | _, _, _ => false
def D.alkL : Nat → List D → List D → Bool
  | _, [], [] => true
  | k, x :: xs, y :: ys => D.alk k x y && D.alkL k xs ys
  | _, _, _ => false
end
mutual
/-- x < y -/
def D.lt : D → D → Bool
  | .int i, .int j => decide (i < j)
  | .str s, .str t => decide (s < t)
  | .tup xs, .tup ys => D.ltL xs ys
  | _, _ => false
def D.ltL : List D → List D → Bool
  | x :: xs, y :: ys => if D.eqv x y then D.ltL xs ys else D.lt x y
  | [], [] => false
  | [], _ :: _ => true
  | _ :: _, [] => false
end
/-- the first of the least -/
def minL (x : D) (xs : List D) : D := xs.foldl (fun a y => if D.lt y a then y else a) x
/-- min(list) -/
def minB : Bf := fun m xs => match xs with
  | [x] => match lstOf m x with
    | some (d :: ds) => if D.alk 6 d d && ds.all (D.alk 6 d) then some (minL d ds) else none
    | _ => none
  | _ => none
/-- text.index(sign) -/
def sidxD : Op := fun _ x y => match x, y with
  | .str s, .str [c] => match s.findIdx? (· == c) with | some i => some (.int (i : Nat)) | none => none
  | _, _ => none
/-- texts of one sign -/
def onesOf : List D → Option (List Nat)
  | [] => some []
  | .str [c] :: ds => (onesOf ds).map fun l => c :: l
  | _ => none
/-- len(set(list)) -/
def lenSetL : Un := fun m x => match lstOf m x with
  | some ds => match onesOf ds with
    | some cs => if cs.length < 4000 then some (.int (dedup cs).length) else none
    | none => none
  | none => none
/-- x is y, of truth values -/
@[simp] def isBD : Op := fun _ x y => match x, y with | .bl a, .bl b => some (.bl (decide (a = b))) | _, _ => none
/-- x in list, x not in list, looked through -/
def inT : Op := fun m x y => match lstOf m y with
  | some ds => if D.sh 8 x && D.shL 8 ds then some (.bl (ds.any fun d => D.eqv d x)) else none
  | none => none
def notInT : Op := fun m x y => match lstOf m y with
  | some ds => if D.sh 8 x && D.shL 8 ds then some (.bl (!ds.any fun d => D.eqv d x)) else none
  | none => none
/-- for i, x in enumerate(tuple) -/
@[simp] def itET (a : Ex) : Ar := fun g m => (a g m).bind fun x m1 => match x with
  | .tup ds => .ok (enumD ds) m1
  | _ => .bad
/-- {k1: v1, k2: v2}[k], all keys texts -/
@[simp] def dsub2E (k1 v1 k2 v2 k : Ex) : Ex := fun g m => (k1 g m).bind fun a m1 => (v1 g m1).bind fun b m2 => (k2 g m2).bind fun c m3 => (v2 g m3).bind fun d m4 =>
  match a, c with
  | .str a, .str c => (k g m4).bind fun q m5 => match q with
    | .str q => if q = c then .ok d m5 else if q = a then .ok b m5 else .bad
    | _ => .bad
  | _, _ => .bad
/-- a, b, c = x, y, z: no tuple is looked at -/
@[simp] def par3S (i j l : Nat) (a b c : Ex) : Sm := fun g m => (a g m).bind fun x m1 => (b g m1).bind fun y m2 => (c g m2).bind fun z m3 => .ok (.nx (((g.set i (some x)).set j (some y)).set l (some z))) m3
end LW
/-! LwF: defs that are called while an exception is handled; which refusal it is; try .. except. -/
namespace LW
open PySem PySem.Spec PyProof.Rows L2
abbrev SpQ := (Addr × Obj) → List V → Hp → VK → Prop
/-- a def's promise while the exception at p is handled; nothing is raised -/
structure FnQ (P : Program) (w : World) (K : PySem.W.Frag) (mg : Str → Option Value) (base : Heap) (k : Nat) (f : Addr) (fd : FuncData) (ps : List Str) (sp : SpQ) : Prop where
  len : ∀ p vs H Q, sp p vs H Q → vs.length = ps.length
  run : ∀ (p : Addr × Obj) (A : Around) (outer : List PySem.Env) (s : Shared) (H : Hp) (args : Args) (us : List Value) (vs : List V) (Q : VK), L2H.RoomH k A → L2H.PinOk outer H s p → Env0 P w K mg base A outer s H →
    BindsTo s fd args (ps.zip us) → Vals vs us → sp p vs H Q → codeAny (model P w) A (.call (.ref f) args) (CR (L2.CX P w) outer P w H s Q E0) s
theorem fnq_of {P : Program} {w : World} {K : PySem.W.Frag} {mg : Str → Option Value} {base : Heap} {x qual : Str} {st : Stmt} {f : Addr} {fd : FuncData} {N ps : List Str} {k : Nat} {sp : SpQ} (F : Fun K x qual st f fd) (S : FnScope N ps (defScope st))
    (len : ∀ p vs H Q, sp p vs H Q → vs.length = ps.length)
    (hbody : ∀ (cdv : Value) (p : Addr × Obj) (A : Around) (outer : List PySem.Env) (s : Shared) (H : Hp) (vs : List V) (Q : VK), L2H.RoomH k (A.deeper (envOfC qual (defScope st) s.heap.objs.size f cdv)) → sp p vs H Q →
      ∃ t, PSs (L2H.cxH (L2.CX P w) P w K mg base N qual (defScope st) f cdv A outer s H E0 p) (defBody st) t ∧ t { nx := fun _ H' => Q .non H', rt := Q } (L2.start N vs) H) :
    FnQ P w K mg base (k + 1) f fd ps sp := by
  obtain ⟨oc, od, kV, doc, pm, an, cdv, ct, osl, rfl, lk, hcd⟩ := F.ex
  refine ⟨len, ?_⟩
  intro p A outer s H args us vs Q hr hpin e0 hb r hsp
  have lv := len _ _ _ _ hsp
  have kx : K.In s.heap := e0.mod.kin.keeps (fun b o e => (e0.bs b o e).1)
  have nl : s.heap.NoLimit := e0.mod.nolimit.keeps (fun b o e => (e0.bs b o e).1)
  have kinds : ∀ y ∈ ps.zip us, (defScope st).names.lookup y.1 = some .local ∨ ((defScope st).names.lookup y.1 = some .cell ∧ ((cellsFrom (s.heap.objs.size + 1) (defScope st).names []).lookup y.1).isSome = true) := by
    rintro ⟨n, v⟩ hy
    rcases S.par n (List.of_mem_zip hy).1 with q | q
    · left; exact q
    · right; exact ⟨q, PySem.W.cellsFrom_some _ _ _ (.inl q)⟩
  refine codeAny_call_function (L2H.RoomH.depth hr) (kx _ _ lk) rfl S.co S.gen rfl (PySem.W.codeRec_of kx hcd) (hb _ _ _ _ ?_)
  refine wpAny_newFunctionEnv_cells S.kind kinds (fun env he s1 x => ?_)
  subst he
  refine ⟨nl.keeps x.toInCall.keep, codeAny_func ?_⟩
  obtain ⟨t, ht, hq⟩ := hbody cdv p A outer s H vs Q (hr.deeper _) hsp
  have I := L2H.inv_startH (CX := L2.CX P w) (E := E0) S hpin e0 lv r x
  refine wpAny_mono (ht.run [] s1 (L2.start N vs) H _ I hq) ?_ (fun e s' hs => hs)
  intro fl s' hs
  cases fl with
  | ret u =>
    obtain ⟨v, σ', H', J, rv, q⟩ := hs
    exact ⟨v, H', J.os, J.bare, J.base, J.hok, rv, q⟩
  | next =>
    obtain ⟨σ', H', J, q⟩ := hs
    exact ⟨V.non, H', J.os, J.bare, J.base, J.hok, rfl, q⟩
  | brk =>
    obtain ⟨_, _, _, q⟩ := hs
    cases q
  | cont =>
    obtain ⟨_, _, _, q⟩ := hs
    cases q
/-- the call -/
def tCallQ (p : Addr × Obj) (sp : SpQ) (t : TA) : TE := fun σ H Q => t σ H fun vs H1 => sp p vs H1 Q
theorem pe_callQ {X : Cx} {k : Nat} {f : Addr} {fd : FuncData} {ps : List Str} {sp : SpQ} {x : Str} {q pos : Pos} {e : Expr} {es : List Expr} {t : TA} {p : Addr × Obj} (F : FnQ X.prog X.w X.K X.mg X.base k f fd ps sp) (hr : L2H.RoomH k X.A) (hp : p ∈ X.pn)
    (hg : Gl X x) (hm : X.mg x = some (.ref f)) (hk : PySem.W.keepIn X.K (.ref f) = true) (hb : Binds X.K fd ps []) (ha : PA X (e :: es) t) (hdb : (x == ("__debug__" : Str)) = false := by decide)
    (he : starEach (e :: es) X.env = (false, eval e X.env) :: starEach es X.env := by rfl) (hpl : (backTo pos (starEach es X.env)).any (·.1) = false := by rfl) : PE X (.Call (.Name x q) (e :: es) [] pos) (tCallQ p sp t) := by
  refine ⟨fun pins s σ H Q I h => ?_⟩
  refine wpAny_Call_Name_kw (ld_glob I hg hm ?_ hdb)
  refine PySem.W.callWith_K (h₀ := X.base) I.ok.mod.kin hk (thn (ha.run pos pins s σ H _ I h) ?_) he hpl
  rintro us s1 ⟨vs, H1, I1, r, q⟩
  refine ⟨I1.kIn, ?_⟩
  have hl : us.length = ps.length := by rw [← r.length]; exact F.len _ _ _ _ q
  have b := hb s1 us I1.kIn (by rw [List.append_nil]; exact hl)
  rw [List.append_nil] at b
  have P1 := I1.pin p (List.mem_append_left _ hp)
  have pin : L2H.PinOk X.stack H1 s1 p := ⟨P1.1, P1.2.1, fun hm => (List.mem_cons.mp (I1.stkSub p.1 hm)).elim P1.2.2.1 P1.2.2.2.1, P1.2.2.2.2⟩
  refine wpAny_call (codeAny_mono (F.run p X.A X.stack s1 H1 ⟨us, []⟩ us vs Q hr pin I1.env0 b r q) ?_)
  intro r s' hq
  cases r with
  | error e => exact passL (X := X) pins σ H1 s1 e s' I1 hq
  | ok fl =>
    cases fl with
    | ret u => exact I1.after hq
    | next => cases hq
    | brk => cases hq
    | cont => cases hq
/-! ### which refusal -/
theorem kit_own {K : PySem.W.Frag} {D C : Addr} {b : Bool} (h : PySem.W.subIn K (.ref D) (.ref C) = some b) (hd : PySem.W.hasDictIn K C = true) (ht : PySem.W.typeIn K (.ref C) = some (.type "type")) (hs : D = C → b = true) : PySem.W.kitOne K (.ref D) (.ref C) = some b := by
  obtain ⟨cd, hc, _⟩ := PySem.W.any_some hd
  have e2 : ((PySem.W.clsIn K C).isSome && PySem.W.typeIn K (.ref C) == some (.type "type")) = true := by rw [hc, ht] <;> rfl
  unfold PySem.W.kitOne
  split
  · rename_i q
    rw [hs (Value.ref.inj (beq_iff_eq.mp q))]
  · unfold PySem.W.kitCls
    dsimp only
    rw [if_pos e2]
    exact h
theorem kit_val {K : PySem.W.Frag} {D : Addr} {T : String} {b : Bool} (h : PySem.W.subIn K (.ref D) (.type T) = some b) (hm : PySem.W.kitMeta T = true) : PySem.W.kitOne K (.ref D) (.type T) = some b := by
  unfold PySem.W.kitOne
  split
  · rename_i q
    cases beq_iff_eq.mp q
  · unfold PySem.W.kitCls
    dsimp only
    rw [if_pos hm]
    exact h
/-- isinstance(e, c), e the handled exception -/
theorem call_isQ {X : Cx} {a D : Addr} {oe : Obj} (C : ExcC X.K D) (hz : Zc (.ref D) none oe) (hf : ∃ vs, oe.data = .fields vs) (hp : (a, oe) ∈ X.pn) : CallR X (.builtin "isinstance") (rIsE X.K D a) := by
  intro pins s σ H xs us Q I r h
  obtain ⟨c, cv, b, rfl, hcv, e, q⟩ := h
  obtain ⟨u1, u2, rfl, r1, r2⟩ := vals2 r
  cases r1
  cases hcv _ r2
  obtain ⟨hget, _⟩ := I.pin (a, oe) (List.mem_append_left _ hp)
  obtain ⟨vs, hv⟩ := hf
  have J : PySem.W.InstAt s.heap a oe D none := by
    obtain ⟨oc, od, oda, osl⟩ := oe
    obtain ⟨h1, h2⟩ := hz
    dsimp only at h1 h2 hv
    subst h1 h2 hv
    exact ⟨hget, rfl, rfl, trivial⟩
  refine PySem.W.kia_one (PySem.W.handS_kitx_exc C.hg C.hk C.hs C.hd C.ha C.hn C.ht C.hm) I.kIn J e (fun z => nomatch z) ?_
  exact fun tk => ⟨.bl b, H, I.kept (t' := tk) fun _ _ z => z, rfl, q⟩
/-- xs.count(x), flat things -/
def rCnt (K : PySem.W.Frag) : V → List V → Hp → VK → Prop := fun x xs H Q => ∃ (a : Addr) (ys : List V) (y : V), x = V.ref a ∧ xs = [y] ∧ SqL K H a ys ∧ flatV y = true ∧ ys.all flatV = true ∧ Q (.int (ys.countP fun z => eqV z y : Nat)) H
theorem count_eqU {y : V} : ∀ {ys : List V} {us : List Value}, Vals ys us → ys.all flatV = true → us.countP (eqU y) = ys.countP fun z => eqV z y
  | _, _, .nil, _ => rfl
  | _, _, .cons r t, f => by
    rw [List.all_cons, Bool.and_eq_true] at f
    rw [List.countP_cons, List.countP_cons, count_eqU t f.2, eqU_of r f.1]
theorem mt_cnt {X : Cx} : MtR X "list.count" (rCnt X.K) := by
  intro pins s σ H x xs v us Q I rx rxs h
  obtain ⟨a, ys, y, rfl, rfl, hs, fy, fys, q⟩ := h
  cases rx
  obtain ⟨u, rfl, ru⟩ := rxs.one
  obtain ⟨its, rv, ⟨⟨cls, dd, data, sl⟩, n, ho, hc, hdn, hd⟩, hlen⟩ := I.list hs
  simp only at hc hd
  subst hc hd
  refine call_meets PySem.F.slot_list_count ⟨_, ho, rfl⟩ PySem.F.entry_list_count (PySem.F.args_list_count_2 _ _) (SeqAt.list_countAt a its.toArray n dd sl u (eqU y)) ⟨ho, fun z hz => mem_eqAt ru fy rv fys z (by simpa using hz), ?_⟩
  have ec : its.toArray.toList.countP (eqU y) = ys.countP fun z => eqV z y := count_eqU rv fys
  refine ⟨.int (ys.countP fun z => eqV z y : Nat), H, I.tok _, ⟨s.toks, ?_⟩, q⟩
  rw [ec]
/-- what isinstance answers for the classes cs -/
def kits (K : PySem.W.Frag) (D : Addr) : List Addr → List Bool → Prop
  | c :: cs, b :: bs => PySem.W.kitOne K (.ref D) (.ref c) = some b ∧ kits K D cs bs
  | [], [] => True
  | _, _ => False
structure WhX (K : PySem.W.Frag) (D : Addr) (cs : List Addr) (bs : List Bool) : Prop where
  x : ExcC K D
  k : kits K D cs bs
  v : PySem.W.kitOne K (.ref D) (.type "ValueError") = some true
/-- the class at D is the j-th of cs, and no other -/
def spWh (K : PySem.W.Frag) (cs : List Addr) : SpQ := fun p vs H Q => ∃ (D : Addr) (bs : List Bool) (j : Nat), vs = [.ref p.1] ∧ Zc (.ref D) none p.2 ∧ (∃ us, p.2.data = .fields us) ∧ WhX K D cs bs ∧
  bs.countP (fun b => b) = 1 ∧ bs[j]? = some true ∧ (∀ m, m < j → bs[m]? = some false) ∧ ∀ t H', Same H H' → H t = none → H' t = some (.tup [.str "refused", .int (j : Nat)]) → Q (.ref t) H'
/-- isinstance(e, x) -/
def tIs (a : Addr) (b : Bool) : TE := fun σ H Q => σ[0]? = some (some (.ref a)) ∧ Q (.bl b) H
theorem pe_is {X : Cx} {a D C : Addr} {b : Bool} {oe : Obj} {x y : Str} {p1 p2 p3 pos : Pos} (c : ExcC X.K D) (hz : Zc (.ref D) none oe) (hf : ∃ vs, oe.data = .fields vs) (hp : (a, oe) ∈ X.pn) (zi : X.mg "isinstance" = none) (hg : Gl X "isinstance") (hgx : Gl X x) (hm : X.mg x = some (.ref C))
    (hN : X.N[0]? = some y) (hv : Vis X.env.scope y) (hk : PySem.W.kitOne X.K (.ref D) (.ref C) = some b) (hd : (x == ("__debug__" : Str)) = false := by decide) (hdy : (y == ("__debug__" : Str)) = false := by decide) (hcy : (y == ("__classdict__" : Str)) = false := by decide)
    (he : starEach [Expr.Name y p2, .Name x p3] X.env = (false, eval (.Name y p2) X.env) :: starEach [.Name x p3] X.env := by rfl) (he2 : starEach [Expr.Name x p3] X.env = (false, eval (.Name x p3) X.env) :: starEach [] X.env := by rfl) (hpl : (backTo pos (starEach [Expr.Name x p3] X.env)).any (·.1) = false := by rfl) :
    PE X (.Call (.Name "isinstance" p1) [.Name y p2, .Name x p3] [] pos) (tIs a b) := by
  refine PE.imp (pe_callB (call_isQ c hz hf hp) hg zi (by decide +kernel) (pa_cons (pe_var hN hv hdy hcy) (pa_cons (pe_glob (v := .ref C) hgx hm rfl hd) pa_nil he2) he) (by decide) (by decide) he hpl) ?_
  rintro σ H Q ⟨h1, h2⟩
  exact ⟨_, h1, .ref C, .ref C, b, rfl, fun u r => r, hk, h2⟩
theorem pe_isV {X : Cx} {a D : Addr} {oe : Obj} {y : Str} {p1 p2 p3 pos : Pos} (c : ExcC X.K D) (hz : Zc (.ref D) none oe) (hf : ∃ vs, oe.data = .fields vs) (hp : (a, oe) ∈ X.pn) (zi : X.mg "isinstance" = none) (zv : X.mg "ValueError" = none) (hg : Gl X "isinstance") (hgx : Gl X "ValueError")
    (hN : X.N[0]? = some y) (hv : Vis X.env.scope y) (hk : PySem.W.kitOne X.K (.ref D) (.type "ValueError") = some true) (hdy : (y == ("__debug__" : Str)) = false := by decide) (hcy : (y == ("__classdict__" : Str)) = false := by decide)
    (he : starEach [Expr.Name y p2, .Name "ValueError" p3] X.env = (false, eval (.Name y p2) X.env) :: starEach [.Name "ValueError" p3] X.env := by rfl) (he2 : starEach [Expr.Name "ValueError" p3] X.env = (false, eval (.Name "ValueError" p3) X.env) :: starEach [] X.env := by rfl) (hpl : (backTo pos (starEach [Expr.Name "ValueError" p3] X.env)).any (·.1) = false := by rfl) :
    PE X (.Call (.Name "isinstance" p1) [.Name y p2, .Name "ValueError" p3] [] pos) (tIs a true) := by
  refine PE.imp (pe_callB (call_isQ c hz hf hp) hg zi (by decide +kernel) (pa_cons (pe_var hN hv hdy hcy) (pa_cons (pe_bltn (v := .ty "ValueError") hgx zv (by decide +kernel) rfl) pa_nil he2) he) (by decide) (by decide) he hpl) ?_
  rintro σ H Q ⟨h1, h2⟩
  exact ⟨_, h1, .ty "ValueError", .type "ValueError", true, rfl, fun u r => r, hk, h2⟩
theorem wh_count : ∀ bs : List Bool, bs.countP (fun b => b) = 1 → (bs.map V.bl).countP (fun z => eqV z (V.bl true)) = 1 := fun bs h => by
  rw [List.countP_map, ← h]
  congr 1
  funext b
  cases b <;> rfl
theorem wh_at {j : Nat} (bs : List Bool) (h : bs[j]? = some true) : (bs.map V.bl)[j]? = some (V.bl true) := by
  rw [List.getElem?_map, h]
  rfl
theorem wh_no {j : Nat} (bs : List Bool) (h : ∀ m, m < j → bs[m]? = some false) (m : Nat) (z : V) (hm : m < j) (e : (bs.map V.bl)[m]? = some z) : eqV z (V.bl true) = false := by
  rw [List.getElem?_map, h m hm] at e
  cases e
  rfl
theorem none_of {H H' : Hp} (s : Same H H') {t : Addr} (h : H' t = none) : H t = none := by
  cases q : H t with
  | none => rfl
  | some o => rw [s t o q] at h; cases h
end LW
/-! LwG: try .. except that tells which refusal; calls of defs picked out of a list; list(range(n)). -/
namespace LW
open PySem PySem.Spec PyProof.Rows L2
section
variable {C : Cn} {W : XK} {X : Cx} {a b c : Expr} {fa fb fc : Ex} {pos : Pos}
def tWh (K : PySem.W.Frag) (cs : List Addr) (i : Nat) (a : Addr) (cls : Value) (d : Option Addr) : TS := fun N σ H => σ[i]? = some (some (.ref a)) ∧ ∃ (D : Addr) (bs : List Bool) (j : Nat), cls = .ref D ∧ d = none ∧ WhX K D cs bs ∧
  bs.countP (fun b => b) = 1 ∧ bs[j]? = some true ∧ (∀ m, m < j → bs[m]? = some false) ∧ ∀ t H', Same H H' → H t = none → H' t = some (.tup [.str "refused", .int (j : Nat)]) → N.rt (.ref t) H'
/-- what is known of the classes that may be raised: c is the j-th -/
def WhIx (C : Cn) (cW : Value) (cs : List Addr) (ix : String → Option Nat) : Prop := ∀ c j, ix c = some j → ∃ (D : Addr) (bs : List Bool), C.cls c = .ref D ∧ PySem.W.exmOne C.K (.ref D) cW = some true ∧ WhX C.K D cs bs ∧
  bs.countP (fun b => b) = 1 ∧ bs[j]? = some true ∧ ∀ m, m < j → bs[m]? = some false
theorem rep_refused {ρ : Rho} {H : Hp} {t : Addr} {j : Nat} (hl : ¬ lives ρ t) (h : H t = some (.tup [.str "refused", .int (j : Nat)])) : RepV C ρ H (.tup [.str [114, 101, 102, 117, 115, 101, 100], .int j]) (.ref t) := by
  simp only [RepV]
  refine ⟨t, _, rfl, .inl ⟨hl, .inl h⟩, ?_⟩
  simp only [RepL]
  exact ⟨_, _, rfl, rep_str (by decide +kernel) (by decide) (by decide +kernel), _, _, rfl, by simp only [RepV], rfl⟩
theorem ds_try {k i : Nat} {f : Addr} {fd : FuncData} {ps : List Str} {cs : List Addr} {cW : Value} {ix : String → Option Nat} {body : List Stmt} {fb : Sm} {x y n : Str} {np p1 p2 p3 p4 pos' : Pos}
    (hK : C.K = X.K) (hs : X.stack = X.env :: X.outer) (hf : X.env.frame = some X.env.locals) (hN : X.N.Nodup) (hi : X.N[i]? = some n) (hln : X.env.kindOf n = some .local) (hc : Names X x cW)
    (F : FnQ X.prog X.w X.K X.mg X.base k f fd ps (spWh X.K cs)) (hr : Room k X.A) (hg : Gl X y) (hm : X.mg y = some (.ref f)) (hk : PySem.W.keepIn X.K (.ref f) = true) (hb : Binds X.K fd ps []) (hix : WhIx C cW cs ix)
    (hbd : ∀ (W' : XK) (pn : List (Addr × Obj)) (xe : Value → Shared → Prop), TakesK (X.tr pn xe) W' → PassesOwn (model X.prog X.w) X.A X.env xe → DSs C W' (X.tr pn xe) body fb)
    (hdb : (y == ("__debug__" : Str)) = false := by decide) (hdn : (n == ("__debug__" : Str)) = false := by decide) (hcn : (n == ("__classdict__" : Str)) = false := by decide)
    (he : starEach [Expr.Name n p2] X.env = (false, eval (.Name n p2) X.env) :: starEach [] X.env := by rfl) :
    DS C W X (.Try body [.ExceptHandler (some (.Name x np)) (some n) [.Return (some (.Call (.Name y p1) [.Name n p2] [] p3)) p4] pos'] [] [] pos) (tryS ix fb) := by
  refine PS.imp (ps_try_as (i := i) (tb := fun W0 => tDS C (fun c d H => ∀ σ, σ.length = X.N.length → W0 c d σ H) fb) (ts := tWh X.K cs i) hs hf hN hi hln hc takes0 (fun W0 pn xe tk pw => hbd _ pn xe ?_ pw) ?_) ?_
  · rintro u s' ⟨a, B, sI, pins, σ, H, cls, d, e, I, nb, up, sky, na, os, ag, w⟩
    exact tk u s' ⟨a, B, sI, pins, σ, H, cls, d, e, I, nb, up, sky, na, os, ag, w σ I.len⟩
  · intro a oe cls d pn hz hfl
    refine PSs.imp (pss_one (ps_ret (pe_callQ (X := X.suite a ((a, oe) :: pn)) (p := (a, oe)) F ⟨hr.dp, hr.un⟩ List.mem_cons_self hg hm hk hb (pa_cons (pe_var (i := i) hi (.inl hln) hdn hcn) pa_nil he) hdb he rfl))) ?_
    rintro N σ H ⟨h0, D, bs, j, rfl, rfl, h1, h2, h3, h4, h5⟩
    exact ⟨_, h0, D, bs, j, rfl, hz, hfl, h1, h2, h3, h4, h5⟩
  · rintro N σ H ⟨ρ, g, m, re, rm, h⟩
    refine ⟨ρ, g, m, re, rm, ?_⟩
    simp only [tryS] at h
    cases q : fb g m with
    | ok o m1 => rw [q] at h; exact h
    | bad => rw [q] at h; exact h
    | exc c m1 =>
      rw [q] at h
      dsimp only at h
      cases hx : ix c with
      | none => rw [hx] at h; exact h.elim
      | some j =>
        rw [hx] at h
        obtain ⟨D, bs, e1, e2, e3, e4, e5, e6⟩ := hix c j hx
        intro ρ' H' x rm' σ' hl
        rw [hK] at e2 e3
        refine ⟨true, by rw [e1]; exact e2, fun _ a ha => ⟨?_, D, bs, j, e1, rfl, e3, e4, e5, e6, fun t H2 s2 hn2 ht => ?_⟩, fun z => nomatch z⟩
        · rw [List.getElem?_set_self (by rw [hl]; exact (List.getElem?_eq_some_iff.mp hi).1)]
        · exact h ρ' H2 (x.trans (.of_same s2)) (rm'.same s2) _ (rep_refused (rm'.free_of hn2) ht)
theorem kit_own2 {K : PySem.W.Frag} {D E : Addr} {b : Bool} (h : PySem.W.subIn K (.ref D) (.ref E) = some b) (self : PySem.W.subIn K (.ref D) (.ref D) = some true) (hd : PySem.W.hasDictIn K E = true) (ht : PySem.W.typeIn K (.ref E) = some (.type "type")) : PySem.W.kitOne K (.ref D) (.ref E) = some b :=
  kit_own h hd ht fun e => by
    subst e
    exact Option.some.inj (h.symm.trans self)
theorem whix_nil {cW : Value} {cs : List Addr} {all : List String} : WhIx C cW cs (ixR all []) := fun c j h => by simp [ixR] at h
theorem whix_cons {cW : Value} {cs : List Addr} {all R : List String} {c : String} {D : Addr} {bs : List Bool} {j : Nat} (hc : C.cls c = .ref D) (he : PySem.W.exmOne C.K (.ref D) cW = some true) (hw : WhX C.K D cs bs) (h1 : bs.countP (fun b => b) = 1) (hj : all.findIdx? (· == c) = some j) (hb : bs[j]? = some true)
    (hm : ∀ m, m < j → bs[m]? = some false) (r : WhIx C cW cs (ixR all R)) : WhIx C cW cs (ixR all (c :: R)) := fun c' j' h => by
  by_cases e : c' = c
  · subst e
    unfold ixR at h
    rw [if_pos (by simp), hj] at h
    cases h
    exact ⟨D, bs, hc, he, hw, h1, hb, hm⟩
  · refine r c' j' ?_
    unfold ixR at h ⊢
    by_cases q : c' ∈ R
    · rw [if_pos q]
      rw [if_pos (List.mem_cons_of_mem _ q)] at h
      exact h
    · rw [if_neg (by simp [e, q])] at h
      cases h
/-- a def's name as a value -/
theorem de_fn {x : Str} {y : String} {f : Addr} (hg : Gl X x) (hm : X.mg x = some (.ref f)) (hf : C.fns y = some f) (hd : (x == ("__debug__" : Str)) = false := by decide) : DE C W X (.Name x pos) (cE (.fn y)) :=
  de_c (pe_glob (v := .ref f) hg hm rfl hd) fun ρ H => by simp only [RepV]; exact ⟨f, rfl, hf⟩
/-- what a table of defs promises -/
def TblOk (C : Cn) (X : Cx) (n : Nat) (tbl : String → Option Fn) : Prop := ∀ x F, tbl x = some F → ∃ k f fd ps, C.fns x = some f ∧ FnOk X.prog X.w X.K X.mg X.base (L2.CX X.prog X.w) k f fd ps (spOf C n F) ∧ Room k X.A ∧ PySem.W.keepIn X.K (.ref f) = true ∧ Binds X.K fd ps []
theorem tbl_nil {n : Nat} : TblOk C X n (tblOf []) := fun x F h => by simp [tblOf] at h
theorem tbl_cons {n k : Nat} {y : String} {F : Fn} {t : List (String × Fn)} {f : Addr} {fd : FuncData} {ps : List Str} (hf : C.fns y = some f) (G : FnOk X.prog X.w X.K X.mg X.base (L2.CX X.prog X.w) k f fd ps (spOf C n F)) (hr : Room k X.A) (hk : PySem.W.keepIn X.K (.ref f) = true) (hb : Binds X.K fd ps []) (r : TblOk C X n (tblOf t)) :
    TblOk C X n (tblOf ((y, F) :: t)) := fun x F' h => by
  unfold tblOf at h
  split at h
  · rename_i e
    subst e
    cases h
    exact ⟨k, f, fd, ps, hf, G, hr, hk, hb⟩
  · exact r x F' h
theorem de_callX {n : Nat} {tbl : String → Option Fn} {es : List Expr} {fr : Ar} (hc : DE C W X c fc) (hT : TblOk C X n tbl) (tk : TakesK X W) (ha : DA C W X (a :: es) fr) (hn : ∀ g m ds m1, fr g m = .ok ds m1 → ds.length = n)
    (he : starEach (a :: es) X.env = (false, eval a X.env) :: starEach es X.env := by rfl) (hpl : (backTo pos (starEach es X.env)).any (·.1) = false := by rfl)
    (hev : eval (.Call c (a :: es) [] pos) X.env = (do callWith pos (← eval c X.env) [] (backTo pos (starEach (a :: es) X.env)) (backToKw pos (keywordEach [] X.env))) := by rfl) : DE C W X (.Call c (a :: es) [] pos) (callX tbl fc fr) := by
  refine ⟨fun pins s σ H Q I h => ?_⟩
  obtain ⟨ρ, g, m, re, rm, h⟩ := h
  refine Call_ (thn (hc.run pins s σ H (fun v H1 => ∃ x f F, v = .ref f ∧ C.fns x = some f ∧ tbl x = some F ∧ tDA C W fr σ H1 (fun vs H2 => spOf C n F vs H2 Q W)) I ⟨ρ, g, m, re, rm, ?_⟩) ?_) hev
  · refine h.bind.imp fun d m1 ρ1 H1 x1 rm1 h1 v r => ?_
    cases d with
    | fn x =>
      simp only [RepV] at r
      obtain ⟨f, rfl, hf⟩ := r
      dsimp only at h1
      cases ht : tbl x with
      | none => rw [ht] at h1; exact h1.elim
      | some F =>
        rw [ht] at h1
        have h2 := h1.bind
        refine ⟨x, f, F, rfl, hf, ht, ρ1, g, m1, re.ext x1, rm1, ?_⟩
        cases e : fr g m1 with
        | bad => rw [e] at h2; exact h2
        | exc c m => rw [e] at h2; exact h2
        | ok ds m2 =>
          rw [e] at h2
          exact fun ρ2 H2 x2 rm2 vs r2 => ⟨ρ2, m2, ds, hn g m1 ds m2 e, r2, rm2, h2 ρ2 H2 x2 rm2⟩
    | _ => exact h1.elim
  · rintro u s1 ⟨v, H1, I1, r1, x, f, F, rfl, hf, ht, q⟩
    cases r1
    obtain ⟨k, f', fd, ps, hf', G, hr, hk, hb⟩ := hT x F ht
    rw [hf] at hf'
    cases hf'
    refine PySem.W.callWith_K (h₀ := X.base) I1.ok.mod.kin hk (thn (ha.run pos pins s1 σ H1 _ I1 q) ?_) he hpl
    rintro us s2 ⟨vs, H2, I2, r2, q2⟩
    exact ⟨I2.kIn, run_fn (dvs := []) G hr hb .nil (passes_call tk fun _ _ _ _ h => h) I2 r2 (by rw [List.append_nil]; exact q2)⟩
/-- tuple(list), exact -/
theorem call_tupX : CallR X (.type "tuple") (fun xs H Q => ∃ p ys, xs = [.ref p] ∧ SqL X.K H p ys ∧ ∀ l o, H l = none → o.dict = none → Q (.ref l) (upd H l (.frz o (.tup ys)))) := by
  intro pins s σ H xs us Q I r h
  obtain ⟨p, ys, rfl, hq, q⟩ := h
  obtain ⟨u, rfl, rx⟩ := vals1 r
  cases rx
  obtain ⟨its, r', pl, hz⟩ := I.list hq
  have hlen := r'.length
  refine call_tuple_list pl.isList (fun h' kp => ?_) (by simp only [List.size_toArray] <;> omega)
  have I1 : Inv X pins σ H { s with heap := h' } := I.kept (t' := s.toks) kp
  exact ⟨.ref h'.objs.size, upd H h'.objs.size (.frz _ (.tup ys)), I1.laid (t' := s.toks) (fun b o e => Heap.get?_push_of_some _ e) (Nat.le_refl _) ⟨Heap.get?_push_size _ rfl, hz, its, r', IsTup.new _ _⟩, rfl, q _ _ (I1.hok.fresh (Nat.le_refl _)) rfl⟩
theorem rep_tpx {ρ : Rho} {H : Hp} {p : Addr} {o : Obj} {ds : List D} {xs : List V} {m : Mem} (rm : RepM C ρ H m) (hp : H p = none) (hd : o.dict = none) (r : RepL C ρ H ds xs) : RepV C ρ (upd H p (.frz o (.tup xs))) (.tpx ds) (.ref p) := by
  simp only [RepV]
  exact ⟨p, xs, o, rfl, rm.free_of hp, upd_same, hd, r.ext (.of_same (same_upd hp))⟩
theorem bs_tuplex : BfS C (fun xs H Q => ∃ p ys, xs = [.ref p] ∧ SqL C.K H p ys ∧ ∀ l o, H l = none → o.dict = none → Q (.ref l) (upd H l (.frz o (.tup ys)))) tuplexB := by
  intro ρ H m ds vs d Q rm rl e q
  match ds, rl, e with
  | [x], rl, e =>
    simp only [RepL] at rl
    obtain ⟨v, _, rfl, r1, rfl⟩ := rl
    simp only [tuplexB] at e
    obtain ⟨ds, h1, h2⟩ := Option.map_eq_some_iff.mp e
    obtain ⟨a, xs, rfl, sq, rl⟩ := lst_read rm r1 h1
    subst h2
    exact ⟨a, xs, rfl, sq, fun p o hp hd => q _ _ (same_upd hp) (rep_tpx rm hp hd rl)⟩
  | [], _, e => cases e
  | _ :: _ :: _, _, e => cases e
/-- list(range(n)) -/
theorem de_listRg {p p2 pos2 : Pos} (hc : X.calm = true) (hg : Gl X "list") (hm : X.mg "list" = none) (hg2 : Gl X "range") (hm2 : X.mg "range" = none) (ha : DE C W X a fa)
    (na : starEach [a] X.env = (false, eval a X.env) :: starEach [] X.env := by rfl) (nb : starEach [Expr.Call (.Name "range" p2) [a] [] pos2] X.env = (false, eval (.Call (.Name "range" p2) [a] [] pos2) X.env) :: starEach [] X.env := by rfl) :
    DE C W X (.Call (.Name "list" p) [.Call (.Name "range" p2) [a] [] pos2] [] pos) (lrE fa) := by
  refine PE.imp (pe_listRg hc hg hm (prg_1 hg2 hm2 ha na) nb) ?_
  rintro σ H Q ⟨ρ, g, m, re, rm, h⟩
  refine ⟨ρ, g, m, re, rm, h.bind.imp fun d m1 ρ1 H1 x1 rm1 h1 v r => ?_⟩
  cases d with
  | int j =>
    simp only [RepV] at r
    subst r
    dsimp only at h1
    split at h1
    · rename_i hz
      rw [Bool.and_eq_true] at hz
      have l1 := inR_le hz.1
      have l2 := Nat.le_of_ble_eq_true hz.2
      refine ⟨j, rfl, ⟨by omega, by omega, by omega, by omega, by unfold lim at l2; omega⟩, fun q hq => ?_⟩
      refine h1 ρ1 _ (.of_same (same_upd hq)) (rm1.same (same_upd hq)) _ (rep_lst rm1 hq ?_)
      unfold rgV
      rw [Int.sub_zero]
      refine RepL.of_all (by simp) fun i d v h1 h2 => ?_
      rw [List.getElem?_map] at h1 h2
      cases e : (List.range j.toNat)[i]? with
      | none => rw [e] at h1; cases h1
      | some k =>
        rw [e] at h1 h2
        cases h1
        cases h2
        simp only [RepV, Int.zero_add]
    · exact h1.elim
  | _ => exact h1.elim
end
end LW
/-! LwH: dicts whose keys are tuples, of any depth: in, read, stored. -/
namespace LW
open PySem PySem.Spec PyProof.Rows L2
/-! ### keys as data -/
mutual
theorem nk_key : ∀ (k : Nat) (d : D), D.key k d = true → ∃ n, nkOf d = some n ∧ n.depth ≤ k
  | k, .int i, _ => ⟨.num i, rfl, by simp [NestedKey.depth]⟩
  | k, .str s, _ => ⟨.text ⟨s.toArray⟩, rfl, by simp [NestedKey.depth]⟩
  | 0, .tup ds, h => by simp [D.key] at h
  | k + 1, .tup ds, h => by
    rw [D.key] at h
    obtain ⟨ns, e, hd⟩ := nk_keyL k ds h
    exact ⟨.tup ns, by rw [nkOf, e]; rfl, by simp only [NestedKey.depth]; omega⟩
  | k, .non, h => by cases k <;> simp [D.key] at h
  | k, .bl _, h => by cases k <;> simp [D.key] at h
  | k, .lst _, h => by cases k <;> simp [D.key] at h
  | k, .dct _ _, h => by cases k <;> simp [D.key] at h
  | k, .gdz _ _, h => by cases k <;> simp [D.key] at h
  | k, .tpx _, h => by cases k <;> simp [D.key] at h
  | k, .scr _, h => by cases k <;> simp [D.key] at h
  | k, .ref _, h => by cases k <;> simp [D.key] at h
  | k, .ty _, h => by cases k <;> simp [D.key] at h
  | k, .fn _, h => by cases k <;> simp [D.key] at h
  | k, .exc _, h => by cases k <;> simp [D.key] at h
theorem nk_keyL : ∀ (k : Nat) (ds : List D), D.keyL k ds = true → ∃ ns, nkOfL ds = some ns ∧ NestedKey.depthAll ns ≤ k
  | k, [], _ => ⟨[], rfl, by simp [NestedKey.depthAll]⟩
  | k, d :: ds, h => by
    have h' : (D.key k d && D.keyL k ds) = true := by cases k <;> simpa [D.keyL] using h
    rw [Bool.and_eq_true] at h'
    obtain ⟨n, e1, l1⟩ := nk_key k d h'.1
    obtain ⟨ns, e2, l2⟩ := nk_keyL k ds h'.2
    exact ⟨n :: ns, by rw [nkOfL, e1, e2]; rfl, by simp only [NestedKey.depthAll]; omega⟩
end
theorem nk_tkey {d : D} (h : d.tkey = true) : ∃ ds n, d = .tup ds ∧ nkOf d = some n ∧ n.depth ≤ 8 := by
  cases d with
  | tup ds =>
    obtain ⟨ns, e, l⟩ := nk_keyL 7 ds h
    exact ⟨ds, .tup ns, rfl, by rw [nkOf, e]; rfl, by simp only [NestedKey.depth]; omega⟩
  | _ => simp at h
mutual
theorem nk_eqv : ∀ (d e : D) (m n : NestedKey), nkOf d = some m → nkOf e = some n → D.eqv d e = NestedKey.beq m n
  | .int i, e, m, n, h1, h2 => by
    cases h1
    cases e with
    | int j => cases h2; rw [D.eqv, NestedKey.beq]; rfl
    | str s => cases h2; simp [D.eqv, NestedKey.beq]
    | tup ds =>
      rw [nkOf] at h2
      obtain ⟨ns, _, rfl⟩ := Option.map_eq_some_iff.mp h2
      simp [D.eqv, NestedKey.beq]
    | _ => simp [nkOf] at h2
  | .str s, e, m, n, h1, h2 => by
    cases h1
    cases e with
    | int j => cases h2; simp [D.eqv, NestedKey.beq]
    | str t =>
      cases h2
      rw [D.eqv, NestedKey.beq, Bool.eq_iff_iff]
      simp
    | tup ds =>
      rw [nkOf] at h2
      obtain ⟨ns, _, rfl⟩ := Option.map_eq_some_iff.mp h2
      simp [D.eqv, NestedKey.beq]
    | _ => simp [nkOf] at h2
  | .tup ds, e, m, n, h1, h2 => by
    rw [nkOf] at h1
    obtain ⟨ms, e1, rfl⟩ := Option.map_eq_some_iff.mp h1
    cases e with
    | int j => cases h2; simp [D.eqv, NestedKey.beq]
    | str t => cases h2; simp [D.eqv, NestedKey.beq]
    | tup es =>
      rw [nkOf] at h2
      obtain ⟨ns, e2, rfl⟩ := Option.map_eq_some_iff.mp h2
      rw [D.eqv, NestedKey.beq]
      exact nk_eqvL ds es ms ns e1 e2
    | _ => simp [nkOf] at h2
  | .non, _, _, _, h1, _ => by simp [nkOf] at h1
  | .bl _, _, _, _, h1, _ => by simp [nkOf] at h1
  | .lst _, _, _, _, h1, _ => by simp [nkOf] at h1
  | .dct _ _, _, _, _, h1, _ => by simp [nkOf] at h1
  | .gdz _ _, _, _, _, h1, _ => by simp [nkOf] at h1
  | .tpx _, _, _, _, h1, _ => by simp [nkOf] at h1
  | .scr _, _, _, _, h1, _ => by simp [nkOf] at h1
  | .ref _, _, _, _, h1, _ => by simp [nkOf] at h1
  | .ty _, _, _, _, h1, _ => by simp [nkOf] at h1
  | .fn _, _, _, _, h1, _ => by simp [nkOf] at h1
  | .exc _, _, _, _, h1, _ => by simp [nkOf] at h1
theorem nk_eqvL : ∀ (ds es : List D) (ms ns : List NestedKey), nkOfL ds = some ms → nkOfL es = some ns → D.eqvL ds es = NestedKey.beqAll ms ns
  | [], [], ms, ns, h1, h2 => by cases h1; cases h2; simp [D.eqvL, NestedKey.beqAll]
  | [], e :: es, ms, ns, h1, h2 => by
    cases h1
    rw [nkOfL] at h2
    obtain ⟨n, _, h2⟩ := Option.bind_eq_some_iff.mp h2
    obtain ⟨ns', _, rfl⟩ := Option.map_eq_some_iff.mp h2
    simp [D.eqvL, NestedKey.beqAll]
  | d :: ds, [], ms, ns, h1, h2 => by
    cases h2
    rw [nkOfL] at h1
    obtain ⟨n, _, h1⟩ := Option.bind_eq_some_iff.mp h1
    obtain ⟨ns', _, rfl⟩ := Option.map_eq_some_iff.mp h1
    simp [D.eqvL, NestedKey.beqAll]
  | d :: ds, e :: es, ms, ns, h1, h2 => by
    rw [nkOfL] at h1 h2
    obtain ⟨m, a1, h1⟩ := Option.bind_eq_some_iff.mp h1
    obtain ⟨ms', a2, rfl⟩ := Option.map_eq_some_iff.mp h1
    obtain ⟨n, b1, h2⟩ := Option.bind_eq_some_iff.mp h2
    obtain ⟨ns', b2, rfl⟩ := Option.map_eq_some_iff.mp h2
    rw [D.eqvL, NestedKey.beqAll, nk_eqv d e m n a1 b1, nk_eqvL ds es ms' ns' a2 b2]
end
theorem nk_eq {d e : D} {m n : NestedKey} (h1 : nkOf d = some m) (h2 : nkOf e = some n) : D.eqv d e = decide (m = n) := by rw [nk_eqv d e m n h1 h2, NestedKey.decide_eq]

section
variable {C : Cn} {W : XK} {X : Cx} {a b c : Expr} {fa fb fc : Ex} {pos : Pos} {ρ : Rho} {H : Hp} {m : Mem}
/-! ### keys in the heap -/
mutual
theorem nest_of {pins : List (Addr × Obj)} {σ : St} {s : Shared} (I : Inv X pins σ H s) (hK : C.K = X.K) : ∀ (d : D) (v : V) (u : Value) (n : NestedKey), RepV C ρ H d v → RelV v u → nkOf d = some n → NestedIs s.heap n u
  | .int i, v, u, n, r, rv, e => by
    simp only [RepV] at r
    subst r
    cases e
    obtain ⟨t, rfl⟩ := rv
    exact .int i t
  | .str x, v, u, n, r, rv, e => by
    simp only [RepV] at r
    obtain ⟨rfl, _⟩ := r
    cases e
    obtain ⟨t, rfl⟩ := rv
    exact .text _ t
  | .tup ds, v, u, n, r, rv, e => by
    rw [nkOf] at e
    obtain ⟨ns, e1, rfl⟩ := Option.map_eq_some_iff.mp e
    obtain ⟨p, xs, rfl, sq, rl⟩ := r.tup_sq
    cases rv
    rw [hK] at sq
    obtain ⟨its, vs, ⟨o, h1, h2, k, h3⟩, _⟩ := I.tuple sq
    exact .tup h1 h2 h3 (by simpa using nest_ofL I hK ds xs its ns rl vs e1)
  | .non, _, _, _, _, _, e => by simp [nkOf] at e
  | .bl _, _, _, _, _, _, e => by simp [nkOf] at e
  | .lst _, _, _, _, _, _, e => by simp [nkOf] at e
  | .dct _ _, _, _, _, _, _, e => by simp [nkOf] at e
  | .gdz _ _, _, _, _, _, _, e => by simp [nkOf] at e
  | .tpx _, _, _, _, _, _, e => by simp [nkOf] at e
  | .scr _, _, _, _, _, _, e => by simp [nkOf] at e
  | .ref _, _, _, _, _, _, e => by simp [nkOf] at e
  | .ty _, _, _, _, _, _, e => by simp [nkOf] at e
  | .fn _, _, _, _, _, _, e => by simp [nkOf] at e
  | .exc _, _, _, _, _, _, e => by simp [nkOf] at e
theorem nest_ofL {pins : List (Addr × Obj)} {σ : St} {s : Shared} (I : Inv X pins σ H s) (hK : C.K = X.K) : ∀ (ds : List D) (vs : List V) (us : List Value) (ns : List NestedKey), RepL C ρ H ds vs → Vals vs us → nkOfL ds = some ns → NestedAll s.heap ns us
  | [], vs, us, ns, r, rv, e => by
    simp only [RepL] at r
    subst r
    cases rv
    cases e
    exact .nil
  | d :: ds, vs, us, ns, r, rv, e => by
    simp only [RepL] at r
    obtain ⟨v, vs', rfl, r1, r2⟩ := r
    rw [nkOfL] at e
    obtain ⟨n, e1, e⟩ := Option.bind_eq_some_iff.mp e
    obtain ⟨ns', e2, rfl⟩ := Option.map_eq_some_iff.mp e
    cases rv with
    | cons rv1 rv2 => exact .cons (nest_of I hK d v _ n r1 rv1 e1) (nest_ofL I hK ds vs' _ ns' r2 rv2 e2)
end
/-- a key at an address, whatever the state -/
def KeyAt (X : Cx) (H : Hp) (b : Addr) (n : NestedKey) : Prop := n.depth ≤ 8 ∧ ∀ (pins : List (Addr × Obj)) (σ : St) (s : Shared), Inv X pins σ H s → NestedIs s.heap n (.ref b)
theorem keyAt_of (hK : C.K = X.K) {d : D} {b : Addr} {n : NestedKey} (r : RepV C ρ H d (.ref b)) (e : nkOf d = some n) (hd : n.depth ≤ 8) : KeyAt X H b n := ⟨hd, fun pins σ s I => nest_of I hK d _ _ n r rfl e⟩
theorem keysAt_of (hK : C.K = X.K) : ∀ {ks : List D} {xs : List (NestedKey × Addr × Value)}, KeysAt ks xs → RepL C ρ H ks (xs.map fun x => V.ref x.2.1) → ∀ x ∈ xs, KeyAt X H x.2.1 x.1
  | [], [], _, _ => fun x hx => by cases hx
  | [], _ :: _, h, _ => by simp [KeysAt] at h
  | _ :: _, [], h, _ => by simp [KeysAt] at h
  | k :: ks, x :: xs, h, r => fun y hy => by
    obtain ⟨h1, h2⟩ := h
    simp only [List.map_cons, List.cons.injEq] at h1
    simp only [List.map_cons, RepL] at r
    obtain ⟨v, vs, e, r1, r2⟩ := r
    obtain ⟨e1, e2⟩ := List.cons.inj e
    subst e1 e2
    rcases List.mem_cons.mp hy with rfl | hy
    · exact keyAt_of hK r1 h1.1 (h2 _ List.mem_cons_self)
    · exact keysAt_of hK ⟨h1.2, fun z hz => h2 z (List.mem_cons_of_mem _ hz)⟩ r2 y hy
/-- a dict whose keys are tuples: one that may change, or one that does not any more -/
def DicAt (X : Cx) (H : Hp) (p : Addr) (xs : List (NestedKey × Addr × Value)) : Prop := H p = some (GDo X.w p xs) ∨ ∃ o, H p = some (GDz X.w p o xs)
theorem dict_at {pins : List (Addr × Obj)} {σ : St} {s : Shared} {p : Addr} {xs : List (NestedKey × Addr × Value)} (I : Inv X pins σ H s) (e : DicAt X H p xs) (hk : ∀ x ∈ xs, KeyAt X H x.2.1 x.1) :
    s.heap.DictOfH (nestedKind X.prog X.w) p xs ∧ xs.length ≤ sizeLine ∧ (p == sysModules) = false := by
  rcases e with e | ⟨o, e⟩
  · obtain ⟨⟨o, es, ep, h1, h2, h3, h4, h5, h6, h7⟩, _⟩ := I.hok p _ e
    exact ⟨⟨o, es, ep, h1, h2, h3, h4, fun x hx => ⟨(hk x hx).2 pins σ s I, (hk x hx).1⟩, h5⟩, h6, h7⟩
  · obtain ⟨⟨h1, h2, ⟨es, ep, h3, h4⟩, h5, h6, h7⟩, _⟩ := I.hok p _ e
    exact ⟨⟨o, es, ep, h1, h2, h3, h4, fun x hx => ⟨(hk x hx).2 pins σ s I, (hk x hx).1⟩, h5⟩, h6, h7⟩
theorem dict_of {pins : List (Addr × Obj)} {σ : St} {s : Shared} {p : Addr} {xs : List (NestedKey × Addr × Value)} (I : Inv X pins σ H s) (e : H p = some (GDo X.w p xs)) (hk : ∀ x ∈ xs, KeyAt X H x.2.1 x.1) :
    s.heap.DictOfH (nestedKind X.prog X.w) p xs ∧ xs.length ≤ sizeLine ∧ (p == sysModules) = false := dict_at I (.inl e) hk
/-! ### k in d -/
def rInG (X : Cx) (neg : Bool) : R2 := fun x y H Q => ∃ (b p : Addr) (n : NestedKey) (xs : List (NestedKey × Addr × Value)), x = .ref b ∧ y = .ref p ∧ KeyAt X H b n ∧ DicAt X H p xs ∧ (∀ q ∈ xs, KeyAt X H q.2.1 q.1) ∧ Q (.bl (if neg then !(atKey xs n).isSome else (atKey xs n).isSome)) H
theorem or_inG (hu : X.A.units + 64 < cLine) : OpR X (compareOp .In) (rInG X false) := by
  intro pins s σ H x y v u Q I rx ry h
  obtain ⟨b, p, n, xs, rfl, rfl, hk, e, hks, q⟩ := h
  cases rx
  cases ry
  obtain ⟨dd, hz, hs⟩ := dict_at I e hks
  exact wpAny_in_heap (knd := nestedKind X.prog X.w) (show (X.A.in1).units + 8 < cLine by rw [Around.in1_units]; omega) ⟨hk.2 pins σ s I, hk.1⟩ hs dd ⟨.bl (atKey xs n).isSome, H, I.tok _, rfl, q⟩
theorem or_notInG (hu : X.A.units + 64 < cLine) : OpR X (compareOp .NotIn) (rInG X true) := by
  intro pins s σ H x y v u Q I rx ry h
  obtain ⟨b, p, n, xs, rfl, rfl, hk, e, hks, q⟩ := h
  cases rx
  cases ry
  obtain ⟨dd, hz, hs⟩ := dict_at I e hks
  exact wpAny_notIn_heap (knd := nestedKind X.prog X.w) (show (X.A.in1).units + 8 < cLine by rw [Around.in1_units]; omega) ⟨hk.2 pins σ s I, hk.1⟩ hs dd ⟨.bl (!(atKey xs n).isSome), H, I.tok _, rfl, q⟩
theorem find_at : ∀ {ks vs : List D} {xs : List (NestedKey × Addr × Value)} {vv : List V} {x : D} {n : NestedKey}, KeysAt ks xs → RepL C ρ H vs vv → Vals vv (xs.map (·.2.2)) → nkOf x = some n →
    ((gfind x ks vs).isSome = (atKey xs n).isSome) ∧ ∀ d, gfind x ks vs = some d → ∃ b u v, atKey xs n = some (b, u) ∧ RelV v u ∧ RepV C ρ H d v
  | [], vs, [], vv, x, n, _, r, rv, _ => by
    refine ⟨?_, fun d h => ?_⟩
    · cases vs <;> simp [gfind, atKey]
    · cases vs <;> simp [gfind] at h
  | [], _, _ :: _, _, _, _, h, _, _, _ => by simp [KeysAt] at h
  | _ :: _, _, [], _, _, _, h, _, _, _ => by simp [KeysAt] at h
  | k :: ks, vs, y :: xs, vv, x, n, h, r, rv, hx => by
    obtain ⟨h1, h2⟩ := h
    simp only [List.map_cons, List.cons.injEq] at h1
    rw [List.map_cons] at rv
    cases vs with
    | nil => simp only [RepL] at r; subst r; cases rv
    | cons d0 vs =>
      simp only [RepL] at r
      obtain ⟨v0, vv', rfl, r1, r2⟩ := r
      cases rv with
      | cons rv1 rv2 =>
        have ih := find_at (ks := ks) (vs := vs) (xs := xs) (vv := vv') (x := x) (n := n) ⟨h1.2, fun z hz => h2 z (List.mem_cons_of_mem _ hz)⟩ r2 rv2 hx
        have hq : D.eqv k x = decide (y.1 = n) := nk_eq h1.1 hx
        by_cases hy : y.1 = n
        · have e1 : atKey (y :: xs) n = some y.2 := by simp [atKey, hy]
          have e2 : gfind x (k :: ks) (d0 :: vs) = some d0 := by simp [gfind, hq, hy]
          refine ⟨by rw [e1, e2]; rfl, fun d hd => ?_⟩
          rw [e2] at hd
          cases hd
          exact ⟨y.2.1, y.2.2, v0, e1, rv1, r1⟩
        · have e1 : atKey (y :: xs) n = atKey xs n := by simp [atKey, List.find?_cons, hy]
          have e2 : gfind x (k :: ks) (d0 :: vs) = gfind x ks vs := by simp [gfind, hq, hy]
          rw [e1, e2]
          exact ih
theorem rm_gd {n : Nat} {v : V} {ks vs : List D} (rm : RepM C ρ H m) (r : RepV C ρ H (.ref n) v) (e : m[n]? = some (.gd ks vs)) : ∃ p xs vv, v = .ref p ∧ ρ.l[n]? = some (p, true) ∧ H p = some (GDo C.w p xs) ∧ KeysAt ks xs ∧ Vals vv (xs.map (·.2.2)) ∧ RepL C ρ H ks (xs.map fun x => V.ref x.2.1) ∧ RepL C ρ H vs vv := by
  simp only [RepV] at r
  obtain ⟨p, rfl, l, hl⟩ := r
  obtain ⟨rfl, xs, vv, h⟩ := rm.obj n p l _ hl e
  exact ⟨p, xs, vv, rfl, hl, h⟩
theorem gdz_at {v : V} {ks vs : List D} (r : RepV C ρ H (.gdz ks vs) v) : ∃ p o xs vv, v = .ref p ∧ ¬ lives ρ p ∧ H p = some (GDz C.w p o xs) ∧ KeysAt ks xs ∧ Vals vv (xs.map (·.2.2)) ∧ RepL C ρ H ks (xs.map fun x => V.ref x.2.1) ∧ RepL C ρ H vs vv := by
  simpa only [RepV] using r
theorem gd_at {d : D} {v : V} {c : List D × List D} (hw : C.w = X.w) (rm : RepM C ρ H m) (r : RepV C ρ H d v) (e : gdOf m d = some c) : ∃ p xs vv, v = .ref p ∧ DicAt X H p xs ∧ KeysAt c.1 xs ∧ Vals vv (xs.map (·.2.2)) ∧ RepL C ρ H c.1 (xs.map fun x => V.ref x.2.1) ∧ RepL C ρ H c.2 vv := by
  unfold gdOf at e
  cases d with
  | ref n =>
    dsimp only at e
    split at e
    · rename_i ks vs hm
      cases e
      obtain ⟨p, xs, vv, rfl, hl, ho, h⟩ := rm_gd rm r hm
      rw [hw] at ho
      exact ⟨p, xs, vv, rfl, .inl ho, h⟩
    · cases e
  | gdz ks vs =>
    cases e
    obtain ⟨p, o, xs, vv, rfl, _, ho, h⟩ := gdz_at r
    rw [hw] at ho
    exact ⟨p, xs, vv, rfl, .inr ⟨o, ho⟩, h⟩
  | _ => cases e
theorem inG_eq (x y : D) : inG m x y = (gdOf m y).bind fun c => if x.tkey then some (.bl (gfind x c.1 c.2).isSome) else none := by
  unfold inG
  cases y <;> try rfl
  rename_i n
  simp only [gdOf]
  cases m[n]? with
  | none => rfl
  | some o => cases o <;> rfl
theorem getG_eq (x y : D) : getG m x y = (gdOf m x).bind fun c => if y.tkey then gfind y c.1 c.2 else none := by
  unfold getG
  cases x <;> try rfl
  rename_i n
  simp only [gdOf]
  cases m[n]? with
  | none => rfl
  | some o => cases o <;> rfl
theorem os_inG (hK : C.K = X.K) (hw : C.w = X.w) : OpS C (rInG X false) inG := by
  intro ρ H m d1 d2 v1 v2 d Q rm r1 r2 e q
  rw [inG_eq] at e
  obtain ⟨c, hc, e⟩ := Option.bind_eq_some_iff.mp e
  split at e
  · rename_i hk
    cases e
    obtain ⟨p, xs, vv, rfl, ho, hks, hv, rk, rv⟩ := gd_at hw rm r2 hc
    obtain ⟨ds, n1, rfl, en, hd⟩ := nk_tkey hk
    obtain ⟨b, ys, rfl, _⟩ := r1.tup_sq
    refine ⟨b, p, n1, xs, rfl, rfl, keyAt_of hK r1 en hd, ho, keysAt_of hK hks rk, ?_⟩
    refine q _ H (Same.refl H) ?_
    rw [(find_at hks rv hv en).1]
    simp only [RepV, Bool.false_eq_true, if_false]
  · cases e
theorem os_notInG (hK : C.K = X.K) (hw : C.w = X.w) : OpS C (rInG X true) notInG := by
  intro ρ H m d1 d2 v1 v2 d Q rm r1 r2 e q
  unfold notInG at e
  rw [inG_eq] at e
  cases hc : gdOf m d2 with
  | none => rw [hc] at e; cases e
  | some c =>
    rw [hc] at e
    dsimp only [Option.bind] at e
    by_cases hk : d1.tkey = true
    · rw [if_pos hk] at e
      cases e
      obtain ⟨p, xs, vv, rfl, ho, hks, hv, rk, rv⟩ := gd_at hw rm r2 hc
      obtain ⟨ds, n1, rfl, en, hd⟩ := nk_tkey hk
      obtain ⟨b, ys, rfl, _⟩ := r1.tup_sq
      refine ⟨b, p, n1, xs, rfl, rfl, keyAt_of hK r1 en hd, ho, keysAt_of hK hks rk, ?_⟩
      refine q _ H (Same.refl H) ?_
      rw [(find_at hks rv hv en).1]
      simp only [RepV, if_true]
    · rw [if_neg hk] at e; cases e
/-! ### d[k] -/
def rGetG (X : Cx) : R2 := fun x y H Q => ∃ (b p : Addr) (n : NestedKey) (xs : List (NestedKey × Addr × Value)) (t : Addr × Value) (v : V), x = .ref p ∧ y = .ref b ∧ KeyAt X H b n ∧ DicAt X H p xs ∧ (∀ q ∈ xs, KeyAt X H q.2.1 q.1) ∧ atKey xs n = some t ∧ RelV v t.2 ∧ Q v H
theorem pe_getG {ta tb : TE} (hu : X.A.units + 64 < cLine) (ho : PE X a ta) (hi : PE X b tb) (hs : NoSl b) : PE X (.Subscript a b pos) (tOp (rGetG X) ta tb) := by
  refine ⟨fun pins s σ H Q I h => ?_⟩
  refine subD_of PySem.F.slot_dict_getitem.lookup hs (thn (ho.run pins s σ H _ I h) fun u s1 ⟨x, H1, I1, rx, q1⟩ => thn (hi.run pins s1 σ H1 _ I1 q1) fun iv s2 ⟨y, H2, I2, ry, q2⟩ => ?_)
  obtain ⟨k, p, n, xs, t, v, rfl, rfl, hk, e, hks, ht, rv, q⟩ := q2
  cases rx
  cases ry
  obtain ⟨dd, hz, hsy⟩ := dict_at I2 e hks
  refine ⟨dd.typeIs, wpAny_getItem_heap (knd := nestedKind X.prog X.w) (show (X.A.in1).units + 8 < cLine by rw [Around.in1_units]; omega) ⟨hk.2 pins σ s2 I2, hk.1⟩ dd ht ⟨v, H2, I2.tok _, rv, q⟩⟩
theorem os_getG (hK : C.K = X.K) (hw : C.w = X.w) : OpS C (rGetG X) getG := by
  intro ρ H m d1 d2 v1 v2 d Q rm r1 r2 e q
  rw [getG_eq] at e
  obtain ⟨c, hc, e⟩ := Option.bind_eq_some_iff.mp e
  split at e
  · rename_i hk
    obtain ⟨p, xs, vv, rfl, ho, hks, hv, rk, rv⟩ := gd_at hw rm r1 hc
    obtain ⟨ds, n1, rfl, en, hd⟩ := nk_tkey hk
    obtain ⟨b, ys, rfl, _⟩ := r2.tup_sq
    obtain ⟨b', u', v', h1, h2, h3⟩ := (find_at hks rv hv en).2 d e
    exact ⟨b, p, n1, xs, (b', u'), v', rfl, rfl, keyAt_of hK r2 en hd, ho, keysAt_of hK hks rk, h1, h2, q _ H (Same.refl H) h3⟩
  · cases e
theorem de_getG (hK : C.K = X.K) (hw : C.w = X.w) (hu : X.A.units + 64 < cLine) (ha : DE C W X a fa) (hb : DE C W X b fb) (hs : NoSl b) : DE C W X (.Subscript a b pos) (opE getG fa fb) := PE.imp (pe_getG hu ha hb hs) (bin_of (os_getG hK hw))
/-! ### new dicts -/
theorem gd_ok {P : Program} {w : World} {H : Hp} {h : Heap} {p : Addr} {xs : List (NestedKey × Addr × Value)} (dd : h.DictOfH (nestedKind P w) p xs) (hz : xs.length ≤ sizeLine) (hs : (p == sysModules) = false) : ObjOk P w H h p (GDo w p xs) := by
  obtain ⟨o, es, ep, h1, h2, h3, h4, h5, h6⟩ := dd
  exact ⟨⟨o, es, ep, h1, h2, h3, h4, h6, hz, hs⟩, ⟨o, h1⟩, fun g1 g2 ⟨o', es', ep', k1, k⟩ st => ⟨o', es', ep', st o' k1, k⟩⟩
theorem pe_gd0 : PE X (.Dict [] [] pos) (fun _ H Q => ∀ p, H p = none → Q (.ref p) (upd H p (GDo X.w p []))) := ⟨fun pins s σ H Q I h => by
  refine wpAny_Dict_empty ?_
  have hf : H s.heap.objs.size = none := I.hok.fresh (Nat.le_refl _)
  have hb : (s.heap.objs.size == sysModules) = false := beq_eq_false_iff_ne.mpr (Nat.ne_of_gt I.big)
  exact ⟨.ref s.heap.objs.size, _, I.laid (t' := s.toks) (fun b u e => Heap.get?_push_of_some _ e) (Nat.le_refl _) (gd_ok (Heap.DictOfH.new s.heap) (Nat.zero_le _) hb), rfl, h _ hf⟩⟩
theorem new_gd0 {p : Addr} (rm : RepM C ρ H m) (hp : H p = none) : Ext ρ H (ρ.more p) (upd H p (GDo C.w p [])) ∧ RepM C (ρ.more p) (upd H p (GDo C.w p [])) (m ++ [.gd [] []]) ∧ RepV C (ρ.more p) (upd H p (GDo C.w p [])) (.ref m.length) (.ref p) :=
  ⟨ext_more hp, rm.more hp ⟨rfl, [], [], upd_same, ⟨rfl, fun x hx => by cases hx⟩, .nil, by simp only [RepL, List.map_nil], by simp only [RepL]⟩, more_ref rm⟩
theorem de_gd0 (hw : C.w = X.w) : DE C W X (.Dict [] [] pos) gd0E := by
  refine PE.imp pe_gd0 ?_
  rintro σ H Q ⟨ρ, g, m, re, rm, h⟩ p hp
  obtain ⟨x, rm', rv⟩ := new_gd0 rm hp
  rw [hw] at x rm' rv
  exact h (ρ.more p) _ x rm' _ rv
/-! ### d[k] = v -/
def sPutG (X : Cx) (td ty tv : TE) : TS := fun N σ H => tv σ H fun v H1 => td σ H1 fun x H2 => ty σ H2 fun y H3 => ∃ (p b : Addr) (n : NestedKey) (xs : List (NestedKey × Addr × Value)), x = .ref p ∧ y = .ref b ∧ KeyAt X H3 b n ∧ H3 p = some (GDo X.w p xs) ∧ (∀ q ∈ xs, KeyAt X H3 q.2.1 q.1) ∧ xs.length < sizeLine ∧
  ∀ u, RelV v u → N.nx σ (upd H3 p (GDo X.w p (storedH xs n b u)))
theorem stored_len {xs : List (NestedKey × Addr × Value)} {n : NestedKey} {b : Addr} {u : Value} : (storedH xs n b u).length ≤ xs.length + 1 := by
  unfold storedH
  split <;> simp
theorem ps_putG {td ty tv : TE} {pos' : Pos} (hu : X.A.units + 64 < cLine) (ho : PE X a td) (hi : PE X b ty) (hv : PE X c tv) (hs : swapsWith c (some (.Subscript a b pos')) pos.line X.env = pure false) :
    PS X (.Assign [.Subscript a b pos'] c pos) (sPutG X td ty tv) := by
  refine ⟨fun pins s σ H N I h => ?_⟩
  refine wpAny_Assign_Subscript (thn (hv.run pins s σ H _ I h) fun r s1 ⟨v, H1, I1, rv, q1⟩ => thn (ho.run pins s1 σ H1 _ I1 q1) fun u s2 ⟨x, H2, I2, rx, q2⟩ => thn (hi.run pins s2 σ H2 _ I2 q2) fun iv s3 ⟨y, H3, I3, ry, p, k, n, xs, ex, ey, hk, e, hks, hl, q3⟩ => ?_) hs
  subst ex ey
  cases rx
  cases ry
  obtain ⟨dd, hz, hsy⟩ := dict_of I3 e hks
  refine wpAny_setItem_heap (knd := nestedKind X.prog X.w) (hsz := hz) (show (X.A.in1).units + 8 < cLine by rw [Around.in1_units]; omega) ⟨hk.2 pins σ s3 I3, hk.1⟩ dd fun h' dd' sb => ?_
  have he : ∃ q, h'.get? p = some q := let ⟨q, _, _, hq, _⟩ := dd'; ⟨q, hq⟩
  have hl2 : (storedH xs n k r).length ≤ sizeLine := by have := stored_len (xs := xs) (n := n) (b := k) (u := r); omega
  exact ⟨σ, _, d_write I3 (by rw [e]; exact True.intro) sb he (gd_ok dd' hl2 hsy), q3 r rv⟩
theorem keys_put {ks : List D} {xs : List (NestedKey × Addr × Value)} {n : NestedKey} {u : Value} (h : KeysAt ks xs) : KeysAt ks (xs.map (putAt n u)) ∧ (xs.map (putAt n u)).map (fun x => V.ref x.2.1) = xs.map fun x => V.ref x.2.1 := by
  have e1 : ∀ x : NestedKey × Addr × Value, (putAt n u x).1 = x.1 ∧ (putAt n u x).2.1 = x.2.1 := fun x => by
    unfold putAt
    split <;> exact ⟨rfl, rfl⟩
  refine ⟨⟨?_, fun y hy => ?_⟩, ?_⟩
  · rw [h.1, List.map_map]
    exact List.map_congr_left fun x _ => by simp [(e1 x).1]
  · obtain ⟨x, hx, rfl⟩ := List.mem_map.mp hy
    rw [(e1 x).1]
    exact h.2 x hx
  · rw [List.map_map]
    exact List.map_congr_left fun x _ => by simp [(e1 x).2]
theorem vals_put {k y : D} {n : NestedKey} {u : Value} {v : V} (hk : nkOf k = some n) (ry : RepV C ρ H y v) (rv : RelV v u) : ∀ {ks vs : List D} {xs : List (NestedKey × Addr × Value)} {vv : List V}, KeysAt ks xs → RepL C ρ H vs vv → Vals vv (xs.map (·.2.2)) →
    ∃ vv', Vals vv' ((xs.map (putAt n u)).map (·.2.2)) ∧ RepL C ρ H (List.zipWith (fun q x => if D.eqv q k then y else x) ks vs) vv'
  | [], vs, [], vv, _, r, rr => ⟨[], .nil, by cases vs <;> simp [RepL]⟩
  | [], _, _ :: _, _, h, _, _ => by simp [KeysAt] at h
  | _ :: _, _, [], _, h, _, _ => by simp [KeysAt] at h
  | q :: ks, vs, x :: xs, vv, h, r, rr => by
    obtain ⟨h1, h2⟩ := h
    simp only [List.map_cons, List.cons.injEq] at h1
    rw [List.map_cons] at rr
    cases vs with
    | nil => simp only [RepL] at r; subst r; cases rr
    | cons d0 vs =>
      simp only [RepL] at r
      obtain ⟨v0, vv', rfl, r1, r2⟩ := r
      cases rr with
      | cons rv1 rv2 =>
        obtain ⟨ww, w1, w2⟩ := vals_put hk ry rv (ks := ks) (vs := vs) (xs := xs) (vv := vv') ⟨h1.2, fun z hz => h2 z (List.mem_cons_of_mem _ hz)⟩ r2 rv2
        have hq : D.eqv q k = decide (x.1 = n) := nk_eq h1.1 hk
        rw [List.map_cons, List.map_cons, List.zipWith_cons_cons, hq]
        by_cases hy : x.1 = n
        · refine ⟨v :: ww, ?_, ?_⟩
          · rw [show (putAt n u x).2.2 = u by simp [putAt, hy]]
            exact .cons rv w1
          · simp only [RepL, hy, decide_true, if_true]
            exact ⟨v, ww, rfl, ry, w2⟩
        · refine ⟨v0 :: ww, ?_, ?_⟩
          · rw [show (putAt n u x).2.2 = x.2.2 by simp [putAt, hy]]
            exact .cons rv1 w1
          · simp only [RepL, hy, decide_false, Bool.false_eq_true, if_false]
            exact ⟨v0, ww, rfl, r1, w2⟩
/-- what lies there behind a store -/
theorem rep_put {p b : Addr} {k y : D} {n : NestedKey} {u : Value} {v : V} {ks vs : List D} {xs : List (NestedKey × Addr × Value)} {vv : List V} (hk : nkOf k = some n) (hd : n.depth ≤ 8) (rk : RepV C ρ H k (.ref b)) (ry : RepV C ρ H y v) (rv : RelV v u)
    (h1 : KeysAt ks xs) (h2 : Vals vv (xs.map (·.2.2))) (h3 : RepL C ρ H ks (xs.map fun x => V.ref x.2.1)) (h4 : RepL C ρ H vs vv) :
    ∃ vv', KeysAt (gputK k ks vs) (storedH xs n b u) ∧ Vals vv' ((storedH xs n b u).map (·.2.2)) ∧ RepL C ρ H (gputK k ks vs) ((storedH xs n b u).map fun x => V.ref x.2.1) ∧ RepL C ρ H (gputV k y ks vs) vv' := by
  have hf := (find_at h1 h4 h2 hk).1
  unfold gputK gputV storedH
  rw [hf]
  cases hq : (atKey xs n).isSome with
  | true =>
    simp only [if_true]
    obtain ⟨vv', w1, w2⟩ := vals_put hk ry rv h1 h4 h2
    obtain ⟨k1, k2⟩ := keys_put (n := n) (u := u) h1
    exact ⟨vv', k1, w1, by rw [k2]; exact h3, w2⟩
  | false =>
    simp only [Bool.false_eq_true, if_false]
    refine ⟨vv ++ [v], ⟨?_, fun x hx => ?_⟩, ?_, ?_, ?_⟩
    · rw [List.map_append, List.map_append, h1.1]
      simp [hk]
    · rcases List.mem_append.mp hx with hx | hx
      · exact h1.2 x hx
      · rw [List.mem_singleton.mp hx]; exact hd
    · rw [List.map_append]
      exact h2.append (.cons rv .nil)
    · rw [List.map_append]
      refine h3.append ?_
      simp only [List.map_cons, List.map_nil, RepL]
      exact ⟨_, [], rfl, rk, rfl⟩
    · refine h4.append ?_
      simp only [RepL]
      exact ⟨_, [], rfl, ry, rfl⟩
theorem lim_size : lim = sizeLine := lim_eq
theorem ds_putG {pos' : Pos} (hK : C.K = X.K) (hw : C.w = X.w) (hu : X.A.units + 64 < cLine) (ha : DE C W X a fa) (hb : DE C W X b fb) (hc : DE C W X c fc) (hs : swapsWith c (some (.Subscript a b pos')) pos.line X.env = pure false := by rfl) :
    DS C W X (.Assign [.Subscript a b pos'] c pos) (putG fa fb fc) := by
  refine PS.imp (ps_putG hu ha hb hc hs) ?_
  rintro N σ H ⟨ρ, g, m, re, rm, h⟩
  refine ⟨ρ, g, m, re, rm, h.bind.imp fun d1 m1 ρ1 H1 x1 rm1 h1 v1 r1 => ?_⟩
  refine ⟨ρ1, g, m1, re.ext x1, rm1, h1.bind.imp fun d2 m2 ρ2 H2 x2 rm2 h2 v2 r2 => ?_⟩
  refine ⟨ρ2, g, m2, (re.ext x1).ext x2, rm2, h2.bind.imp fun d3 m3 ρ3 H3 x3 rm3 h3 v3 r3 => ?_⟩
  cases d2 with
  | ref n =>
    dsimp only at h3
    cases hm : m3[n]? with
    | none => rw [hm] at h3; exact h3.elim
    | some o =>
      rw [hm] at h3
      cases o with
      | gd ks vs =>
        dsimp only at h3
        split at h3
        · rename_i hk
          rw [Bool.and_eq_true] at hk
          obtain ⟨hk, hl⟩ := hk
          have hl' : ks.length < lim := by simpa [Nat.blt_eq] using hl
          obtain ⟨p, xs, vv, e1, hl1, ho, hks, hv, rk, rv⟩ := rm_gd rm3 (r2.ext x3) hm
          subst e1
          obtain ⟨ds, n1, rfl, en, hd⟩ := nk_tkey hk
          obtain ⟨k, ys, rfl, _⟩ := id r3.tup_sq
          have ho' := ho
          rw [hw] at ho'
          have hlx : xs.length < sizeLine := by
            have := congrArg List.length hks.1
            rw [List.length_map, List.length_map] at this
            rw [← lim_eq]
            omega
          refine ⟨p, k, n1, xs, rfl, rfl, keyAt_of hK r3 en hd, ho', keysAt_of hK hks rk, hlx, fun u ru => ?_⟩
          obtain ⟨vv', w1, w2, w3, w4⟩ := rep_put (p := p) en hd r3 (r1.ext (x2.trans x3)) ru hks hv rk rv
          have xp : Ext ρ3 H3 ρ3 (upd H3 p (GDo C.w p (storedH xs n1 k u))) := ext_put rm3 hl1
          rw [← hw]
          exact h3 ρ3 _ xp (rm3.put hl1 ⟨rfl, _, vv', upd_same, w1, w2, w3.ext xp, w4.ext xp⟩) σ (((re.ext x1).ext x2).ext (x3.trans xp))
        · exact h3.elim
      | _ => exact h3.elim
  | _ => exact h3.elim
/-! ### {k: v} -/
def tGd1 (X : Cx) (tk tv : TE) : TE := fun σ H Q => ∀ p, H p = none → tk σ (upd H p (GDo X.w p [])) fun x H1 => tv σ H1 fun y H2 => H2 p = some (GDo X.w p []) ∧ ∃ (b : Addr) (n : NestedKey), x = .ref b ∧ KeyAt X H2 b n ∧ ∀ u, RelV y u → Q (.ref p) (upd H2 p (GDo X.w p [(n, b, u)]))
theorem pe_gd1 {tk tv : TE} (hu : X.A.units + 64 < cLine) (hk : PE X a tk) (hv : PE X b tv) : PE X (.Dict [some a] [b] pos) (tGd1 X tk tv) := by
  refine ⟨fun pins s σ H Q I q => ?_⟩
  have hn : H s.heap.objs.size = none := I.hok.fresh (Nat.le_refl _)
  have hb : (s.heap.objs.size == sysModules) = false := beq_eq_false_iff_ne.mpr (Nat.ne_of_gt I.big)
  have I1 := I.laid (a := s.heap.objs.size) (o := GDo X.w s.heap.objs.size []) (h' := s.heap.push { cls := .type "dict", data := .dict #[] }) (t' := s.toks) (fun _ _ q => Heap.get?_push_of_some _ q) (Nat.le_refl _) (gd_ok (Heap.DictOfH.new s.heap) (Nat.zero_le _) hb)
  have hp := pps_cons (pos := pos) hk hv (pps_nil (X := X) (pos := pos))
  rw [arm_eval_Dict, zip_pairTrees [some a] [b] X.env pos rfl rfl, dictDisplay_pairs (pairTrees [some a] [b] X.env pos) (by simp [pairTrees]) (by simp [pairTrees])]
  refine wpAny_bind (wpAny_standAt (wpAny_bind (wpAny_subDictH (knd := nestedKind X.prog X.w) (Q := fun d s' => wpAny (model X.prog X.w) X.A (pure (Value.ref d)) (EP X pins σ Q) X.xe s') (show X.A.units + 8 < cLine by omega) (by simp [pairTrees]) (thn (hp.run pins _ σ _ (fun ps H2 => match ps with | [(x, y)] => H2 s.heap.objs.size = some (GDo X.w s.heap.objs.size []) ∧ ∃ (b : Addr) (n : NestedKey), x = .ref b ∧ KeyAt X H2 b n ∧ ∀ u, RelV y u → Q (.ref s.heap.objs.size) (upd H2 s.heap.objs.size (GDo X.w s.heap.objs.size [(n, b, u)])) | _ => False) I1 ?_) ?_))))
  · exact q _ hn
  · rintro ws s2 ⟨ps, H2, I2, rel, hq⟩
    obtain ⟨x, y, rfl⟩ : ∃ x y, ps = [(x, y)] := by
      rcases ps with _ | ⟨⟨x, y⟩, _ | ⟨_, _⟩⟩
      · exact hq.elim
      · exact ⟨x, y, rfl⟩
      · exact hq.elim
    obtain ⟨e, k, n, rfl, hka, q2⟩ := hq
    cases rel with
    | @cons _ w1 _ _ h t =>
      cases t
      obtain ⟨r1, r2⟩ := h
      obtain ⟨w1a, w1b⟩ := w1
      cases r1
      obtain ⟨dd, hz, hsy⟩ := dict_of I2 e (fun x hx => by cases hx)
      refine ⟨[(n, k, w1b)], ⟨rfl, rfl, ⟨hka.2 pins σ s2 I2, hka.1⟩, trivial⟩, dd, fun h' tk dd' sb => wpAny_pure ⟨.ref s.heap.objs.size, _, ?_, rfl, q2 w1b r2⟩⟩
      have he : ∃ q, h'.get? s.heap.objs.size = some q := let ⟨q, _, _, hq, _⟩ := dd'; ⟨q, hq⟩
      exact d_write I2 (by rw [e]; exact True.intro) sb he (gd_ok dd' (by show 1 ≤ sizeLine; decide) hsy)
theorem RepO.weak {ρ' : Rho} {a : Addr} {l : Bool} (mono : ∀ b, lives ρ' b → lives ρ b) (pre : ∀ n b, adr ρ n b → adr ρ' n b) : ∀ {o : MO}, RepO C ρ H a l o → RepO C ρ' H a l o
  | .lst ds, h => by
    obtain ⟨e, xs, q, r⟩ := h
    exact ⟨e, xs, q, show_ext.weakL mono pre r⟩
  | .dct ks vs, h => by
    obtain ⟨e, xs, r, h⟩ := h
    exact ⟨e, xs, show_ext.weakL mono pre r, h⟩
  | .ins c fs, h => by
    obtain ⟨e, Cc, dx, vs, h1, h2, h3, h4⟩ := h
    exact ⟨e, Cc, dx, vs, h1, h2, h3, show_ext.weakL mono pre h4⟩
  | .gd ks vs, h => by
    obtain ⟨e, xs, vv, h1, h2, h3, h4, h5⟩ := h
    exact ⟨e, xs, vv, h1, h2, h3, show_ext.weakL mono pre h4, show_ext.weakL mono pre h5⟩
  | .gone, h => h
/-- a hidden thing becomes one that is to change -/
def Rho.out (ρ : Rho) (p : Addr) : Rho := ⟨ρ.l ++ [(p, true)], ρ.z.filter fun b => decide (b ≠ p)⟩
theorem lives_out {p b : Addr} (hz : p ∈ ρ.z) : lives (ρ.out p) b ↔ lives ρ b := by
  unfold lives Rho.out
  simp only [List.mem_append, List.mem_singleton, Prod.mk.injEq, and_true, List.mem_filter, decide_eq_true_eq]
  constructor
  · rintro ((h | h) | h)
    · exact .inl h
    · subst h; exact .inr hz
    · exact .inr h.1
  · rintro (h | h)
    · exact .inl (.inl h)
    · by_cases e : b = p
      · exact .inl (.inr e)
      · exact .inr ⟨h, e⟩
theorem out_pre {p : Addr} (n : Nat) (b : Addr) (h : adr ρ n b) : adr (ρ.out p) n b := by
  obtain ⟨l, h⟩ := h
  refine ⟨l, ?_⟩
  show (ρ.l ++ [(p, true)])[n]? = _
  rw [List.getElem?_append_left (List.getElem?_eq_some_iff.mp h).1]
  exact h
theorem RepM.out {p : Addr} {u : MO} (rm : RepM C ρ H m) (hz : p ∈ ρ.z) (ru : RepO C (ρ.out p) H p true u) : RepM C (ρ.out p) H (m ++ [u]) := by
  have hnl : (p, true) ∉ ρ.l := (rm.hid p hz).2
  refine ⟨by show (ρ.l ++ [(p, true)]).length = _; rw [List.length_append, List.length_append, rm.len]; rfl, fun n a l w h1 h2 => ?_, fun n k a h1 h2 => ?_, fun a z => ?_⟩
  · change (ρ.l ++ [(p, true)])[n]? = some (a, l) at h1
    by_cases hlt : n < ρ.l.length
    · rw [List.getElem?_append_left hlt] at h1
      rw [List.getElem?_append_left (by rw [← rm.len]; exact hlt)] at h2
      exact (rm.obj n a l w h1 h2).weak (fun b hb => (lives_out hz).mp hb) out_pre
    · have e : n = ρ.l.length := by
        have := (List.getElem?_eq_some_iff.mp h1).1
        rw [List.length_append, List.length_singleton] at this
        omega
      subst e
      rw [List.getElem?_append_right (Nat.le_refl _), Nat.sub_self] at h1
      rw [List.getElem?_append_right (by rw [rm.len]; exact Nat.le_refl _), rm.len, Nat.sub_self] at h2
      cases h1
      cases h2
      exact ru
  · have key : ∀ {n : Nat}, (ρ.l ++ [(p, true)])[n]? = some (a, true) → (ρ.l[n]? = some (a, true) ∧ a ≠ p) ∨ (n = ρ.l.length ∧ a = p) := fun {n} h => by
      by_cases hlt : n < ρ.l.length
      · rw [List.getElem?_append_left hlt] at h
        refine .inl ⟨h, fun e => ?_⟩
        subst e
        exact hnl (List.mem_of_getElem? h)
      · have e : n = ρ.l.length := by
          have := (List.getElem?_eq_some_iff.mp h).1
          rw [List.length_append, List.length_singleton] at this
          omega
        subst e
        rw [List.getElem?_append_right (Nat.le_refl _), Nat.sub_self] at h
        cases h
        exact .inr ⟨rfl, rfl⟩
    rcases key h1 with ⟨q1, n1⟩ | ⟨q1, n1⟩ <;> rcases key h2 with ⟨q2, n2⟩ | ⟨q2, n2⟩
    · exact rm.dis n k a q1 q2
    · exact absurd n2 n1
    · exact absurd n1 n2
    · rw [q1, q2]
  · obtain ⟨z1, z2⟩ := List.mem_filter.mp z
    refine ⟨(rm.hid a z1).1, fun hm => ?_⟩
    have hm : (a, true) ∈ ρ.l ++ [(p, true)] := hm
    rcases List.mem_append.mp hm with h | h
    · exact (rm.hid a z1).2 h
    · have e : a = p := by simpa using h
      exact (of_decide_eq_true z2) e
theorem ext_out {ρ2 : Rho} {H2 : Hp} {p : Addr} (x : Ext ρ H ρ2 H2) (hp : H p = none) (hz : p ∈ ρ2.z) : Ext ρ H (ρ2.out p) H2 := by
  refine ⟨fun n a h => out_pre n a (x.pre n a h), fun b u pl n r => ?_, fun b u pl n r => ?_, fun b o z q => ?_, x.there⟩
  · obtain ⟨n', r'⟩ := x.keep b u pl n r
    exact ⟨fun h => n' ((lives_out hz).mp h), r'⟩
  · obtain ⟨n', r'⟩ := x.keepD b u pl n r
    exact ⟨fun h => n' ((lives_out hz).mp h), r'⟩
  · obtain ⟨z', q'⟩ := x.lx b o z q
    exact ⟨List.mem_filter.mpr ⟨z', decide_eq_true (ne_of_none q hp)⟩, q'⟩
/-- a hidden object is written anew -/
theorem ext_grown {ρ2 : Rho} {H2 : Hp} {p : Addr} {o : HO} (xx : Ext ρ H ρ2 H2) (hp : H p = none) : Ext ρ H ρ2 (upd H2 p o) := by
  refine ⟨xx.pre, fun b u' pl n r => ?_, fun b u' pl n r => ?_, fun b o' z q => ?_, fun b hb => ?_⟩
  · obtain ⟨n', r'⟩ := xx.keep b u' pl n r
    exact ⟨n', by rw [upd_ne (ne_of_none r hp)]; exact r'⟩
  · obtain ⟨n', r'⟩ := xx.keepD b u' pl n r
    have ne : b ≠ p := fun e => by rcases r with r | ⟨_, r⟩ <;> (rw [e, hp] at r; cases r)
    refine ⟨n', ?_⟩
    rcases r' with r' | ⟨ob, r'⟩
    · exact .inl (by rw [upd_ne ne]; exact r')
    · exact .inr ⟨ob, by rw [upd_ne ne]; exact r'⟩
  · obtain ⟨z', q'⟩ := xx.lx b o' z q
    exact ⟨z', by rw [upd_ne (ne_of_none q hp)]; exact q'⟩
  · by_cases e : b = p
    · rw [e, upd_same]; exact fun z => nomatch z
    · rw [upd_ne e]; exact xx.there b hb
theorem de_gd1 (hK : C.K = X.K) (hw : C.w = X.w) (hu : X.A.units + 64 < cLine) (ha : DE C W X a fa) (hb : DE C W X b fb) : DE C W X (.Dict [some a] [b] pos) (gd1E fa fb) := by
  refine PE.imp (pe_gd1 hu ha hb) ?_
  rintro σ H Q ⟨ρ, g, m, re, rm, h⟩ p hp
  have x0 : Ext ρ H (ρ.hide p) (upd H p (GDo X.w p [])) := ext_hide hp
  refine ⟨ρ.hide p, g, m, re.ext x0, rm.hide hp, ?_⟩
  refine h.from x0 fun d1 m1 h1 ρ1 H1 x1 rm1 v1 r1 => ?_
  refine ⟨ρ1, g, m1, (re.ext x0).ext x1, rm1, ?_⟩
  refine h1.from (x0.trans x1) fun d2 m2 h2 ρ2 H2 x2 rm2 v2 r2 => ?_
  have xz := (x1.trans x2).lx p _ (show p ∈ (ρ.hide p).z from List.mem_cons_self) upd_same
  refine ⟨xz.2, ?_⟩
  split at h2
  · rename_i hk
    obtain ⟨ds, n1, rfl, en, hd⟩ := nk_tkey hk
    have r1' := r1.ext x2
    obtain ⟨k, ys, rfl, _⟩ := id r1'.tup_sq
    refine ⟨k, n1, rfl, keyAt_of hK r1' en hd, fun u ru => ?_⟩
    have g1 := rm2.grow (o := GDo X.w p [(n1, k, u)]) xz.1
    have xg : Ext ρ H (ρ2.out p) (upd H2 p (GDo X.w p [(n1, k, u)])) := ext_out (ext_grown ((x0.trans x1).trans x2) hp) hp xz.1
    have wk : ∀ {d v}, RepV C ρ2 H2 d v → RepV C (ρ2.out p) (upd H2 p (GDo X.w p [(n1, k, u)])) d v := fun r => show_ext.weak (fun b hb => (lives_out xz.1).mp hb) out_pre (r.grow xz.1)
    refine h2 (ρ2.out p) _ xg (g1.out xz.1 ⟨rfl, [(n1, k, u)], [v2], by rw [upd_same, hw], ⟨by simp [en], fun x hx => by rw [List.mem_singleton.mp hx]; exact hd⟩, .cons ru .nil, ?_, ?_⟩) _ ?_
    · simp only [List.map_cons, List.map_nil, RepL]
      exact ⟨_, [], rfl, wk r1', rfl⟩
    · simp only [RepL]
      exact ⟨_, [], rfl, wk r2, rfl⟩
    · simp only [RepV]
      refine ⟨p, rfl, true, ?_⟩
      show (ρ2.l ++ [(p, true)])[m2.length]? = _
      rw [← rm2.len, List.getElem?_append_right (Nat.le_refl _), Nat.sub_self]
      rfl
  · exact h2.elim
theorem ds_par3 {i j l : Nat} {x y z : Str} {px py pz pt : Pos} {kt k2 pt2} (hc : X.calm = true) (hN : X.N.Nodup) (hi : X.N[i]? = some x) (hj : X.N[j]? = some y) (hl : X.N[l]? = some z) (hij : i ≠ j) (hil : i ≠ l) (hjl : j ≠ l)
    (hx : X.env.scope.names.lookup x = some .local) (hy : X.env.scope.names.lookup y = some .local) (hz : X.env.scope.names.lookup z = some .local) (ha : DE C W X a fa) (hb : DE C W X b fb) (hcc : DE C W X c fc)
    (hw : swappedStores [.Tuple [.Name x px, .Name y py, .Name z pz] kt pt] (.Tuple [a, b, c] k2 pt2) X.env = pure (some [x, y, z]))
    (hs : swapsWithSole [.Tuple [.Name x px, .Name y py, .Name z pz] kt pt] (.Tuple [a, b, c] k2 pt2) pos.line X.env = pure false := by rfl)
    (s1 : starEach [a, b, c] X.env = (false, eval a X.env) :: starEach [b, c] X.env := by rfl) (s2 : starEach [b, c] X.env = (false, eval b X.env) :: starEach [c] X.env := by rfl) (s3 : starEach [c] X.env = (false, eval c X.env) :: starEach [] X.env := by rfl) :
    DS C W X (.Assign [.Tuple [.Name x px, .Name y py, .Name z pz] kt pt] (.Tuple [a, b, c] k2 pt2) pos) (par3S i j l fa fb fc) := by
  refine PS.imp (ps_par3 hc hN hi hj hl hij hil hjl hx hy hz (pa_cons ha (pa_cons hb (pa_cons hcc pa_nil s3) s2) s1) hw hs) ?_
  rintro N σ H ⟨ρ, g, m, re, rm, h⟩
  refine ⟨ρ, g, m, re, rm, h.bind.imp fun d1 m1 ρ1 H1 x1 rm1 h1 v1 r1 => ?_⟩
  refine ⟨ρ1, g, m1, re.ext x1, rm1, h1.bind.imp fun d2 m2 ρ2 H2 x2 rm2 h2 v2 r2 => ?_⟩
  refine ⟨ρ2, g, m2, (re.ext x1).ext x2, rm2, h2.bind.imp fun d3 m3 ρ3 H3 x3 rm3 h3 v3 r3 => ?_⟩
  refine ⟨v1, v2, v3, rfl, fin.now rm3 h3 _ ?_⟩
  exact ((((((re.ext x1).ext x2).ext x3).set (r1.ext (x2.trans x3)) i).set (r2.ext x3) j).set r3 l)
end
end LW
/-! LwI: dicts that nobody changes any more: walked by keys, values, items; d.get(k, x), d.setdefault(k, x). -/
namespace LW
open PySem PySem.Spec PyProof.Rows L2
section
variable {C : Cn} {W : XK} {X : Cx} {a b c : Expr} {fa fb fc : Ex} {pos : Pos} {ρ : Rho} {H : Hp} {m : Mem}
/-! ### from here on it does not change -/
theorem gdz_ok {P : Program} {w : World} {H : Hp} {h : Heap} {p : Addr} {o : Obj} {xs : List (NestedKey × Addr × Value)} (q : h.get? p = some o ∧ o.ExactDict ∧ (∃ es ep, o.data = .dict es ep ∧ es.toList = xs.map (fun x => (⟨x.1.hash w, .ref x.2.1, x.2.2⟩ : DictEntry))) ∧ (xs.map (·.1)).Nodup ∧ xs.length ≤ sizeLine ∧ (p == sysModules) = false) : ObjOk P w H h p (GDz w p o xs) :=
  ⟨q, ⟨o, q.1⟩, fun g1 g2 k st => ⟨st o k.1, k.2⟩⟩
theorem pss_frzG {sts : List Stmt} {t : TS} (h : PSs X sts t) : PSs X sts (fun N σ H => ∃ p xs, H p = some (GDo X.w p xs) ∧ ∀ o, t N σ (upd H p (GDz X.w p o xs))) := by
  refine ⟨fun pins s σ H N I q => ?_⟩
  obtain ⟨p, xs, e, q⟩ := q
  obtain ⟨⟨o, es, ep, h1, h2, h3, h4, h5, h6, h7⟩, _⟩ := I.hok p _ e
  have I1 : Inv X pins σ (upd H p (GDz X.w p o xs)) s := d_write (h' := s.heap) (t' := s.toks) I (by rw [e]; exact True.intro) ⟨rfl, fun _ _ => rfl⟩ ⟨o, h1⟩ (gdz_ok ⟨h1, h2, ⟨es, ep, h3, h4⟩, h5, h6, h7⟩)
  exact h.run pins s σ _ N I1 (q o)
theorem ext_coldG {n : Nat} {p : Addr} {u : HO} (rm : RepM C ρ H m) (hn : ρ.l[n]? = some (p, true)) : Ext ρ H (ρ.cold n p) (upd H p u) := by
  have hl : lives ρ p := .inl (List.mem_of_getElem? hn)
  have ne : ∀ {b : Addr}, ¬ lives ρ b → b ≠ p := fun h e => h (e ▸ hl)
  have x0 : Ext ρ H (ρ.cold n p) H := ext_cold hn
  refine ⟨x0.pre, fun b v pl nl r => ?_, fun b v pl nl r => ?_, fun b o z q => ⟨z, ?_⟩, fun b hb => ?_⟩
  · rw [upd_ne (ne nl)]; exact x0.keep b v pl nl r
  · obtain ⟨n1, r1⟩ := x0.keepD b v pl nl r
    refine ⟨n1, ?_⟩
    rcases r1 with r1 | ⟨o, r1⟩
    · exact .inl (by rw [upd_ne (ne nl)]; exact r1)
    · exact .inr ⟨o, by rw [upd_ne (ne nl)]; exact r1⟩
  · have : b ≠ p := fun e => by subst e; exact (rm.hid b z).2 (List.mem_of_getElem? hn)
    rw [upd_ne this]; exact q
  · by_cases e : b = p
    · rw [e, upd_same]; exact fun z => nomatch z
    · rw [upd_ne e]; exact hb
theorem RepM.coldG {n : Nat} {p : Addr} {u : HO} (rm : RepM C ρ H m) (hn : ρ.l[n]? = some (p, true)) : RepM C (ρ.cold n p) (upd H p u) (m.set n .gone) := by
  have x : Ext ρ H (ρ.cold n p) (upd H p u) := ext_coldG rm hn
  have r0 := rm.cold hn
  refine ⟨r0.len, fun k a l w h1 h2 => ?_, r0.dis, fun a z => ⟨x.there a (rm.hid a z).1, (r0.hid a z).2⟩⟩
  change (ρ.l.set n (p, false))[k]? = some (a, l) at h1
  by_cases e : n = k
  · subst e
    rw [List.getElem?_set_self (List.getElem?_eq_some_iff.mp hn).1] at h1
    rw [List.getElem?_set_self (by rw [← rm.len]; exact (List.getElem?_eq_some_iff.mp hn).1)] at h2
    cases h1
    cases h2
    rfl
  · rw [List.getElem?_set_ne e] at h1 h2
    refine (rm.obj k a l w h1 h2).ext x fun hl => upd_ne fun ea => ?_
    subst hl ea
    exact e (rm.dis n k a hn h1)
theorem dss_frzG {sts : List Stmt} {f : Sm} (hw : C.w = X.w) (i : Nat) (h : DSs C W X sts f) : DSs C W X sts (seqS (frzG i) f) := by
  refine PSs.imp (pss_frzG h) ?_
  rintro N σ H ⟨ρ, g, m, re, rm, h⟩
  simp only [seqS_eq, frzG] at h
  split at h
  · rename_i n e
    obtain ⟨v, hv, rv⟩ := re.at_ i _ e
    split at h
    · rename_i ks vs q
      obtain ⟨p, xs, vv, rfl, hn, ho, hks, hvs, rk, rvs⟩ := rm_gd rm rv q
      have ho' := ho
      rw [hw] at ho'
      refine ⟨p, xs, ho', fun o => ?_⟩
      rw [← hw]
      have x : Ext ρ H (ρ.cold n p) (upd H p (GDz C.w p o xs)) := ext_coldG rm hn
      simp only [R.bind_ok] at h
      refine ⟨_, _, _, ?_, rm.coldG hn, fin.ext x h⟩
      have re2 := (re.ext x).set (d := .gdz ks vs) (v := .ref p) (by simp only [RepV]; exact ⟨p, o, xs, vv, rfl, cold_not rm hn, upd_same, hks, hvs, rk.ext x, rvs.ext x⟩) i
      have : σ.set i (some (V.ref p)) = σ := by
        apply List.ext_getElem?
        intro j
        by_cases ej : i = j
        · subst ej
          rw [List.getElem?_set_self (List.getElem?_eq_some_iff.mp hv).1, hv]
        · rw [List.getElem?_set_ne ej]
      rw [this] at re2
      exact re2
    · exact h.elim
  · exact h.elim
/-! ### d.get(k, x) -/
theorem isnone_of {α β : Type} {x : Option α} (h : (none : Option β).isSome = x.isSome) : x = none := by cases x with | none => rfl | some _ => cases h
def tGetdG (X : Cx) (td ty tx : TE) : TE := fun σ H Q => td σ H fun x H1 => ∃ p xs, x = .ref p ∧ DicAt X H1 p xs ∧ ty σ H1 fun y H2 => tx σ H2 fun z H3 => ∃ (b : Addr) (n : NestedKey) (xs : List (NestedKey × Addr × Value)), y = .ref b ∧ KeyAt X H3 b n ∧ DicAt X H3 p xs ∧ (∀ q ∈ xs, KeyAt X H3 q.2.1 q.1) ∧
  ((∃ t v, atKey xs n = some t ∧ RelV v t.2 ∧ Q v H3) ∨ (atKey xs n = none ∧ Q z H3))
theorem dic_ty {pins : List (Addr × Obj)} {σ : St} {s : Shared} {p : Addr} {xs : List (NestedKey × Addr × Value)} (I : Inv X pins σ H s) (e : DicAt X H p xs) : s.TypeIs (.ref p) "dict" ∧ ∀ b, Value.ref p = .ref b → ∃ ob, s.heap.get? b = some ob ∧ ob.dict = none := by
  rcases e with e | ⟨o, e⟩
  · obtain ⟨⟨o, es, ep, h1, h2, _⟩, _⟩ := I.hok p _ e
    exact ⟨⟨o, h1, h2.1⟩, fun b q => by cases q; exact ⟨o, h1, h2.2.1⟩⟩
  · obtain ⟨⟨h1, h2, _⟩, _⟩ := I.hok p _ e
    exact ⟨⟨o, h1, h2.1⟩, fun b q => by cases q; exact ⟨o, h1, h2.2.1⟩⟩
theorem pe_getdG {apos cpos : Pos} {td ty tx : TE} (hu : X.A.units + 64 < cLine) (ho : PE X a td) (he : PE X b ty) (hf : PE X c tx) (mm : M2 X a "get" apos b c cpos) : PE X (.Call (.Attribute a "get" apos) [b, c] [] cpos) (tGetdG X td ty tx) := by
  refine ⟨fun pins s σ H Q I h => ?_⟩
  refine wpAny_Call_method mm.base mm.few mm.line PySem.F.plainAttrs_dict PySem.F.slot_dict_get PySem.F.type_dict_get (thn (ho.run pins s σ H _ I h) fun u s1 ⟨x, H1, I1, rx, p, xs0, ex, d, q1⟩ => ?_)
  subst ex
  obtain rfl : u = Value.ref p := rx
  obtain ⟨t1, t2⟩ := dic_ty I1 d
  refine ⟨t1, t2, ?_⟩
  rw [mm.trees]
  refine Calls.callWith_builtin rfl (Calls.evalArgs_plain (Calls.spliced_cons (thn (he.run pins s1 σ H1 _ I1 q1) fun iv s2 ⟨y, H2, I2, ry, q2⟩ =>
    Calls.spliced_cons (thn (hf.run pins s2 σ H2 _ I2 q2) fun fv s3 ⟨z, H3, I3, rz, q3⟩ => Calls.spliced_nil ?_))))
  obtain ⟨k, n, xs, ey, hk, e, hks, q⟩ := q3
  subst ey
  cases ry
  obtain ⟨dd, hz, hsy⟩ := dict_at I3 e hks
  refine call_meetsIn PySem.F.slot_dict_get dd.typeIs PySem.F.entry_dict_get (PySem.F.args_dict_get_3 _ _ _) (meetsH_dict_get_default (nestedKind X.prog X.w) p k hsy fv) ⟨show (X.A.in1).units + 8 < cLine by rw [Around.in1_units]; omega, n, xs, ⟨hk.2 pins σ s3 I3, hk.1⟩, dd, ?_⟩
  rcases q with ⟨t, v, ht, rv, q⟩ | ⟨ht, q⟩
  · rw [ht]
    exact ⟨v, H3, I3.tok _, rv, q⟩
  · rw [ht]
    exact ⟨z, H3, I3.tok _, rz, q⟩
theorem de_getdG {apos cpos : Pos} (hK : C.K = X.K) (hw : C.w = X.w) (hu : X.A.units + 64 < cLine) (ha : DE C W X a fa) (hb : DE C W X b fb) (hc : DE C W X c fc) (mm : M2 X a "get" apos b c cpos) : DE C W X (.Call (.Attribute a "get" apos) [b, c] [] cpos) (getdG fa fb fc) := by
  refine PE.imp (pe_getdG hu ha hb hc mm) ?_
  rintro σ H Q ⟨ρ, g, m, re, rm, h⟩
  refine ⟨ρ, g, m, re, rm, h.bind.imp fun d1 m1 ρ1 H1 x1 rm1 h1 v1 r1 => ?_⟩
  cases hc1 : gdOf m1 d1 with
  | none => rw [hc1] at h1; exact h1.elim
  | some c0 =>
    rw [hc1] at h1
    obtain ⟨p, xs, vv, rfl, ho, _⟩ := gd_at hw rm1 r1 hc1
    refine ⟨p, xs, rfl, ho, ρ1, g, m1, re.ext x1, rm1, h1.bind.imp fun d2 m2 ρ2 H2 x2 rm2 h2 v2 r2 => ?_⟩
    refine ⟨ρ2, g, m2, (re.ext x1).ext x2, rm2, h2.bind.imp fun d3 m3 ρ3 H3 x3 rm3 h3 v3 r3 => ?_⟩
    cases hc3 : gdOf m3 d1 with
    | none => rw [hc3] at h3; exact h3.elim
    | some c1 =>
      rw [hc3] at h3
      dsimp only at h3
      split at h3
      · rename_i hk
        obtain ⟨p', xs', vv', ep, ho', hks, hv, rk, rv⟩ := gd_at hw rm3 ((r1.ext x2).ext x3) hc3
        cases ep
        obtain ⟨ds, n1, rfl, en, hd⟩ := nk_tkey hk
        have r2' := r2.ext x3
        obtain ⟨k, ys, rfl, _⟩ := id r2'.tup_sq
        refine ⟨k, n1, xs', rfl, keyAt_of hK r2' en hd, ho', keysAt_of hK hks rk, ?_⟩
        have q := fin.now rm3 h3
        obtain ⟨f1, f2⟩ := find_at hks rv hv en
        cases hg : gfind (.tup ds) c1.1 c1.2 with
        | none =>
          rw [hg] at f1 q
          refine .inr ⟨isnone_of f1, q _ r3⟩
        | some d =>
          rw [hg] at q
          obtain ⟨b', u', v', e1, e2, e3⟩ := f2 d hg
          exact .inl ⟨(b', u'), v', e1, e2, q _ e3⟩
      · exact h3.elim
/-! ### d.setdefault(k, x) -/
def tSetdG (X : Cx) (td ty tx : TE) : TE := fun σ H Q => td σ H fun x H1 => ∃ p xs, x = .ref p ∧ DicAt X H1 p xs ∧ ty σ H1 fun y H2 => tx σ H2 fun z H3 => ∃ (b : Addr) (n : NestedKey) (xs : List (NestedKey × Addr × Value)), y = .ref b ∧ KeyAt X H3 b n ∧ H3 p = some (GDo X.w p xs) ∧ (∀ q ∈ xs, KeyAt X H3 q.2.1 q.1) ∧ xs.length < sizeLine ∧
  ((∃ t v, atKey xs n = some t ∧ RelV v t.2 ∧ Q v H3) ∨ (atKey xs n = none ∧ ∀ u, RelV z u → Q z (upd H3 p (GDo X.w p (storedH xs n b u)))))
theorem pe_setdG {apos cpos : Pos} {td ty tx : TE} (hu : X.A.units + 64 < cLine) (ho : PE X a td) (he : PE X b ty) (hf : PE X c tx) (mm : M2 X a "setdefault" apos b c cpos) : PE X (.Call (.Attribute a "setdefault" apos) [b, c] [] cpos) (tSetdG X td ty tx) := by
  refine ⟨fun pins s σ H Q I h => ?_⟩
  refine wpAny_Call_method mm.base mm.few mm.line PySem.F.plainAttrs_dict PySem.F.slot_dict_setdefault PySem.F.type_dict_setdefault (thn (ho.run pins s σ H _ I h) fun u s1 ⟨x, H1, I1, rx, p, xs0, ex, d, q1⟩ => ?_)
  subst ex
  obtain rfl : u = Value.ref p := rx
  obtain ⟨t1, t2⟩ := dic_ty I1 d
  refine ⟨t1, t2, ?_⟩
  rw [mm.trees]
  refine Calls.callWith_builtin rfl (Calls.evalArgs_plain (Calls.spliced_cons (thn (he.run pins s1 σ H1 _ I1 q1) fun iv s2 ⟨y, H2, I2, ry, q2⟩ =>
    Calls.spliced_cons (thn (hf.run pins s2 σ H2 _ I2 q2) fun fv s3 ⟨z, H3, I3, rz, q3⟩ => Calls.spliced_nil ?_))))
  obtain ⟨k, n, xs, ey, hk, e, hks, hl, q⟩ := q3
  subst ey
  cases ry
  obtain ⟨dd, hz, hsy⟩ := dict_of I3 e hks
  refine call_setdefault_heap (knd := nestedKind X.prog X.w) (hsz := hz) (show (X.A.in1).units + 8 < cLine by rw [Around.in1_units]; omega) ⟨hk.2 pins σ s3 I3, hk.1⟩ hsy dd (fun t ht => ?_) fun ht h' dd' sb => ?_
  · rcases q with ⟨t', v, ht', rv, q⟩ | ⟨ht', q⟩
    · rw [ht] at ht'
      cases ht'
      exact ⟨v, H3, I3.tok _, rv, q⟩
    · rw [ht] at ht'; cases ht'
  · rcases q with ⟨t', v, ht', rv, q⟩ | ⟨ht', q⟩
    · rw [ht] at ht'; cases ht'
    · have he : ∃ q, h'.get? p = some q := let ⟨q, _, _, hq, _⟩ := dd'; ⟨q, hq⟩
      have hl2 : (storedH xs n k fv).length ≤ sizeLine := by have := stored_len (xs := xs) (n := n) (b := k) (u := fv); omega
      exact ⟨z, _, d_write I3 (by rw [e]; exact True.intro) sb he (gd_ok dd' hl2 hsy), rz, q fv rz⟩
theorem de_setdG {apos cpos : Pos} (hK : C.K = X.K) (hw : C.w = X.w) (hu : X.A.units + 64 < cLine) (ha : DE C W X a fa) (hb : DE C W X b fb) (hc : DE C W X c fc) (mm : M2 X a "setdefault" apos b c cpos) : DE C W X (.Call (.Attribute a "setdefault" apos) [b, c] [] cpos) (setdG fa fb fc) := by
  refine PE.imp (pe_setdG hu ha hb hc mm) ?_
  rintro σ H Q ⟨ρ, g, m, re, rm, h⟩
  refine ⟨ρ, g, m, re, rm, h.bind.imp fun d1 m1 ρ1 H1 x1 rm1 h1 v1 r1 => ?_⟩
  cases d1 with
  | ref n =>
    dsimp only at h1
    cases hm : m1[n]? with
    | none => rw [hm] at h1; exact h1.elim
    | some o =>
      rw [hm] at h1
      cases o with
      | gd ks0 vs0 =>
        dsimp only at h1
        obtain ⟨p, xs, vv, rfl, hl, ho, _⟩ := rm_gd rm1 r1 hm
        rw [hw] at ho
        refine ⟨p, xs, rfl, .inl ho, ρ1, g, m1, re.ext x1, rm1, h1.bind.imp fun d2 m2 ρ2 H2 x2 rm2 h2 v2 r2 => ?_⟩
        refine ⟨ρ2, g, m2, (re.ext x1).ext x2, rm2, h2.bind.imp fun d3 m3 ρ3 H3 x3 rm3 h3 v3 r3 => ?_⟩
        cases hm3 : m3[n]? with
        | none => rw [hm3] at h3; exact h3.elim
        | some o3 =>
          rw [hm3] at h3
          cases o3 with
          | gd ks vs =>
            dsimp only at h3
            split at h3
            · rename_i hk
              rw [Bool.and_eq_true] at hk
              obtain ⟨hk, hlt⟩ := hk
              have hl' : ks.length < lim := by simpa [Nat.blt_eq] using hlt
              obtain ⟨p', xs', vv', ep, hl1, ho', hks, hv, rk, rv⟩ := rm_gd rm3 ((r1.ext x2).ext x3) hm3
              cases ep
              obtain ⟨ds, n1, rfl, en, hd⟩ := nk_tkey hk
              have r2' := r2.ext x3
              obtain ⟨k, ys, rfl, _⟩ := id r2'.tup_sq
              have hlx : xs'.length < sizeLine := by
                have := congrArg List.length hks.1
                rw [List.length_map, List.length_map] at this
                rw [← lim_eq]
                omega
              have ho2 := ho'
              rw [hw] at ho2
              refine ⟨k, n1, xs', rfl, keyAt_of hK r2' en hd, ho2, keysAt_of hK hks rk, hlx, ?_⟩
              obtain ⟨f1, f2⟩ := find_at hks rv hv en
              cases hg : gfind (.tup ds) ks vs with
              | none =>
                rw [hg] at f1 h3
                refine .inr ⟨isnone_of f1, fun u ru => ?_⟩
                obtain ⟨vv2, w1, w2, w3, w4⟩ := rep_put (p := p) en hd r2' r3 ru hks hv rk rv
                have xp : Ext ρ3 H3 ρ3 (upd H3 p (GDo C.w p (storedH xs' n1 k u))) := ext_put rm3 hl1
                rw [← hw]
                exact h3 ρ3 _ xp (rm3.put hl1 ⟨rfl, _, vv2, upd_same, w1, w2, w3.ext xp, w4.ext xp⟩) _ (r3.ext xp)
              | some d =>
                rw [hg] at h3
                obtain ⟨b', u', v', e1, e2, e3⟩ := f2 d hg
                exact .inl ⟨(b', u'), v', e1, e2, fin.now rm3 h3 _ e3⟩
            · exact h3.elim
          | _ => exact h3.elim
      | _ => exact h1.elim
  | _ => exact h1.elim
/-! ### walks -/
theorem gdz_raw {pins : List (Addr × Obj)} {σ : St} {s : Shared} {d : Addr} {o : Obj} {zs : List (NestedKey × Addr × Value)} {es : Array DictEntry} {ep : Nat} (I : Inv X pins σ H s) (h : H d = some (GDz X.w d o zs)) (hod : o.data = .dict es ep) :
    (d == sysModules) = false ∧ s.heap.DictRaw d es ep ∧ es.size = zs.length ∧ ∀ (i : Nat) z, zs[i]? = some z → ∃ hi : i < es.size, es[i].key = .ref z.2.1 ∧ es[i].val = z.2.2 := by
  obtain ⟨⟨h1, h2, ⟨es', ep', h3, h4⟩, h5, h6, h7⟩, _⟩ := I.hok d _ h
  obtain ⟨rfl, rfl⟩ := dict_ep h3 hod
  have hs : es.size = zs.length := by rw [← Array.length_toList, h4, List.length_map]
  refine ⟨h7, ⟨o, h1, h2, hod⟩, hs, fun i z hz => ?_⟩
  have hi : i < es.size := by rw [hs]; exact (List.getElem?_eq_some_iff.mp hz).1
  have e : es[i]? = some (⟨z.1.hash X.w, .ref z.2.1, z.2.2⟩ : DictEntry) := by
    rw [← Array.getElem?_toList, h4, List.getElem?_map, hz]
    rfl
  rw [Array.getElem?_eq_getElem hi] at e
  have e' := Option.some.inj e
  exact ⟨hi, by rw [e'], by rw [e']⟩
def ItGk (w : World) (d : Addr) (o : Obj) (zs : List (NestedKey × Addr × Value)) : It :=
  ⟨fun i H => H d = some (GDz w d o zs) ∧ i < zs.length, fun i H x H' => H' = H ∧ ∃ z, zs[i]? = some z ∧ x = .ref z.2.1, fun i H => H d = some (GDz w d o zs) ∧ zs.length ≤ i⟩
def ItGv (w : World) (d : Addr) (o : Obj) (zs : List (NestedKey × Addr × Value)) (vv : List V) : It :=
  ⟨fun i H => H d = some (GDz w d o zs) ∧ i < zs.length, fun i H x H' => H' = H ∧ vv[i]? = some x, fun i H => H d = some (GDz w d o zs) ∧ zs.length ≤ i⟩
def ItGi (w : World) (d : Addr) (o : Obj) (zs : List (NestedKey × Addr × Value)) (vv : List V) : It :=
  ⟨fun i H => H d = some (GDz w d o zs) ∧ i < zs.length, fun i H x H' => ∃ T z v, zs[i]? = some z ∧ vv[i]? = some v ∧ x = .ref T ∧ H T = none ∧ H' = upd H T (.tup [.ref z.2.1, v]), fun i H => H d = some (GDz w d o zs) ∧ zs.length ≤ i⟩
theorem vals_get {vv : List V} {us : List Value} (h : Vals vv us) : ∀ {i : Nat} {u : Value}, us[i]? = some u → ∃ v, vv[i]? = some v ∧ RelV v u := by
  induction h with
  | nil => intro i u e; simp at e
  | cons r rr ih =>
    intro i u e
    cases i with
    | zero => cases e; exact ⟨_, rfl, r⟩
    | succ i => exact ih e
section
variable {P : Program} {w : World} {K : PySem.W.Frag} {tg : Expr} {d : Addr} {o : Obj} {es : Array DictEntry} {ep : Nat} {zs : List (NestedKey × Addr × Value)} {vv : List V}
theorem turn_gk (it : Addr) (hod : o.data = .dict es ep) : Turn P w K tg (ItGk w d o zs) [it] it (fun i h => h.IsKeyIter it d i zs.length ep) where
  mem := by simp
  obj := fun i h st b hb => by
    have e : b = it := by simpa using hb
    subst e
    obtain ⟨oi, e, c, dd⟩ := st
    exact ⟨oi, e, fun v z => by rw [dd] at z; cases z⟩
  keep := fun i h h' st k => st.at fun oi e => k it (by simp) oi e
  item := by
    intro X hP hw hK hc i pins s σ H E I hf st hg
    subst hP hw hK
    obtain ⟨hd, hi⟩ := hg
    obtain ⟨f0, f1, f2, f3, f4, f5⟩ := hf it (by simp)
    obtain ⟨hs, raw, hsz, ent⟩ := gdz_raw I hd hod
    obtain ⟨z, hz⟩ : ∃ z, zs[i]? = some z := ⟨zs[i], List.getElem?_eq_getElem hi⟩
    obtain ⟨hi', hkey, _⟩ := ent i z hz
    rw [← hsz] at st
    refine wpAny_pyNext_keys_item_raw st raw hi' fun h' st' sb => ?_
    have I1 : Inv X pins σ H { s with heap := h' } := I.turned (t' := s.toks) (fun b ob hb e => (sb.2 b hb).trans e) f0 f1 f3 f4 f5
    obtain ⟨oi, e, c, dd⟩ := id st'
    rw [hsz] at st'
    exact ⟨es[i].key, rfl, go_of (s := { s with heap := h' }) e c dd (by decide) ⟨.ref z.2.1, H, I1, hkey, ⟨rfl, z, hz, rfl⟩, st', fun b hb => (hf b hb).1⟩⟩
  done := by
    intro X hP hw hK hc i pins s σ H E I hf st hg
    subst hP hw hK
    obtain ⟨hd, hi⟩ := hg
    obtain ⟨f0, f1, f2, f3, f4, f5⟩ := hf it (by simp)
    obtain ⟨hs, raw, hsz, ent⟩ := gdz_raw I hd hod
    rw [← hsz] at st hi
    exact wpAny_pyNext_keys_end_raw (I.ok.hd hc) st raw hi fun h' eb => ⟨rfl, I.turned (t' := s.toks) (fun b ob hb e => eb b ob hb e) f0 f1 f3 f4 f5⟩
  self := fun A i s Q E st h => by
    refine wpAny_pyIter_slot st.typeIs PySem.F.slot_dict_keyiterator_iter (wpAny_call_entry PySem.F.slot_dict_keyiterator_iter st.typeIs PySem.F.entry_dict_keyiterator_iter ?_ (PySem.F.args_dict_keyiterator_iter_1 _))
    show wpAny _ _ (ret (.ref it)) _ _ s
    exact wpAny_pure ⟨_, rfl, "dict_keyiterator", _, st.typeIs, PySem.F.slot_dict_keyiterator_next.lookup, h⟩
theorem turn_gv (it : Addr) (hod : o.data = .dict es ep) (hv : Vals vv (zs.map (·.2.2))) : Turn P w K tg (ItGv w d o zs vv) [it] it (fun i h => h.IsValIter it d i zs.length ep) where
  mem := by simp
  obj := fun i h st b hb => by
    have e : b = it := by simpa using hb
    subst e
    obtain ⟨oi, e, c, dd⟩ := st
    exact ⟨oi, e, fun v z => by rw [dd] at z; cases z⟩
  keep := fun i h h' st k => st.at fun oi e => k it (by simp) oi e
  item := by
    intro X hP hw hK hc i pins s σ H E I hf st hg
    subst hP hw hK
    obtain ⟨hd, hi⟩ := hg
    obtain ⟨f0, f1, f2, f3, f4, f5⟩ := hf it (by simp)
    obtain ⟨hs, raw, hsz, ent⟩ := gdz_raw I hd hod
    obtain ⟨z, hz⟩ : ∃ z, zs[i]? = some z := ⟨zs[i], List.getElem?_eq_getElem hi⟩
    obtain ⟨hi', _, hval⟩ := ent i z hz
    obtain ⟨v, hvv, rv⟩ := vals_get hv (i := i) (u := z.2.2) (by rw [List.getElem?_map, hz]; rfl)
    rw [← hsz] at st
    refine wpAny_pyNext_values_item_raw st raw hi' fun h' st' sb => ?_
    have I1 : Inv X pins σ H { s with heap := h' } := I.turned (t' := s.toks) (fun b ob hb e => (sb.2 b hb).trans e) f0 f1 f3 f4 f5
    obtain ⟨oi, e, c, dd⟩ := id st'
    rw [hsz] at st'
    exact ⟨es[i].val, rfl, go_of (s := { s with heap := h' }) e c dd (by decide) ⟨v, H, I1, by rw [hval]; exact rv, ⟨rfl, hvv⟩, st', fun b hb => (hf b hb).1⟩⟩
  done := by
    intro X hP hw hK hc i pins s σ H E I hf st hg
    subst hP hw hK
    obtain ⟨hd, hi⟩ := hg
    obtain ⟨f0, f1, f2, f3, f4, f5⟩ := hf it (by simp)
    obtain ⟨hs, raw, hsz, ent⟩ := gdz_raw I hd hod
    rw [← hsz] at st hi
    exact wpAny_pyNext_values_end_raw (I.ok.hd hc) st raw hi fun h' eb => ⟨rfl, I.turned (t' := s.toks) (fun b ob hb e => eb b ob hb e) f0 f1 f3 f4 f5⟩
  self := fun A i s Q E st h => wpAny_pyIter_valiter st h
theorem turn_gi {elts : List Expr} {kk : Nat} {tpos : Pos} (it : Addr) (hod : o.data = .dict es ep) (hv : Vals vv (zs.map (·.2.2))) :
    Turn P w K (.Tuple elts kk tpos) (ItGi w d o zs vv) [it] it (fun i h => ∃ ok ov, IsItemIter h it d i zs.length ep ok ov) where
  mem := by simp
  obj := fun i h st b hb => by
    have e : b = it := by simpa using hb
    subst e
    obtain ⟨ok, ov, e⟩ := st
    exact ⟨_, e, fun v z => nomatch z⟩
  keep := fun i h h' st k => let ⟨ok, ov, e⟩ := st; ⟨ok, ov, k it (by simp) _ e⟩
  item := by
    intro X hP hw hK hc i pins s σ H E I hf st hg
    subst hP hw hK
    obtain ⟨hd, hi⟩ := hg
    obtain ⟨hs, raw, hsz, ent⟩ := gdz_raw I hd hod
    obtain ⟨z, hz⟩ : ∃ z, zs[i]? = some z := ⟨zs[i], List.getElem?_eq_getElem hi⟩
    obtain ⟨hi', hkey, hval⟩ := ent i z hz
    obtain ⟨v, hvv, rv⟩ := vals_get hv (i := i) (u := z.2.2) (by rw [List.getElem?_map, hz]; rfl)
    obtain ⟨ok, ov, he⟩ := st
    rw [← hsz] at he
    have hlt : it < s.heap.objs.size := Heap.lt_size he
    refine wpAny_pyNext_items_item_raw he raw hi' fun h' ho hT hz' hk => ?_
    refine ⟨_, rfl, wpAny_letOwnedTupleGo_items (s := { s with heap := h' }) ho fun h'' he' sb => ?_⟩
    have hT2 : h''.get? s.heap.objs.size = some { cls := .type "tuple", data := .seq #[es[i].key, es[i].val] } := (sb.2 _ (Nat.ne_of_gt hlt)).trans hT
    have new : ObjOk X.prog X.w (upd H s.heap.objs.size (.tup [.ref z.2.1, v])) h'' s.heap.objs.size (.tup [.ref z.2.1, v]) :=
      ⟨by show 2 ≤ sizeLine; decide, [es[i].key, es[i].val], .cons hkey (.cons (by rw [hval]; exact rv) .nil), ⟨_, hT2, rfl, _, rfl⟩⟩
    have I1 : Inv X pins σ (upd H s.heap.objs.size (.tup [.ref z.2.1, v])) { s with heap := h'' } :=
      I.turnedNew (t' := s.toks) (ch := [it]) (fun b ob hb e => (sb.2 b (by simpa using hb)).trans (hk b ob (by simpa using hb) e)) hf (Nat.le_refl _) new
    refine ⟨.ref s.heap.objs.size, _, I1, rfl, ⟨_, z, v, hz, hvv, rfl, I.hok.fresh (Nat.le_refl _), rfl⟩, ⟨es[i].key, es[i].val, ?_⟩, fun b hb => ?_⟩
    · rw [← hsz]; exact he'
    · have e : b = it := by simpa using hb
      rw [e, upd_ne (Nat.ne_of_lt hlt)]
      exact (hf it (by simp)).1
  done := by
    intro X hP hw hK hc i pins s σ H E I hf st hg
    subst hP hw hK
    obtain ⟨hd, hi⟩ := hg
    obtain ⟨f0, f1, f2, f3, f4, f5⟩ := hf it (by simp)
    obtain ⟨hs, raw, hsz, ent⟩ := gdz_raw I hd hod
    obtain ⟨ok, ov, he⟩ := st
    rw [← hsz] at he hi
    exact wpAny_pyNext_items_end_raw (I.ok.hd hc) he raw hi fun h' eb => ⟨rfl, I.turned (t' := s.toks) (fun b ob hb e => eb b ob hb e) f0 f1 f3 f4 f5⟩
  self := fun A i s Q E st h => let ⟨_, _, e⟩ := st; PySem.W.kcp_self e h
end
def iGk (X : Cx) (td : TE) : TI := fun σ H R => td σ H fun x H1 => ∃ d o zs, x = .ref d ∧ H1 d = some (GDz X.w d o zs) ∧ R (ItGk X.w d o zs) H1
def iGv (X : Cx) (td : TE) : TI := fun σ H R => td σ H fun x H1 => ∃ d o zs vv, x = .ref d ∧ H1 d = some (GDz X.w d o zs) ∧ Vals vv (zs.map (·.2.2)) ∧ R (ItGv X.w d o zs vv) H1
def iGi (X : Cx) (td : TE) : TI := fun σ H R => td σ H fun x H1 => ∃ d o zs vv, x = .ref d ∧ H1 d = some (GDz X.w d o zs) ∧ Vals vv (zs.map (·.2.2)) ∧ R (ItGi X.w d o zs vv) H1
section
variable {tg e : Expr} {td : TE} {apos cpos : Pos}
theorem gdz_ep {pins : List (Addr × Obj)} {σ : St} {s : Shared} {d : Addr} {o : Obj} {zs : List (NestedKey × Addr × Value)} (I : Inv X pins σ H s) (h : H d = some (GDz X.w d o zs)) : ∃ es ep, o.data = .dict es ep := by
  obtain ⟨⟨_, _, ⟨es, ep, h3, _⟩, _⟩, _⟩ := I.hok d _ h
  exact ⟨es, ep, h3⟩
theorem pi_gk (he : PE X e td) : PI X tg e (iGk X td) := by
  refine ⟨fun pins s σ H R I h => ?_⟩
  refine thn (he.run pins s σ H _ I h) fun u s1 ⟨x, H1, I1, rx, d, o, zs, ex, hd, q⟩ => ?_
  subst ex
  obtain rfl : u = Value.ref d := rx
  obtain ⟨es, ep, hod⟩ := gdz_ep I1 hd
  obtain ⟨hs, raw, hsz, ent⟩ := gdz_raw I1 hd hod
  refine wpAny_pyIter_dict_raw hs raw (pi_one (tk := s1.toks) I1 _ (turn_gk _ hod) ⟨_, Heap.get?_push_size _ rfl, rfl, ?_⟩ q)
  rw [hsz] <;> rfl
theorem pi_gv (he : PE X e td) (hbase : attributeBase e "values" X.env (eval e X.env) = eval e X.env := by rfl) (hline : (apos.endLine == cpos.line) = true := by rfl) : PI X tg (.Call (.Attribute e "values" apos) [] [] cpos) (iGv X td) := by
  refine ⟨fun pins s σ H R I h => ?_⟩
  refine wpAny_Call_method (T := "dict") (id := "dict.values") hbase rfl hline PySem.F.plainAttrs_dict PySem.F.slot_dict_values PySem.F.type_dict_values (thn (he.run pins s σ H _ I h) fun u s1 ⟨x, H1, I1, rx, d, o, zs, vv, ex, hd, hv, q⟩ => ?_)
  subst ex
  obtain rfl : u = Value.ref d := rx
  obtain ⟨es, ep, hod⟩ := gdz_ep I1 hd
  obtain ⟨hs, raw, hsz, ent⟩ := gdz_raw I1 hd hod
  obtain ⟨t1, t2⟩ := dic_ty I1 (.inr ⟨o, hd⟩)
  refine ⟨t1, t2, ?_⟩
  have I2 : Inv X pins σ H1 { s1 with heap := s1.heap.push { cls := .type "dict_values", data := .fields #[.ref d] } } := I1.kept (t' := s1.toks) fun b ob q => Heap.get?_push_of_some _ q
  have fin : wpAny (model X.prog X.w) X.A (pyIter (.ref s1.heap.objs.size)) (PIE X pins σ tg R) X.xe { s1 with heap := s1.heap.push { cls := .type "dict_values", data := .fields #[.ref d] } } := by
    refine wpAny_pyIter_values_raw (d := d) ⟨_, Heap.get?_push_size _ rfl, rfl, rfl⟩ (raw.at fun _ q => Heap.get?_push_of_some _ q) (pi_one (tk := s1.toks) I2 _ (turn_gv _ hod hv) ⟨_, Heap.get?_push_size _ rfl, rfl, ?_⟩ q)
    rw [hsz] <;> rfl
  show wpAny _ _ (callWith cpos (.builtin "dict.values") [.ref d] [] []) _ X.xe s1
  exact method_meetsIn PySem.F.slot_dict_values PySem.F.entry_dict_values rfl (PySem.evalArgs_none ⟨rfl, t1, PySem.F.args_dict_values_1 _, _, meets_dict_values_raw d hs, ⟨es, ep, raw⟩, fin⟩)
theorem pi_gi {elts : List Expr} {kk : Nat} {tpos : Pos} (he : PE X e td) (hbase : attributeBase e "items" X.env (eval e X.env) = eval e X.env := by rfl) (hline : (apos.endLine == cpos.line) = true := by rfl) :
    PI X (.Tuple elts kk tpos) (.Call (.Attribute e "items" apos) [] [] cpos) (iGi X td) := by
  refine ⟨fun pins s σ H R I h => ?_⟩
  refine wpAny_Call_method (T := "dict") (id := "dict.items") hbase rfl hline PySem.F.plainAttrs_dict PySem.F.slot_dict_items PySem.F.type_dict_items (thn (he.run pins s σ H _ I h) fun u s1 ⟨x, H1, I1, rx, d, o, zs, vv, ex, hd, hv, q⟩ => ?_)
  subst ex
  obtain rfl : u = Value.ref d := rx
  obtain ⟨es, ep, hod⟩ := gdz_ep I1 hd
  obtain ⟨hs, raw, hsz, ent⟩ := gdz_raw I1 hd hod
  obtain ⟨t1, t2⟩ := dic_ty I1 (.inr ⟨o, hd⟩)
  refine ⟨t1, t2, ?_⟩
  have I2 : Inv X pins σ H1 { s1 with heap := s1.heap.push { cls := .type "dict_items", data := .fields #[.ref d] } } := I1.kept (t' := s1.toks) fun b ob q => Heap.get?_push_of_some _ q
  have fin : wpAny (model X.prog X.w) X.A (pyIter (.ref s1.heap.objs.size)) (PIE X pins σ (.Tuple elts kk tpos) R) X.xe { s1 with heap := s1.heap.push { cls := .type "dict_items", data := .fields #[.ref d] } } := by
    refine wpAny_pyIter_items_raw (d := d) ⟨_, Heap.get?_push_size _ rfl, rfl, rfl⟩ (raw.at fun _ q => Heap.get?_push_of_some _ q) (pi_one (tk := s1.toks) I2 _ (turn_gi _ hod hv) ⟨.none, .none, ?_⟩ q)
    rw [← hsz]
    exact Heap.get?_push_size _ rfl
  show wpAny _ _ (callWith cpos (.builtin "dict.items") [.ref d] [] []) _ X.xe s1
  exact method_meetsIn PySem.F.slot_dict_items PySem.F.entry_dict_items rfl (PySem.evalArgs_none ⟨rfl, t1, PySem.F.args_dict_items_1 _, _, meets_dict_items_raw d hs, ⟨es, ep, raw⟩, fin⟩)
end
section
variable {tg : Expr} {apos cpos : Pos}
theorem di_gk (hw : C.w = X.w) (ha : DE C W X a fa) : DI C W X tg a (itK fa) := by
  refine PI.imp (pi_gk ha) ?_
  rintro σ H R ⟨ρ, g, m, re, rm, h⟩
  refine ⟨ρ, g, m, re, rm, h.bind.imp fun d m1 ρ1 H1 x1 rm1 h1 v r => ?_⟩
  cases d with
  | gdz ks vs =>
    obtain ⟨p, o, xs, vv, rfl, nl, ho, hks, hv, rk, rv⟩ := gdz_at r
    have ho' := ho
    rw [hw] at ho'
    refine ⟨p, o, xs, rfl, ho', fin.now rm1 h1 _ ?_⟩
    intro ρ3 H3 i m3 x3 rm3
    have k3 := (x3.keep p (GDz C.w p o xs) trivial nl ho).2
    rw [hw] at k3
    have rk3 := rk.ext x3
    have hl : ks.length = xs.length := by rw [rk.length, List.length_map]
    refine ⟨fun hi => ⟨k3, by omega⟩, fun d' hd => ?_⟩
    obtain ⟨v', ev, r'⟩ := rk3.get hd
    rw [List.getElem?_map] at ev
    obtain ⟨z, hz, e2⟩ := Option.map_eq_some_iff.mp ev
    refine ⟨⟨k3, (List.getElem?_eq_some_iff.mp hz).1⟩, fun y H4 hy4 => ?_⟩
    obtain ⟨rfl, z', hz', rfl⟩ := hy4
    rw [hz] at hz'
    cases hz'
    subst e2
    exact ⟨Same.refl _, r'⟩
  | _ => exact h1.elim
theorem di_gv (hw : C.w = X.w) (ha : DE C W X a fa) (hbase : attributeBase a "values" X.env (eval a X.env) = eval a X.env := by rfl) (hline : (apos.endLine == cpos.line) = true := by rfl) : DI C W X tg (.Call (.Attribute a "values" apos) [] [] cpos) (itV fa) := by
  refine PI.imp (pi_gv ha hbase hline) ?_
  rintro σ H R ⟨ρ, g, m, re, rm, h⟩
  refine ⟨ρ, g, m, re, rm, h.bind.imp fun d m1 ρ1 H1 x1 rm1 h1 v r => ?_⟩
  cases d with
  | gdz ks vs =>
    obtain ⟨p, o, xs, vv, rfl, nl, ho, hks, hv, rk, rv⟩ := gdz_at r
    have ho' := ho
    rw [hw] at ho'
    refine ⟨p, o, xs, vv, rfl, ho', hv, fin.now rm1 h1 _ ?_⟩
    intro ρ3 H3 i m3 x3 rm3
    have k3 := (x3.keep p (GDz C.w p o xs) trivial nl ho).2
    rw [hw] at k3
    have rv3 := rv.ext x3
    have hl : vs.length = xs.length := by rw [rv.length, hv.length, List.length_map]
    refine ⟨fun hi => ⟨k3, by omega⟩, fun d' hd => ?_⟩
    obtain ⟨v', ev, r'⟩ := rv3.get hd
    refine ⟨⟨k3, by rw [← hl]; exact (List.getElem?_eq_some_iff.mp hd).1⟩, fun y H4 hy4 => ?_⟩
    obtain ⟨rfl, hz'⟩ := hy4
    rw [ev] at hz'
    cases hz'
    exact ⟨Same.refl _, r'⟩
  | _ => exact h1.elim
theorem di_gi {elts : List Expr} {kk : Nat} {tpos : Pos} (hw : C.w = X.w) (ha : DE C W X a fa) (hbase : attributeBase a "items" X.env (eval a X.env) = eval a X.env := by rfl) (hline : (apos.endLine == cpos.line) = true := by rfl) : DI C W X (.Tuple elts kk tpos) (.Call (.Attribute a "items" apos) [] [] cpos) (itI fa) := by
  refine PI.imp (pi_gi ha hbase hline) ?_
  rintro σ H R ⟨ρ, g, m, re, rm, h⟩
  refine ⟨ρ, g, m, re, rm, h.bind.imp fun d m1 ρ1 H1 x1 rm1 h1 v r => ?_⟩
  cases d with
  | gdz ks vs =>
    obtain ⟨p, o, xs, vv, rfl, nl, ho, hks, hv, rk, rv⟩ := gdz_at r
    have ho' := ho
    rw [hw] at ho'
    refine ⟨p, o, xs, vv, rfl, ho', hv, fin.now rm1 h1 _ ?_⟩
    intro ρ3 H3 i m3 x3 rm3
    have k3 := (x3.keep p (GDz C.w p o xs) trivial nl ho).2
    rw [hw] at k3
    have rk3 := rk.ext x3
    have rv3 := rv.ext x3
    have hl : vs.length = xs.length := by rw [rv.length, hv.length, List.length_map]
    have hl2 : ks.length = xs.length := by rw [rk.length, List.length_map]
    refine ⟨fun hi => ⟨k3, by rw [List.length_zipWith] at hi; omega⟩, fun d' hd => ?_⟩
    rw [List.getElem?_zipWith] at hd
    cases h1k : ks[i]? with
    | none => rw [h1k] at hd; cases hd
    | some dk =>
      rw [h1k] at hd
      cases h1v : vs[i]? with
      | none => rw [h1v] at hd; cases hd
      | some dv =>
        rw [h1v] at hd
        cases hd
        obtain ⟨vk, ek, rk'⟩ := rk3.get h1k
        obtain ⟨vv', ev, rv'⟩ := rv3.get h1v
        rw [List.getElem?_map] at ek
        obtain ⟨z, hz, e2⟩ := Option.map_eq_some_iff.mp ek
        subst e2
        refine ⟨⟨k3, (List.getElem?_eq_some_iff.mp hz).1⟩, fun y H4 hy4 => ?_⟩
        obtain ⟨T, z', v', hz', hv', rfl, nT, rfl⟩ := hy4
        rw [hz] at hz'
        cases hz'
        rw [ev] at hv'
        cases hv'
        exact ⟨same_upd nT, rep_tup rm3 nT (by simp only [RepL]; exact ⟨_, _, rfl, rk', _, _, rfl, rv', rfl⟩)⟩
  | _ => exact h1.elim
end
end
end LW
/-! LwJ: min of a list; text.index(sign). -/
namespace LW
open PySem PySem.Spec PyProof.Rows L2
section
variable {C : Cn} {W : XK} {X : Cx} {a b c o e : Expr} {fa fb fc : Ex} {pos : Pos} {ρ : Rho} {H : Hp} {m : Mem}
/-! ### of one kind -/
mutual
theorem alk_sh : ∀ (k : Nat) (x y : D), D.alk k x y = true → D.sh k x = true ∧ D.sh k y = true
  | k, .int i, y, h => by
    cases y with
    | int j => cases k <;> exact ⟨by simp [D.sh], by simp [D.sh]⟩
    | _ => cases k <;> simp [D.alk] at h
  | k, .str s, y, h => by
    cases y with
    | str j => cases k <;> exact ⟨by simp [D.sh], by simp [D.sh]⟩
    | _ => cases k <;> simp [D.alk] at h
  | 0, .tup xs, y, h => by cases y <;> simp [D.alk] at h
  | k + 1, .tup xs, y, h => by
    cases y with
    | tup ys =>
      simp only [D.alk] at h
      simp only [D.sh]
      exact alk_shL k xs ys h
    | _ => simp [D.alk] at h
  | k, .non, y, h => by cases k <;> simp [D.alk] at h
  | k, .bl _, y, h => by cases k <;> simp [D.alk] at h
  | k, .lst _, y, h => by cases k <;> simp [D.alk] at h
  | k, .dct _ _, y, h => by cases k <;> simp [D.alk] at h
  | k, .gdz _ _, y, h => by cases k <;> simp [D.alk] at h
  | k, .tpx _, y, h => by cases k <;> simp [D.alk] at h
  | k, .scr _, y, h => by cases k <;> simp [D.alk] at h
  | k, .ref _, y, h => by cases k <;> simp [D.alk] at h
  | k, .ty _, y, h => by cases k <;> simp [D.alk] at h
  | k, .fn _, y, h => by cases k <;> simp [D.alk] at h
  | k, .exc _, y, h => by cases k <;> simp [D.alk] at h
theorem alk_shL : ∀ (k : Nat) (xs ys : List D), D.alkL k xs ys = true → D.shL k xs = true ∧ D.shL k ys = true
  | k, [], ys, h => by
    cases ys with
    | nil => cases k <;> exact ⟨by simp [D.shL], by simp [D.shL]⟩
    | cons y ys => cases k <;> simp [D.alkL] at h
  | k, x :: xs, ys, h => by
    cases ys with
    | nil => cases k <;> simp [D.alkL] at h
    | cons y ys =>
      have h' : (D.alk k x y && D.alkL k xs ys) = true := by cases k <;> simpa [D.alkL] using h
      rw [Bool.and_eq_true] at h'
      obtain ⟨a1, a2⟩ := alk_sh k x y h'.1
      obtain ⟨b1, b2⟩ := alk_shL k xs ys h'.2
      exact ⟨by cases k <;> simp [D.shL, a1, b1], by cases k <;> simp [D.shL, a2, b2]⟩
end
mutual
theorem alk_al : ∀ (k : Nat) (x y z : D), D.alk k x y = true → D.alk k x z = true → PySem.W.alike (toPd y) (toPd z) = true ∧ toPd y ≠ .none
  | k, .int i, y, z, h, h2 => by
    cases y with
    | int j =>
      cases z with
      | int j => exact ⟨by simp [toPd, PySem.W.alike], by simp [toPd]⟩
      | _ => cases k <;> simp [D.alk] at h2
    | _ => cases k <;> simp [D.alk] at h
  | k, .str s, y, z, h, h2 => by
    cases y with
    | str j =>
      cases z with
      | str j => exact ⟨by simp [toPd, PySem.W.alike], by simp [toPd]⟩
      | _ => cases k <;> simp [D.alk] at h2
    | _ => cases k <;> simp [D.alk] at h
  | 0, .tup xs, y, z, h, h2 => by cases y <;> simp [D.alk] at h
  | k + 1, .tup xs, y, z, h, h2 => by
    cases y with
    | tup ys =>
      cases z with
      | tup zs =>
        simp only [D.alk] at h h2
        refine ⟨?_, by simp [toPd]⟩
        simp only [toPd, PySem.W.alike]
        exact alk_alL k xs ys zs h h2
      | _ => simp [D.alk] at h2
    | _ => simp [D.alk] at h
  | k, .non, y, z, h, _ => by cases k <;> simp [D.alk] at h
  | k, .bl _, y, z, h, _ => by cases k <;> simp [D.alk] at h
  | k, .lst _, y, z, h, _ => by cases k <;> simp [D.alk] at h
  | k, .dct _ _, y, z, h, _ => by cases k <;> simp [D.alk] at h
  | k, .gdz _ _, y, z, h, _ => by cases k <;> simp [D.alk] at h
  | k, .tpx _, y, z, h, _ => by cases k <;> simp [D.alk] at h
  | k, .scr _, y, z, h, _ => by cases k <;> simp [D.alk] at h
  | k, .ref _, y, z, h, _ => by cases k <;> simp [D.alk] at h
  | k, .ty _, y, z, h, _ => by cases k <;> simp [D.alk] at h
  | k, .fn _, y, z, h, _ => by cases k <;> simp [D.alk] at h
  | k, .exc _, y, z, h, _ => by cases k <;> simp [D.alk] at h
theorem alk_alL : ∀ (k : Nat) (xs ys zs : List D), D.alkL k xs ys = true → D.alkL k xs zs = true → PySem.W.alikeAll (toPdL ys) (toPdL zs) = true
  | k, [], ys, zs, h, h2 => by
    cases ys with
    | nil => simp [toPdL, PySem.W.alikeAll]
    | cons y ys => cases k <;> simp [D.alkL] at h
  | k, x :: xs, ys, zs, h, h2 => by
    cases ys with
    | nil => cases k <;> simp [D.alkL] at h
    | cons y ys =>
      cases zs with
      | nil => cases k <;> simp [D.alkL] at h2
      | cons z zs =>
        have h' : (D.alk k x y && D.alkL k xs ys) = true := by cases k <;> simpa [D.alkL] using h
        have h2' : (D.alk k x z && D.alkL k xs zs) = true := by cases k <;> simpa [D.alkL] using h2
        rw [Bool.and_eq_true] at h' h2'
        simp only [toPdL, PySem.W.alikeAll, (alk_al k x y z h'.1 h2'.1).1, alk_alL k xs ys zs h'.2 h2'.2, Bool.and_self]
end
mutual
theorem lt_pd : ∀ (k : Nat) (x y z : D), D.alk k x y = true → D.alk k x z = true → PySem.W.dataLt (toPd y) (toPd z) = D.lt y z
  | k, .int i, y, z, h, h2 => by
    cases y with
    | int j =>
      cases z with
      | int j => simp only [toPd, D.lt]; exact PySem.W.dataLt_int _ _
      | _ => cases k <;> simp [D.alk] at h2
    | _ => cases k <;> simp [D.alk] at h
  | k, .str s, y, z, h, h2 => by
    cases y with
    | str j =>
      cases z with
      | str j => simp only [toPd, D.lt]; rw [PySem.W.dataLt_str]
      | _ => cases k <;> simp [D.alk] at h2
    | _ => cases k <;> simp [D.alk] at h
  | 0, .tup xs, y, z, h, h2 => by cases y <;> simp [D.alk] at h
  | k + 1, .tup xs, y, z, h, h2 => by
    cases y with
    | tup ys =>
      cases z with
      | tup zs =>
        simp only [D.alk] at h h2
        simp only [toPd, D.lt]
        rw [PySem.W.dataLt_tuple]
        exact lt_pdL k xs ys zs h h2
      | _ => simp [D.alk] at h2
    | _ => simp [D.alk] at h
  | k, .non, y, z, h, _ => by cases k <;> simp [D.alk] at h
  | k, .bl _, y, z, h, _ => by cases k <;> simp [D.alk] at h
  | k, .lst _, y, z, h, _ => by cases k <;> simp [D.alk] at h
  | k, .dct _ _, y, z, h, _ => by cases k <;> simp [D.alk] at h
  | k, .gdz _ _, y, z, h, _ => by cases k <;> simp [D.alk] at h
  | k, .tpx _, y, z, h, _ => by cases k <;> simp [D.alk] at h
  | k, .scr _, y, z, h, _ => by cases k <;> simp [D.alk] at h
  | k, .ref _, y, z, h, _ => by cases k <;> simp [D.alk] at h
  | k, .ty _, y, z, h, _ => by cases k <;> simp [D.alk] at h
  | k, .fn _, y, z, h, _ => by cases k <;> simp [D.alk] at h
  | k, .exc _, y, z, h, _ => by cases k <;> simp [D.alk] at h
theorem lt_pdL : ∀ (k : Nat) (xs ys zs : List D), D.alkL k xs ys = true → D.alkL k xs zs = true → PyProof.Rows.lexLt itemOrd (PySem.W.keyToksAll (toPdL ys)) (PySem.W.keyToksAll (toPdL zs)) = D.ltL ys zs
  | k, [], ys, zs, h, h2 => by
    cases ys with
    | cons y ys => cases k <;> simp [D.alkL] at h
    | nil =>
      cases zs with
      | cons z zs => cases k <;> simp [D.alkL] at h2
      | nil => simp only [toPdL, D.ltL]; decide
  | k, x :: xs, ys, zs, h, h2 => by
    cases ys with
    | nil => cases k <;> simp [D.alkL] at h
    | cons y ys =>
      cases zs with
      | nil => cases k <;> simp [D.alkL] at h2
      | cons z zs =>
        have h' : (D.alk k x y && D.alkL k xs ys) = true := by cases k <;> simpa [D.alkL] using h
        have h2' : (D.alk k x z && D.alkL k xs zs) = true := by cases k <;> simpa [D.alkL] using h2
        rw [Bool.and_eq_true] at h' h2'
        have al := (alk_al k x y z h'.1 h2'.1).1
        have ev : PyData.eqv (toPd y) (toPd z) = D.eqv y z := eqv_pd k k y z (alk_sh k x y h'.1).2 (alk_sh k x z h2'.1).2
        simp only [toPdL, D.ltL]
        cases hq : D.eqv y z with
        | true =>
          rw [PySem.W.dataLt_all_yes al (ev.trans hq)]
          simp only [if_true]
          exact lt_pdL k xs ys zs h'.2 h2'.2
        | false =>
          rw [PySem.W.dataLt_all_no al (ev.trans hq)]
          simp only [Bool.false_eq_true, if_false]
          exact lt_pd k x y z h'.1 h2'.1
end
/-! ### min -/
def bestI (p : PyData) (ps : List PyData) : Nat := argBest (fun i j => PySem.W.dataLt ((p :: ps).getD i .none) ((p :: ps).getD j .none)) ps.length
def rMinD (K : PySem.W.Frag) : List V → Hp → VK → Prop := fun xs H Q => ∃ (a : Addr) (vs : List V) (p : PyData) (ps : List PyData), xs = [.ref a] ∧ SqL K H a vs ∧ DpAll K H vs (p :: ps) ∧ PySem.W.AlikeAll (p :: ps) ∧ PyData.depthAll (p :: ps) ≤ 60 ∧ ∀ v, vs[bestI p ps]? = some v → Q v H
theorem cr_minD (hc : X.calm = true) (hu : X.A.units + 64 < cLine) : CallR X (.builtin "min") (rMinD X.K) := by
  intro pins s σ H xs us Q I r h
  obtain ⟨l, vs, p, ps, rfl, sq, dp, al, dep, q⟩ := h
  obtain ⟨its, rv, hl, _⟩ := I.list sq
  rw [Vals.ref1 r]
  obtain ⟨as, hr⟩ := Dp.readsAll I _ _ _ dp rv
  have hr' : ReadsAll s.heap (its.toArray).toList (p :: ps) as := by simpa using hr
  have hn : (its.toArray).size = ps.length + 1 := PySem.W.readsAll_len hr'
  refine call_min_walkH (PySem.W.iter_listW (A := X.A.in1) (vs := its.toArray) (I.ok.hd hc) hl.isList fun s₂ e W st hfp hw hk => ?_)
  refine ⟨_, _, _, _, _, _, _, s.heap, _, rfl, W, st, hfp, by omega, hw, hk, PySem.W.cmpIn_lt (A := X.A.in1) hr' al (by rw [Around.in1_units]; omega), fun v s' hP mv => ?_⟩
  obtain ⟨h', tk, rfl, hk'⟩ := PySem.W.moved_old e rfl mv
  have e1 : (its.toArray).size - 1 = ps.length := by omega
  rw [e1] at hP
  have hP' : its[bestI p ps]? = some v := by
    rw [← hP]; simp [bestI]
  obtain ⟨x, hx, rx⟩ := vals_get rv hP'
  exact ⟨x, H, I.kept (t' := tk) hk', rx, q x hx⟩
theorem toPdL_get (d : D) : ∀ (ds : List D) (i : Nat), i < ds.length → (toPdL ds).getD i .none = toPd (ds.getD i d)
  | [], i, h => by simp at h
  | x :: xs, 0, _ => rfl
  | x :: xs, i + 1, h => by
    simp only [toPdL, List.getD_cons_succ]
    exact toPdL_get d xs i (by simpa using h)
theorem toPdL_len : ∀ ds : List D, (toPdL ds).length = ds.length
  | [] => rfl
  | d :: ds => by simp [toPdL, toPdL_len ds]
theorem argBest_le (bt : Nat → Nat → Bool) : ∀ k, argBest bt k ≤ k
  | 0 => Nat.le_refl _
  | k + 1 => by
    rw [argBest]
    split
    · exact Nat.le_refl _
    · exact Nat.le_succ_of_le (argBest_le bt k)
theorem argBest_congr {f g : Nat → Nat → Bool} : ∀ k, (∀ i j, i ≤ k → j ≤ k → f i j = g i j) → argBest f k = argBest g k
  | 0, _ => rfl
  | k + 1, h => by
    have ih := argBest_congr (f := f) (g := g) k fun i j hi hj => h i j (by omega) (by omega)
    rw [argBest, argBest, ih, h (k + 1) (argBest g k) (Nat.le_refl _) (Nat.le_succ_of_le (argBest_le g k))]
theorem best_min {d : D} {ds : List D} (al : ∀ y ∈ d :: ds, D.alk 6 d y = true) : (d :: ds)[bestI (toPd d) (toPdL ds)]? = some (minL d ds) := by
  have f := PySem.W.argBest_fold D.lt D.non d ds ds.length (Nat.le_refl _)
  rw [List.take_length] at f
  have e : bestI (toPd d) (toPdL ds) = argBest (fun i j => D.lt ((d :: ds).getD i D.non) ((d :: ds).getD j D.non)) ds.length := by
    unfold bestI
    rw [toPdL_len]
    refine argBest_congr _ fun i j hi hj => ?_
    have h1 := toPdL_get D.non (d :: ds) i (by simp; omega)
    have h2 := toPdL_get D.non (d :: ds) j (by simp; omega)
    simp only [toPdL] at h1 h2
    rw [h1, h2]
    have m1 : (d :: ds).getD i D.non ∈ d :: ds := by
      rw [List.getD_eq_getElem?_getD, List.getElem?_eq_getElem (show i < (d :: ds).length by simp; omega)]
      exact List.getElem_mem _
    have m2 : (d :: ds).getD j D.non ∈ d :: ds := by
      rw [List.getD_eq_getElem?_getD, List.getElem?_eq_getElem (show j < (d :: ds).length by simp; omega)]
      exact List.getElem_mem _
    exact lt_pd 6 d _ _ (al _ m1) (al _ m2)
  rw [e]
  have hlt : argBest (fun i j => D.lt ((d :: ds).getD i D.non) ((d :: ds).getD j D.non)) ds.length < (d :: ds).length := Nat.lt_succ_of_le f.1
  have f2 := f.2
  rw [List.getD_eq_getElem?_getD, List.getElem?_eq_getElem hlt] at f2
  rw [List.getElem?_eq_getElem hlt]
  exact congrArg some f2
theorem shL_of_all {k : Nat} : ∀ {ds : List D}, (∀ y ∈ ds, D.sh k y = true) → D.shL k ds = true
  | [], _ => by cases k <;> simp [D.shL]
  | d :: ds, h => by
    have := shL_of_all (k := k) (ds := ds) fun y hy => h y (List.mem_cons_of_mem _ hy)
    cases k <;> simp [D.shL, h d List.mem_cons_self, this]
theorem bs_min : BfS C (rMinD C.K) minB := by
  intro ρ H m ds vs d Q rm rl e q
  match ds, rl, e with
  | [x], rl, e =>
    simp only [RepL] at rl
    obtain ⟨v, _, rfl, r1, rfl⟩ := rl
    simp only [minB] at e
    split at e
    · rename_i d0 ds' hq
      split at e
      · rename_i hal
        cases e
        rw [Bool.and_eq_true, List.all_eq_true] at hal
        have al : ∀ y ∈ d0 :: ds', D.alk 6 d0 y = true := fun y hy => (List.mem_cons.mp hy).elim (fun e => e ▸ hal.1) (hal.2 y)
        obtain ⟨a, xs, rfl, sq, rl2⟩ := lst_read rm r1 hq
        obtain ⟨dp, _, dep⟩ := rep_dpL 6 (d0 :: ds') xs (shL_of_all fun y hy => (alk_sh 6 d0 y (al y hy)).2) rl2
        refine ⟨a, xs, toPd d0, toPdL ds', rfl, sq, dp, ⟨fun y hy z hz => ?_, fun y hy => ?_⟩, by have : PyData.depthAll (toPdL (d0 :: ds')) ≤ 6 := dep; simp only [toPdL] at this; omega, fun v hv => ?_⟩
        · have hm : ∀ {y : PyData}, y ∈ toPd d0 :: toPdL ds' → ∃ z ∈ d0 :: ds', y = toPd z := fun {y} hy => by
            have : ∀ (l : List D), y ∈ toPdL l → ∃ z ∈ l, y = toPd z := fun l => by
              induction l with
              | nil => intro h; simp [toPdL] at h
              | cons w l ih =>
                intro h
                simp only [toPdL, List.mem_cons] at h
                rcases h with h | h
                · exact ⟨w, List.mem_cons_self, h⟩
                · obtain ⟨z, h1, h2⟩ := ih h
                  exact ⟨z, List.mem_cons_of_mem _ h1, h2⟩
            exact this (d0 :: ds') hy
          obtain ⟨y', m1, rfl⟩ := hm hy
          obtain ⟨z', m2, rfl⟩ := hm hz
          exact (alk_al 6 d0 _ _ (al _ m1) (al _ m2)).1
        · have hm : ∀ (l : List D), y ∈ toPdL l → ∃ z ∈ l, y = toPd z := fun l => by
            induction l with
            | nil => intro h; simp [toPdL] at h
            | cons w l ih =>
              intro h
              simp only [toPdL, List.mem_cons] at h
              rcases h with h | h
              · exact ⟨w, List.mem_cons_self, h⟩
              · obtain ⟨z, h1, h2⟩ := ih h
                exact ⟨z, List.mem_cons_of_mem _ h1, h2⟩
          obtain ⟨y', m1, rfl⟩ := hm (d0 :: ds') hy
          exact (alk_al 6 d0 _ _ (al _ m1) (al _ m1)).2
        · obtain ⟨v', hv', rv⟩ := rl2.get (best_min al)
          rw [hv] at hv'
          cases hv'
          exact q _ H (Same.refl H) rv
      · cases e
    · cases e
  | [], _, e => cases e
  | _ :: _ :: _, _, e => cases e
/-! ### text.index(sign) -/
theorem subAt_one {s : List Nat} {c i : Nat} : Builtin.Str.subAt ⟨s.toArray⟩ ⟨[c].toArray⟩ i = true ↔ s[i]? = some c := by
  unfold Builtin.Str.subAt
  have hl : (⟨[c].toArray⟩ : Str).length = 1 := rfl
  rw [hl, beq_iff_eq]
  constructor
  · intro h
    have h1 := congrArg Array.toList h
    simp only [Array.toList_extract, List.extract_eq_drop_take] at h1
    have : (s.drop i).take 1 = [c] := by simpa using h1
    cases hd : s.drop i with
    | nil => rw [hd] at this; simp at this
    | cons x xs =>
      rw [hd] at this
      simp at this
      have hq : (s.drop i)[0]? = some x := by rw [hd]; rfl
      rw [List.getElem?_drop, Nat.add_zero] at hq
      rw [hq, this]
  · intro h
    apply Array.toList_inj.mp
    simp only [Array.toList_extract, List.extract_eq_drop_take]
    obtain ⟨hi, hx⟩ := List.getElem?_eq_some_iff.mp h
    rw [List.drop_eq_getElem_cons hi, hx]
    simp
theorem occ_one {s : List Nat} {c i : Nat} (h : s.findIdx? (· == c) = some i) : ∃ rest, Builtin.Str.occurrences ⟨s.toArray⟩ ⟨[c].toArray⟩ 0 (⟨s.toArray⟩ : Str).length 1 = i :: rest := by
  obtain ⟨hi, hx, hno⟩ := List.findIdx?_eq_some_iff_getElem.mp h
  have hsl : (⟨s.toArray⟩ : Str).length = s.length := by show s.toArray.size = _; simp
  have hcl : (⟨[c].toArray⟩ : Str).length = 1 := rfl
  have hx' : s[i]? = some c := by rw [List.getElem?_eq_getElem hi]; simpa using hx
  have atI : PySem.StrLaws.At ⟨s.toArray⟩ ⟨[c].toArray⟩ (⟨s.toArray⟩ : Str).length i := ⟨by rw [hsl, hcl]; omega, subAt_one.mpr hx'⟩
  rcases PySem.StrLaws.occ_head ⟨s.toArray⟩ ⟨[c].toArray⟩ 1 (Nat.le_refl _) with ⟨_, hn⟩ | ⟨k, r, e, hk, hn⟩
  · exact absurd atI (hn i)
  · refine ⟨r, ?_⟩
    rw [e]
    rcases Nat.lt_trichotomy k i with hlt | heq | hgt
    · have h1 := subAt_one.mp hk.2
      have h2 := hno k hlt
      rw [List.getElem?_eq_getElem (by omega)] at h1
      simp at h1
      simp [h1] at h2
    · rw [heq]
    · exact absurd atI (hn i hgt)
theorem de_sidx {apos cpos : Pos} (ho : DE C W X o fa) (he : DE C W X e fb) (hs : starEach [e] X.env = [(false, eval e X.env)] := by rfl) (hbase : attributeBase o "index" X.env (eval o X.env) = eval o X.env := by rfl) (hline : (apos.endLine == cpos.line) = true := by rfl) :
    DE C W X (.Call (.Attribute o "index" apos) [e] [] cpos) (sopE sidxD fa fb) := by
  refine PE.imp (pe_m1 PySem.F.slot_str_index PySem.F.type_str_index mt_sindex ho he hs hbase hline) ?_
  rintro σ H Q ⟨ρ, g, m, re, rm, h⟩
  refine ⟨ρ, g, m, re, rm, h.bind.imp fun d m1 ρ1 H1 x1 rm1 h1 v rv => ?_⟩
  cases d with
  | str s =>
    simp only [RepV] at rv
    obtain ⟨rfl, hl, hc⟩ := rv
    refine ⟨⟨_, rfl⟩, ρ1, g, m1, re.ext x1, rm1, h1.bind.imp fun d2 m2 ρ2 H2 x2 rm2 h2 v2 rv2 => ?_⟩
    obtain ⟨d, e, q⟩ := h2.opt rm2
    unfold sidxD at e
    split at e
    · rename_i s' c hs1 
      rename_i hs2
      cases hs1
      split at e
      case h_2 => cases e
      rename_i i hi
      cases e
      obtain ⟨rest, ho⟩ := occ_one hi
      obtain ⟨e2, _, _⟩ := rv2.str_at
      subst e2
      exact ⟨_, _, i, rest, rfl, rfl, ho, q _ H2 (Same.refl H2) rv_int⟩
    · cases e
  | _ => exact h1.elim
end
end LW
/-! LwV: len(set(list)), the list's things being texts of one sign. -/
namespace LW
open PySem PySem.Spec PyProof.Rows L2 PySem.Froz
section
variable {P : Program} {w : World} {A : Around} {R : Result → Shared → Prop} {I : Addr} {fp wr : List Addr} {n : Nat} {cs : List Nat} {St : Nat → Heap → Prop} {a : Addr}
theorem upd_loopL (W : Walks P w A.in1 I fp wr n (fun i v => ∃ c t, cs[i]? = some c ∧ v = .str (sing c) t) St) (hn : n = cs.length) (haf : a ∉ fp) : ∀ (m i : Nat) (s : Shared) (G : SD) (l : List Str), n - i = m → i ≤ n → St i s.heap →
    s.heap.get? a = some (sObj "set" G) → TxOk P w G l → RL w G → l.length + (n - i) + 1 < scanBound →
    (∀ h' tk G', (∀ b o, b ≠ a → b ∉ wr → s.heap.get? b = some o → h'.get? b = some o) → h'.get? a = some (sObj "set" G') → TxOk P w G' ((cs.drop i).foldl addNew l) → RL w G' → R (.ok (.ret .none)) { s with heap := h', toks := tk }) →
    codeAny (model P w) A (.builtin "set.update.loop" ⟨[.ref a, .ref I], []⟩) R s := by
  have haw : a ∉ wr := fun z => haf (W.sub _ z)
  intro m
  induction m with
  | zero =>
    intro i s G l hm hi hst ha F r hb hR
    have hin : i = n := by omega
    refine codeAny_builtin PyProof.Rows.F.entry_set_update_loop ?_
    rw [Around.under_plainId PyProof.Rows.F.plain_set_update_loop _]
    show wpAny _ A.in1 (pyNext (.ref I) >>= _) _ _ s
    refine wpAny_bind (W.done s _ _ (hin ▸ hst) fun h' tk hk' => ?_)
    have q := hR h' tk G (fun b o _ hb e => hk' b o hb e) (hk' a _ haw ha)
    rw [List.drop_of_length_le (by rw [hin, hn]; exact Nat.le_refl _)] at q
    show wpAny _ A.in1 (ret Value.none) _ _ _
    exact wpAny_pure (q F r)
  | succ m ih =>
    intro i s G l hm hi hst ha F r hb hR
    have hlt : i < n := by omega
    refine codeAny_builtin PyProof.Rows.F.entry_set_update_loop ?_
    rw [Around.under_plainId PyProof.Rows.F.plain_set_update_loop _]
    show wpAny _ A.in1 (pyNext (.ref I) >>= _) _ _ s
    refine wpAny_bind (W.item i s _ _ hlt hst fun v h' tk hP hst' hk' => ?_)
    obtain ⟨c, t, hc, rfl⟩ := hP
    have hd : cs.drop i = c :: cs.drop (i + 1) := by
      obtain ⟨h1, h2⟩ := List.getElem?_eq_some_iff.mp hc
      rw [List.drop_eq_getElem_cons h1, h2]
    have ha' : h'.get? a = some (sObj "set" G) := hk' a _ haw ha
    rw [hd] at hR
    show wpAny _ A.in1 (holding [Value.str (sing c) t] (setAdd a (.str (sing c) t)) >>= _) _ _ _
    refine wpAny_bind (wpAny_holding ?_)
    unfold setAdd
    refine wpAny_holding (wpAny_bind ((strKind P w).pyHash (k := sing c) (is_str _ _) ?_))
    by_cases hin : sing c ∈ l
    · refine old_x (s := { s with heap := h', toks := tk + 1 }) ha' F hin (by omega) ?_
      refine wpAny_pure ⟨plainId_quiet PyProof.Rows.F.plain_set_update_loop _, ih (i + 1) { s with heap := h', toks := tk + 1 } G l (by omega) hlt hst' ha' F r (by omega) fun h'' tk'' G'' k'' a'' F'' r'' => ?_⟩
      refine hR h'' tk'' G'' (fun b o h1 h2 e => k'' b o h1 h2 (hk' b o h2 e)) a'' ?_ r''
      rw [List.foldl_cons, show addNew l c = l from if_pos hin]
      exact F''
    · refine add_x (s := { s with heap := h', toks := tk + 1 }) (l := l) ha' F hin (by omega) ?_
      have hst2 : St (i + 1) (h'.update a fun _ => sObj "set" (addTx (hashStr w (sing c)) (.str (sing c) t) G)) := W.frame (i + 1) h' _ hst' fun b hb o e => Heap.get?_update_of_ne _ (fun z => haf (z ▸ hb)) e
      have ha2 := get_upd (sObj "set" (addTx (hashStr w (sing c)) (.str (sing c) t) G)) ha' rfl
      refine wpAny_pure ⟨plainId_quiet PyProof.Rows.F.plain_set_update_loop _, ih (i + 1) { s with heap := h'.update a fun _ => sObj "set" (addTx (hashStr w (sing c)) (.str (sing c) t) G), toks := tk + 1 } _ (sing c :: l) (by omega) hlt hst2 ha2 (add_ok t F) (add_rl r) (by rw [List.length_cons]; omega) fun h'' tk'' G'' k'' a'' F'' r'' => ?_⟩
      refine hR h'' tk'' G'' (fun b o h1 h2 e => k'' b o h1 h2 (Heap.get?_update_of_ne _ (Ne.symm h1) (hk' b o h2 e))) a'' ?_ r''
      rw [List.foldl_cons, show addNew l c = sing c :: l from if_neg hin]
      exact F''
end
section
variable {P : Program} {w : World} {A : Around} {E : Value → Shared → Prop} {s : Shared}
/-- set(list) -/
theorem call_set_signs {l : Addr} {items : Array Value} {cs : List Nat} {Q : Value → Shared → Prop} (hh : A.handled = none) (hl : s.heap.IsList l items) (hisz : items.size = cs.length) (hval : ∀ (i : Nat) (v : Value), items[i]? = some v → ∃ c t, cs[i]? = some c ∧ v = .str (sing c) t) (hb : cs.length + 1 < scanBound)
    (h : ∀ (h' : Heap) (tk : Nat) (G : SD), h'.get? s.heap.objs.size = some (sObj "set" G) → TxOk P w G (cs.foldl addNew []) → RL w G →
      (∀ b o, s.heap.get? b = some o → h'.get? b = some o) → Q (.ref s.heap.objs.size) { s with heap := h', toks := tk }) :
    wpAny (model P w) A (call (.type "set") [.ref l]) Q E s := by
  obtain ⟨c, tl, hmro⟩ := PySem.F.called_set.mro
  have hmade := PySem.F.called_set.made
  have hsub := PySem.F.called_set.sub
  refine wpAny_call (codeAny_of_tree ?_)
  show wpAny _ _ (callAny (.type "set") _) _ _ _
  refine wpAny_pure ⟨Code.quiet_builtin _ (by decide +kernel), codeAny_builtin PySem.F.entry_type_call ?_⟩
  rw [Around.under_plain (weight_type_call_type "set" [.ref l] []) rfl]
  have h1 := PySem.F.called_set.notType
  have h2 := PySem.F.called_set.canCreate
  have hct := PySem.F.typeCall_set_1 (.ref l)
  repeat (any_goals (first | assumption | wp_step))
  generalize hO : ({ cls := .type "set", dict := none, data := .set #[] 0 (.fresh 0 0 (!w.params.followText "set-order")) } : Obj) = O
  refine codeAny_mono (set_made (.ref l) (E := E) (Q := fun obj s1 => obj = .ref s.heap.objs.size ∧ s1 = { s with heap := s.heap.push O }) ⟨rfl, by rw [← hO]⟩) fun r s1 hr => ?_
  cases r with
  | error e => exact hr
  | ok fl =>
    cases fl with
    | ret obj =>
      obtain ⟨rfl, rfl⟩ := hr
      have hOc : O.cls = .type "set" := by rw [← hO]
      have hS : (s.heap.push O).get? s.heap.objs.size = some O := Heap.get?_push_size _ (by rw [← hO]; rfl)
      have hT : Shared.TypeIs { s with heap := s.heap.push O } (.ref s.heap.objs.size) "set" := ⟨_, hS, hOc⟩
      have hli := PySem.F.called_set.init.lookup
      have hbi := PySem.F.called_set.init.bind (.ref s.heap.objs.size)
      repeat (any_goals (first | assumption | wp_step))
      refine codeAny_mono (codeAny_call_builtin (R := wants (fun r s2 => r = .none ∧ ∃ h' tk G, s2 = { s with heap := h', toks := tk } ∧ h'.get? s.heap.objs.size = some (sObj "set" G) ∧ TxOk P w G (cs.foldl addNew []) ∧ RL w G ∧
          (∀ b o, s.heap.get? b = some o → h'.get? b = some o)) E) PySem.F.called_set.init.plain PySem.F.entry_set_init (check_set_init_1 hT ?_)) fun r2 s2 hr2 => ?_
      · obtain ⟨ol, hol, hcl, nl, hdl⟩ := hl
        obtain ⟨ocls, odict, odata, oslots⟩ := ol
        simp only at hcl hdl
        subst hcl; subst hdl
        have hol' : (s.heap.push O).get? l = some { cls := .type "list", dict := odict, data := .seq items nl, slots := oslots } := Heap.get?_push_of_some _ hol
        have hsls := PySem.F.sub_list_set
        have hslf := PySem.F.sub_list_frozenset
        have hne : (Value.type "list" == Value.type "dict") = false := by decide
        have hl1 : (s.heap.push O).IsList l items := ⟨_, hol', rfl, nl, rfl⟩
        subst hO
        unfold Builtin.«set.__init__» noKeywords Builtin.Frozenset.updateFrom
        generalize hPI : pyIter = PI
        wp_walk
        subst hPI
        refine wpAny_pyIter_list hl1 ?_
        refine wpAny_bind (wpAny_runValue ?_)
        have hlS : l < s.heap.objs.size := Heap.lt_size hol
        have hh3 : A.in1.in1.in1.handled = none := by simp [hh]
        have hneI : l ≠ (s.heap.push { cls := .type "set", dict := none, data := .set #[] 0 (.fresh 0 0 (!w.params.followText "set-order")) }).objs.size := by
          rw [Heap.size_push]; exact Nat.ne_of_lt (Nat.lt_succ_of_lt hlS)
        have hSf : s.heap.objs.size ∉ [(s.heap.push { cls := .type "set", dict := none, data := .set #[] 0 (.fresh 0 0 (!w.params.followText "set-order")) }).objs.size, l] := by
          rw [Heap.size_push]; simp only [List.mem_cons, List.mem_singleton, List.not_mem_nil, or_false, not_or]
          exact ⟨Nat.ne_of_lt (Nat.lt_succ_self _), Nat.ne_of_gt hlS⟩
        have W := (Walks.list (prog := P) (w := w) hh3 _ l hneI items).mono_item (P' := fun i v => ∃ c t, cs[i]? = some c ∧ v = .str (sing c) t) fun i v _ hv => hval i v hv
        have hG : ∀ o', ((s.heap.push { cls := .type "set", dict := none, data := .set #[] 0 (.fresh 0 0 (!w.params.followText "set-order")) }).push o').get? s.heap.objs.size = some (sObj "set" (#[], 0, .fresh 0 0 (!w.params.followText "set-order"))) := fun o' => Heap.get?_push_of_some _ hS
        refine upd_loopL W hisz hSf (items.size - 0) 0 _ (#[], 0, .fresh 0 0 (!w.params.followText "set-order")) [] rfl (Nat.zero_le _) ⟨⟨_, Heap.get?_push_size _ rfl, rfl, rfl⟩, hl1.push _⟩ (hG _) (TxOk.nil (by rfl)) ⟨List.Pairwise.nil, ?_⟩ (by rw [hisz]; simpa using hb) fun h' tk G' k' a' F' r' => ?_
        · show _ ∨ (!w.params.followText "set-order") = true
          cases w.params.followText "set-order"
          · exact .inr rfl
          · exact .inl rfl
        · show wpAny _ _ _ _ _ _
          refine wpAny_pure ?_
          show wpAny _ _ (ret Value.none) _ _ _
          refine wpAny_pure ⟨rfl, h', tk, G', rfl, a', F', r', fun b o' e => ?_⟩
          have hlt := Heap.lt_size e
          refine k' b o' (Nat.ne_of_lt hlt) ?_ (Heap.get?_push_of_some _ (Heap.get?_push_of_some _ e))
          rw [Heap.size_push, List.mem_singleton]
          exact Nat.ne_of_lt (Nat.lt_succ_of_lt hlt)
      · cases r2 with
        | error e => exact hr2
        | ok fl2 =>
          cases fl2 with
          | ret r =>
            obtain ⟨rfl, h', tk, G, rfl, g1, g2, g3, g4⟩ := hr2
            repeat (any_goals (first | assumption | wp_step))
            exact h _ _ G g1 g2 g3 g4
          | _ => exact hr2.elim
    | _ => exact hr.elim
end
end LW
/-! LwK: len(set(list)) over data. -/
namespace LW
open PySem PySem.Spec PyProof.Rows L2 PySem.Froz
section
variable {C : Cn} {W : XK} {X : Cx} {a : Expr} {fa : Ex} {p p2 pos pos2 : Pos}
def tLenL (K : PySem.W.Frag) (ta : TE) : TE := fun σ H Q => ta σ H fun x H1 => ∃ (l : Addr) (cs : List Nat), x = .ref l ∧ SqL K H1 l (cs.map fun c => .str (sing c)) ∧ cs.length < 4000 ∧ Q (.int (dedup cs).length) H1
theorem pe_lenL {ta : TE} (hc : X.calm = true) (hg : Gl X "len") (hm : X.mg "len" = none) (hg2 : Gl X "set") (hm2 : X.mg "set" = none) (ha : PE X a ta)
    (na : starEach [a] X.env = (false, eval a X.env) :: starEach [] X.env := by rfl) : PE X (.Call (.Name "len" p) [.Call (.Name "set" p2) [a] [] pos2] [] pos) (tLenL X.K ta) := by
  refine ⟨fun pins s σ H Q I h => ?_⟩
  refine Call_ (ld_blt I hg hm boot_len (PyProof.Rows.callWith_builtin1 (PyProof.Rows.args_cons ?_ rfl) rfl rfl))
  refine Call_ (ld_blt I hg2 hm2 boot_set (PyProof.Rows.callWith_type1 (PyProof.Rows.args_cons (thn (ha.run pins s σ H _ I h) fun v s1 ⟨x, H1, I1, r1, q1⟩ => PyProof.Rows.args_nil ?_) na) na rfl))
  obtain ⟨l, cs, rfl, sq, hz, q1⟩ := q1
  cases r1
  obtain ⟨its, rv, hl, _⟩ := I1.list sq
  have hlen : its.length = cs.length := by have := rv.length; rw [List.length_map] at this; exact this.symm
  refine call_set_signs (items := its.toArray) (cs := cs) (I1.ok.hd hc) hl.isList (by simpa using hlen) (fun i v hv => ?_) (by unfold scanBound; omega) fun h' tk G g1 g2 g3 g4 => PyProof.Rows.args_nil ?_
  · have hv' : its[i]? = some v := by simpa using hv
    obtain ⟨x, hx, rx⟩ := vals_get rv hv'
    rw [List.getElem?_map] at hx
    obtain ⟨c, hc', rfl⟩ := Option.map_eq_some_iff.mp hx
    obtain ⟨t, rfl⟩ := rx
    exact ⟨c, t, hc', rfl⟩
  have I2 : Inv X pins σ H1 { s1 with heap := h', toks := tk } := I1.kept g4
  have hsz : G.1.size = (dedup cs).length := by rw [g2.sz, fold_len]
  have hle : (dedup cs).length < 4000 := by
    have h1 := dedup_le cs
    omega
  exact call_len_set g1 ⟨rfl, rfl, rfl⟩ rfl g2.fit (by rw [hsz]; omega) ⟨.int (dedup cs).length, H1, I2.tok _, ⟨_, by rw [hsz]⟩, q1⟩
theorem signs_of {ρ : Rho} {H : Hp} : ∀ {ds : List D} {cs : List Nat} {vs : List V}, onesOf ds = some cs → RepL C ρ H ds vs → vs = cs.map fun c => V.str (sing c)
  | [], cs, vs, e, r => by cases e; simp only [RepL] at r; exact r
  | d :: ds, cs, vs, e, r => by
    simp only [RepL] at r
    obtain ⟨v, vs', rfl, r1, r2⟩ := r
    cases d with
    | str s =>
      cases s with
      | nil => simp [onesOf] at e
      | cons c s' =>
        cases s' with
        | nil =>
          simp only [onesOf] at e
          obtain ⟨cs', h1, rfl⟩ := Option.map_eq_some_iff.mp e
          rw [signs_of h1 r2, r1.str_at.1]
          rfl
        | cons _ _ => simp [onesOf] at e
    | _ => simp [onesOf] at e
theorem de_lenSetL (hK : C.K = X.K) (hc : X.calm = true) (hg : Gl X "len") (hm : X.mg "len" = none) (hg2 : Gl X "set") (hm2 : X.mg "set" = none) (ha : DE C W X a fa) (na : starEach [a] X.env = (false, eval a X.env) :: starEach [] X.env := by rfl) :
    DE C W X (.Call (.Name "len" p) [.Call (.Name "set" p2) [a] [] pos2] [] pos) (unE lenSetL fa) := by
  refine PE.imp (pe_lenL hc hg hm hg2 hm2 ha na) ?_
  rintro σ H Q ⟨ρ, g, m, re, rm, h⟩
  refine ⟨ρ, g, m, re, rm, h.bind.imp fun d m1 ρ1 H1 x1 rm1 h1 v r => ?_⟩
  obtain ⟨d', e, q⟩ := h1.opt rm1
  unfold lenSetL at e
  split at e
  · rename_i ds hq
    split at e
    · rename_i cs h2
      split at e
      · rename_i hl
        cases e
        obtain ⟨l, xs, rfl, sq, rl⟩ := lst_read rm1 r hq
        rw [signs_of h2 rl, hK] at sq
        exact ⟨l, cs, rfl, sq, hl, q _ H1 (Same.refl H1) rv_int⟩
      · cases e
    · cases e
  · cases e
end
theorem os_isB {C : Cn} : OpS C rIsB isBD := by
  intro ρ H m d1 d2 v1 v2 d Q rm r1 r2 e q
  cases d1 with
  | bl a =>
    cases d2 with
    | bl b => cases e; exact ⟨a, b, r1.bl_at, r2.bl_at, q _ H (Same.refl H) rv_bl⟩
    | _ => cases e
  | _ => cases d2 <;> cases e
end LW
/-! LwL: x in list, x a tuple. -/
namespace LW
open PySem PySem.Spec PyProof.Rows L2
section
variable {C : Cn} {X : Cx} {ρ : Rho} {H : Hp} {m : Mem}
def rInT (K : PySem.W.Frag) (neg : Bool) : R2 := fun x y H Q => ∃ d ds, Dp K H x d ∧ Dp K H y (.list ds) ∧ d.canLay0 = true ∧ (PyData.list ds).canLay0 = true ∧ d.depth ≤ 8 ∧ Q (.bl (if neg then !ds.any (fun z => PyData.eqv z d) else ds.any fun z => PyData.eqv z d)) H
theorem or_inT (hu : X.A.units + 64 < cLine) : OpR X (compareOp .In) (rInT X.K false) := by
  intro pins s σ H x y v u Q I rx ry h
  obtain ⟨d, ds, hd, he, sd, se, dp, q⟩ := h
  obtain ⟨as, r1⟩ := Dp.reads I d x v hd rx
  obtain ⟨bs, r2⟩ := Dp.reads I (.list ds) y u he ry
  exact SeqAt.in_list_reads r2 r1 se sd (by have := Nat.min_le_right (PyData.depthAll ds) d.depth; omega) ⟨.bl _, H, I, rfl, q⟩
theorem or_notInT (hu : X.A.units + 64 < cLine) : OpR X (compareOp .NotIn) (rInT X.K true) := by
  intro pins s σ H x y v u Q I rx ry h
  obtain ⟨d, ds, hd, he, sd, se, dp, q⟩ := h
  obtain ⟨as, r1⟩ := Dp.reads I d x v hd rx
  obtain ⟨bs, r2⟩ := Dp.reads I (.list ds) y u he ry
  exact SeqAt.notIn_list_reads r2 r1 se sd (by have := Nat.min_le_right (PyData.depthAll ds) d.depth; omega) ⟨.bl _, H, I, rfl, q⟩
theorem any_pd {x : D} (hx : D.sh 8 x = true) : ∀ {ds : List D}, D.shL 8 ds = true → ((toPdL ds).any fun z => PyData.eqv z (toPd x)) = ds.any fun d => D.eqv d x
  | [], _ => rfl
  | d :: ds, h => by
    have h' : (D.sh 8 d && D.shL 8 ds) = true := by simpa [D.shL] using h
    rw [Bool.and_eq_true] at h'
    simp only [toPdL, List.any_cons]
    rw [eqv_pd 8 8 d x h'.1 hx, any_pd hx h'.2]
theorem inT_rep {x y : D} {v1 v2 : V} {ds : List D} (rm : RepM C ρ H m) (r1 : RepV C ρ H x v1) (r2 : RepV C ρ H y v2) (hq : lstOf m y = some ds) (h : (D.sh 8 x && D.shL 8 ds) = true) :
    ∃ d es, Dp C.K H v1 d ∧ Dp C.K H v2 (.list es) ∧ d.canLay0 = true ∧ (PyData.list es).canLay0 = true ∧ d.depth ≤ 8 ∧ (es.any fun z => PyData.eqv z d) = ds.any fun d => D.eqv d x := by
  rw [Bool.and_eq_true] at h
  obtain ⟨a, xs, rfl, sq, rl⟩ := lst_read rm r2 hq
  obtain ⟨a1, a2, a3⟩ := rep_dp 8 x v1 h.1 r1
  obtain ⟨b1, b2, b3⟩ := rep_dpL 8 ds xs h.2 rl
  exact ⟨toPd x, toPdL ds, a1, .lst sq b1, a2, b2, a3, any_pd h.1 h.2⟩
theorem os_inT : OpS C (rInT C.K false) inT := by
  intro ρ H m d1 d2 v1 v2 d Q rm r1 r2 e q
  unfold inT at e
  split at e
  · rename_i ds hq
    split at e
    · rename_i h
      cases e
      obtain ⟨p, es, a1, a2, a3, a4, a5, a6⟩ := inT_rep rm r1 r2 hq h
      refine ⟨p, es, a1, a2, a3, a4, a5, ?_⟩
      rw [if_neg (by decide), a6]
      exact q _ H (Same.refl H) rv_bl
    · cases e
  · cases e
theorem os_notInT : OpS C (rInT C.K true) notInT := by
  intro ρ H m d1 d2 v1 v2 d Q rm r1 r2 e q
  unfold notInT at e
  split at e
  · rename_i ds hq
    split at e
    · rename_i h
      cases e
      obtain ⟨p, es, a1, a2, a3, a4, a5, a6⟩ := inT_rep rm r1 r2 hq h
      refine ⟨p, es, a1, a2, a3, a4, a5, ?_⟩
      rw [if_pos rfl, a6]
      exact q _ H (Same.refl H) rv_bl
    · cases e
  · cases e
end
end LW
/-! LwW: enumerate of a tuple. -/
namespace LW
open PySem PySem.Spec PyProof.Rows L2
theorem meets_enum1 {v : Value} {o : Obj} {H : Heap → Prop} (B : Begins v o H) :
    Meets (Builtin.«enumerate.__new__» ⟨[.type "enumerate", v], []⟩) (fun _ R s => H s.heap ∧
      R (.ok (.ret (.ref (s.heap.push o).objs.size))) { s with heap := (s.heap.push o).push { cls := .type "enumerate", data := .fields #[.none, .bool false, .ref s.heap.objs.size, rawInt 0, .none, .none] } }) :=
  .of_wp fun prog w A R s h => by
    obtain ⟨hp, g, d, tk, os⟩ := s; obtain ⟨h1, h⟩ := h
    have hsub := sub_enumerate
    have q1 : ∀ {A' : Around} {E : Value → Shared → Prop} {Q : Value → Shared → Prop}, Q (.ref hp.objs.size) ⟨hp.push o, g, d, tk, os⟩ → wpAny (model prog w) A' (pyIter v) Q E ⟨hp, g, d, tk, os⟩ :=
      fun q => B.iter prog w _ _ ⟨hp, g, d, tk, os⟩ _ h1 q
    wp_walk using q1
    refine wpAny_stack_any fun st => wpAny_pure ?_
    split
    · rename_i c _ _ _ _ _
      cases (c == Value.type "enumerate")
      · wp_walk using q1
        exact ⟨_, rfl, h⟩
      · wp_walk using q1
        exact ⟨_, rfl, h⟩
    · wp_walk using q1
      exact ⟨_, rfl, h⟩
theorem call_enum1 {prog : Program} {w : World} {A : Around} {E : Value → Shared → Prop} {s : Shared} {v : Value} {o : Obj} {H : Heap → Prop} {Q : Value → Shared → Prop} (B : Begins v o H) (h1 : H s.heap)
    (h : ∀ h', IsEnum h' (s.heap.objs.size + 1) s.heap.objs.size 0 .none → h'.get? s.heap.objs.size = some o → h'.objs.size = s.heap.objs.size + 2 →
      (∀ b o, s.heap.get? b = some o → h'.get? b = some o) → Q (.ref (s.heap.objs.size + 1)) { s with heap := h' }) :
    wpAny (model prog w) A (call (.type "enumerate") [v]) Q E s := by
  refine callType_new PySem.F.called_enumerate (by decide) (PySem.F.typeCall_enumerate_1 _) (PySem.F.newCall_enumerate_1 _) (fun obj => PySem.F.args_object_init_2 obj _) PySem.F.entry_enumerate_new
    (meets_enum1 B) ⟨h1, ?_⟩
  have hz : (s.heap.push o).objs.size = s.heap.objs.size + 1 := Heap.size_push ..
  show _ ∧ _
  rw [hz]
  have he : IsEnum ((s.heap.push o).push { cls := .type "enumerate", data := .fields #[.none, .bool false, .ref s.heap.objs.size, rawInt 0, .none, .none] }) (s.heap.objs.size + 1) s.heap.objs.size 0 .none := by
    have := Heap.get?_push_size (s.heap.push o) (o := { cls := .type "enumerate", data := .fields #[.none, .bool false, .ref s.heap.objs.size, rawInt 0, .none, .none] }) rfl
    rw [hz] at this; exact this
  refine ⟨⟨_, he, rfl⟩, h _ he (Heap.get?_push_of_some _ (Heap.get?_push_size _ B.free)) (by rw [Heap.size_push, hz]) fun b o x => Heap.get?_push_of_some _ (Heap.get?_push_of_some _ x)⟩
def iEnumT (K : PySem.W.Frag) (ta : TA) : TI := fun σ H R => ta σ H fun vs H1 => ∃ a xs, vs = [.ref a] ∧ SqT K H1 a xs ∧ R (ItE K (.tup a)) H1
theorem pi_enumT {X : Cx} {e : Expr} {ta : TA} {p pos tpos : Pos} {elts : List Expr} {kk : Nat} (hg : Gl X "enumerate") (hm : X.mg "enumerate" = none) (ha : PA X [e] ta) (hs : starEach [e] X.env = [(false, eval e X.env)] := by rfl) :
    PI X (.Tuple elts kk tpos) (.Call (.Name "enumerate" p) [e] [] pos) (iEnumT X.K ta) := by
  refine ⟨fun pins s σ H R I h => ?_⟩
  refine Call_ (ld_blt I hg hm boot_enumerate (PyProof.Rows.callWith_type1 (thn (ha.run pos pins s σ H _ I h) fun us s1 ⟨vs, H1, I1, r1, q1⟩ => ?_) hs rfl))
  obtain ⟨a, xs, rfl, sq, q⟩ := q1
  have fp2 : ∀ c, c ∈ [s1.heap.objs.size + 1, s1.heap.objs.size] → FpOk X pins H1 c := fun c hcm => by
    have hle : s1.heap.objs.size ≤ c := by
      simp only [List.mem_cons, List.not_mem_nil, or_false] at hcm
      rcases hcm with e | e
      · rw [e]; exact Nat.le_add_right _ _
      · rw [e]; exact Nat.le_refl _
    exact I1.fpOk hle (I1.hok.fresh hle)
  rw [Vals.ref1 r1]
  obtain ⟨b1, Hq, B, hq⟩ := src_begins I1 (src := .tup a) (xs := xs) sq
  refine call_enum1 B hq fun h' he hit hsz hk => wpAny_pyIter_enum he ?_
  have I2 : Inv X pins σ H1 { s1 with heap := h' } := I1.kept (t' := s1.toks) hk
  exact ⟨s1.heap.objs.size + 1, [s1.heap.objs.size + 1, s1.heap.objs.size], _, _, H1, rfl, I2, turn_enumS (src := .tup a) b1, ⟨⟨.none, he⟩, itr_zero hit⟩, fp2, q⟩
section
variable {C : Cn} {W : XK} {X : Cx} {a : Expr} {fa : Ex}
theorem di_enumT {elts : List Expr} {kk : Nat} {p pos tpos : Pos} (hK : C.K = X.K) (hg : Gl X "enumerate") (hm : X.mg "enumerate" = none) (ha : DE C W X a fa) (hs : starEach [a] X.env = [(false, eval a X.env)] := by rfl) (s1 : starEach (a :: []) X.env = (false, eval a X.env) :: starEach [] X.env := by rfl) :
    DI C W X (.Tuple elts kk tpos) (.Call (.Name "enumerate" p) [a] [] pos) (itET fa) := by
  refine PI.imp (pi_enumT hg hm (pa_cons ha pa_nil s1) hs) ?_
  rintro σ H R ⟨ρ, g, m, re, rm, h⟩
  refine ⟨ρ, g, m, re, rm, h.bind.imp fun d m1 ρ1 H1 x1 rm1 h1 v r => ?_⟩
  cases d with
  | tup ds =>
    obtain ⟨f, b1, c1⟩ := src_rep r (show srcOf (.tup ds) = some ds from rfl)
    obtain ⟨p', xs', rfl, sq, rl⟩ := r.tup_sq
    refine ⟨p', xs', rfl, hK ▸ sq, fin.now rm1 h1 _ ?_⟩
    intro ρ3 H3 i m3 x3 rm3
    obtain ⟨p3, us, e3, u1, u2⟩ := (r.ext x3).tup_sq
    cases e3
    refine ⟨fun hi => ?_, fun d' hd => ?_⟩
    · rw [enumD_len] at hi
      exact ⟨us, hK ▸ u1, by rw [hi, u2.length]⟩
    · obtain ⟨x, hx, rfl⟩ := enumD_get hd
      obtain ⟨vx, ex, rx⟩ := u2.get hx
      refine ⟨⟨us, vx, hK ▸ u1, ex⟩, fun z H4 hy4 => ?_⟩
      obtain ⟨T, x', rfl, nT, rfl, k1⟩ := hy4
      have q1 := k1 us (hK ▸ u1)
      rw [ex] at q1
      cases q1
      exact ⟨same_upd nT, rep_tup rm3 nT (by simp only [RepL]; exact ⟨_, _, rfl, by simp only [RepV], _, _, rfl, rx, rfl⟩)⟩
  | _ => exact h1.elim
end
end LW
/-! LwXb: {k1: v1, k2: v2}[k], the keys texts. -/
namespace LW
open PySem PySem.Spec PyProof.Rows L2
section
variable {C : Cn} {W : XK} {X : Cx} {ρ : Rho} {H : Hp} {m : Mem}
theorem de_dsub2 {k1 v1 k2 v2 k : Expr} {g1 h1 g2 h2 gk : Ex} {pos p : Pos} (hu : X.A.units + 1 < cLine) (a1 : DE C W X k1 g1) (b1 : DE C W X v1 h1) (a2 : DE C W X k2 g2) (b2 : DE C W X v2 h2) (hk : DE C W X k gk) (hs : NoSl k) :
    DE C W X (.Subscript (.Dict [some k1, some k2] [v1, v2] p) k pos) (dsub2E g1 h1 g2 h2 gk) := by
  refine PE.imp (pe_dget hu (pe_disp (pps_cons a1 b1 (pps_cons a2 b2 pps_nil)) rfl rfl (by simp) (by simp)) hk hs) ?_
  rintro σ H Q ⟨ρ, g, m, re, rm, h⟩ L hL
  have x0 : Ext ρ H (ρ.hide L) (upd H L (.dK [])) := ext_hide hL
  refine ⟨ρ.hide L, g, m, re.ext x0, rm.hide hL, fin.from h x0 fun d1 m1 h ρ1 H1 x1 rm1 v1 r1 => ?_⟩
  refine ⟨ρ1, g, m1, (re.ext x0).ext x1, rm1, fin.from h (x0.trans x1) fun e1 m2 h ρ2 H2 x2 rm2 w1 s1 => ?_⟩
  refine ⟨ρ2, g, m2, ((re.ext x0).ext x1).ext x2, rm2, fin.from h ((x0.trans x1).trans x2) fun d2 m3 h ρ3 H3 x3 rm3 v2 r2 => ?_⟩
  refine ⟨ρ3, g, m3, (((re.ext x0).ext x1).ext x2).ext x3, rm3, fin.from h (((x0.trans x1).trans x2).trans x3) fun e2 m4 h ρ4 H4 x4 rm4 w2 s2 => ?_⟩
  have xx : Ext (ρ.hide L) (upd H L (.dK [])) ρ4 H4 := x1.trans (x2.trans (x3.trans x4))
  obtain ⟨z4, q4⟩ := xx.lx L _ List.mem_cons_self upd_same
  cases d1 with
  | str k1' =>
    cases d2 with
    | str k2' =>
      have ev1 := hide_str r1
      have ev2 := hide_str r2
      subst ev1 ev2
      refine ⟨q4, [(.inr ⟨k1'.toArray⟩, w1), (.inr ⟨k2'.toArray⟩, w2)], rfl, by simp, ?_⟩
      generalize hkv : mergeK [] [((.inr ⟨k1'.toArray⟩ : Key), w1), (.inr ⟨k2'.toArray⟩, w2)] = kvs
      have xd : Ext ρ H ρ4 (upd H4 L (.dK kvs)) := ext_grow (x0.trans xx) hL z4
      refine ⟨ρ4, g, m4, re.ext xd, rm4.grow z4, fin.from h xd fun d5 m5 h ρ5 H5 x5 rm5 v5 r5 => ?_⟩
      obtain ⟨z6, q6⟩ := x5.lx L _ z4 upd_same
      cases d5 with
      | str kq =>
        have ev5 := hide_str r5
        subst ev5
        have tl := two_look (k1 := (.inr ⟨k1'.toArray⟩ : Key)) (k2 := .inr ⟨k2'.toArray⟩) (q := .inr ⟨kq.toArray⟩) (w1 := w1) (w2 := w2)
        rw [hkv] at tl
        dsimp only at h
        by_cases c2 : kq = k2'
        · rw [if_pos c2] at h
          rw [if_pos (key_eq.mpr c2)] at tl
          exact ⟨L, w2, rfl, .inl ⟨kvs, _, .inl q6, rfl, tl.symm⟩, h ρ5 H5 (xd.trans x5) rm5 _ ((s2.grow z4).ext x5)⟩
        · rw [if_neg c2] at h
          rw [if_neg (fun e => c2 (key_eq.mp e))] at tl
          by_cases c1 : kq = k1'
          · rw [if_pos c1] at h
            rw [if_pos (key_eq.mpr c1)] at tl
            exact ⟨L, w1, rfl, .inl ⟨kvs, _, .inl q6, rfl, tl.symm⟩, h ρ5 H5 (xd.trans x5) rm5 _ (((s1.ext (x3.trans x4)).grow z4).ext x5)⟩
          · rw [if_neg c1] at h
            exact h.elim
      | _ => exact h.elim
    | _ => exact h.elim
  | _ => exact h.elim
end
end LW
namespace LW
def c_SIGNS : List Nat := [97, 98, 99, 100, 101, 102, 103, 104, 105, 106, 107, 108, 109, 110, 111, 112, 113, 114, 115, 116, 117, 118, 119, 120, 121, 122, 48, 49, 50, 51, 52, 53, 54, 55, 56, 57, 32, 46, 44, 45]
def c_PULSES : List Nat := [115, 112, 108, 102]
def c_FIGURES : List Nat := [48, 49, 50, 51, 52, 53, 54, 55, 56, 57]
def b_law_cell_at : Sm :=
  (seqS (ifS (tE (opE ltD (vE 1) (bE lenB (consA (vE 0) nilA)))) (retS (opE getD (vE 0) (vE 1))) nxS)
    (seqS (ifS (tE (opE eqD (vE 0) (lstE nilA))) (retS (cE (.int 0))) nxS)
    (retS (opE addD (opE mulD (opE getD (vE 0) (opE modD (vE 1) (bE lenB (consA (vE 0) nilA)))) (cE (.int 31))) (vE 1)))))
def m_law_cell_at : Fn := fnS 2 b_law_cell_at
def b_law_mixed : Sm :=
  (seqS (asgS (nmG 3) (opE modD (opE addD (opE addD (opE mulD (callE m_law_cell_at (consA (vE 0) (consA (vE 1) nilA))) (cE (.int 1103515245))) (opE mulD (cE (.int 7919)) (vE 1))) (cE (.int 12345))) (cE (.int 2147483647))))
    (retS (opE modD (opE modD (opE modD (opE powD (vE 3) (cE (.int 5))) (cE (.int 2147483647))) (cE (.int 999983))) (vE 2))))
def m_law_mixed : Fn := fnS 4 b_law_mixed
def b_law_draw : Sm :=
  (seqS (exS (mtE appM (vE 1) (consA (cE (.int 0)) nilA)))
    (retS (callE m_law_mixed (consA (vE 0) (consA (bE lenB (consA (vE 1) nilA)) (consA (vE 2) nilA))))))
def m_law_draw : Fn := fnS 3 b_law_draw
def b_law_wheels_k01 : Sm :=
  (seqS (asgS (nmG 3) (cE (.str [97, 98, 99, 100, 101, 102, 103, 104, 105, 106, 107, 108, 109, 110, 111, 112, 113, 114, 115, 116, 117, 118, 119, 120, 121, 122, 48, 49, 50, 51, 52, 53, 54, 55, 56, 57, 32, 46, 44, 45])))
    (seqS (asgS (nmG 4) (opE addD (cE (.int 2)) (callE m_law_draw (consA (vE 0) (consA (vE 1) (consA (opE subD (vE 2) (cE (.int 1))) nilA))))))
    (seqS (asgS (nmG 5) (newE (lstE nilA)))
    (seqS (forS (itR1 (cE (.int 2))) (nmG 6) (seqS (asgS (nmG 7) (newE (bE listB (consA (ifE (tE (opE eqD (callE m_law_draw (consA (vE 0) (consA (vE 1) (consA (cE (.int 2)) nilA)))) (cE (.int 0)))) (vE 3) (slE slD (vE 3) noO (someO (opE addD (vE 4) (cE (.int 3)))))) nilA))))
    (seqS (asgS (nmG 8) (cE (.str [])))
    (seqS (forS (itR1 (vE 4)) (nmG 9) (asgS (nmG 8) (opE addD (vE 8) (mtE popAtM (vE 7) (consA (callE m_law_draw (consA (vE 0) (consA (vE 1) (consA (bE lenB (consA (vE 7) nilA)) nilA)))) nilA)))))
    (exS (mtE appM (vE 5) (consA (vE 8) nilA)))))))
    (retS (tupE (consA (opE getD (vE 5) (cE (.int 0))) (consA (opE getD (vE 5) (cE (.int 1))) (consA (opE addD (cE (.int 1)) (callE m_law_draw (consA (vE 0) (consA (vE 1) (consA (cE (.int 3)) nilA))))) nilA)))))))))
def m_law_wheels_k01 : Fn := fnS 10 b_law_wheels_k01
def b_law_pick : Sm :=
  (retS (opE getD (vE 2) (callE m_law_draw (consA (vE 0) (consA (vE 1) (consA (bE lenB (consA (vE 2) nilA)) nilA))))))
def m_law_pick : Fn := fnS 3 b_law_pick
def b_law_stand_k02 : Sm :=
  (seqS (asgS (nmG 3) (bE lenB (consA (opE getD (vE 2) (cE (.int 0))) nilA)))
    (seqS (asgS (nmG 4) (callE m_law_draw (consA (vE 0) (consA (vE 1) (consA (callE m_law_pick (consA (vE 0) (consA (vE 1) (consA (lstE (consA (cE (.int 1)) (consA (opE addD (vE 3) (cE (.int 1))) (consA (opE addD (opE mulD (vE 3) (opE addD (opE getD (vE 2) (cE (.int 2))) (cE (.int 1)))) (cE (.int 1))) nilA)))) nilA)))) nilA)))))
    (retS (tupE (consA (callE m_law_draw (consA (vE 0) (consA (vE 1) (consA (vE 3) nilA)))) (consA (callE m_law_pick (consA (vE 0) (consA (vE 1) (consA (cE (.str [108, 102])) nilA)))) (consA (vE 4) nilA)))))))
def m_law_stand_k02 : Fn := fnS 5 b_law_stand_k02
def b_law_row_k02 : Sm :=
  (seqS (asgS (nmG 4) (cE (.str [])))
    (seqS (forS (itR1 (callE m_law_draw (consA (vE 0) (consA (vE 1) (consA (opE addD (vE 3) (cE (.int 1))) nilA))))) (nmG 5) (seqS (asgS (nmG 6) (callE m_law_draw (consA (vE 0) (consA (vE 1) (consA (cE (.int 8)) nilA)))))
    (seqS (asgS (nmG 7) (opE addD (cE (.int 1)) (callE m_law_draw (consA (vE 0) (consA (vE 1) (consA (callE m_law_pick (consA (vE 0) (consA (vE 1) (consA (lstE (consA (cE (.int 2)) (consA (bE lenB (consA (opE getD (vE 2) (cE (.int 0))) nilA)) (consA (opE mulD (cE (.int 3)) (bE lenB (consA (opE getD (vE 2) (cE (.int 0))) nilA))) nilA)))) nilA)))) nilA))))))
    (asgS (nmG 4) (opE addD (vE 4) (ifE (tE (opE ltD (vE 6) (cE (.int 4)))) (opE mulD (cE (.str [115])) (vE 7)) (ifE (tE (opE ltD (vE 6) (cE (.int 6)))) (cE (.str [112])) (opE getD (cE (.str [108, 102])) (opE subD (vE 6) (cE (.int 6)))))))))))
    (retS (slE slD (vE 4) noO (someO (callE m_law_pick (consA (vE 0) (consA (vE 1) (consA (lstE (consA (cE (.int 20)) (consA (cE (.int 40)) (consA (cE (.int 400)) nilA)))) nilA)))))))))
def m_law_row_k02 : Fn := fnS 8 b_law_row_k02
def b_law_pulse_k02 : Sm :=
  (seqS (asgS (tupG (consG (nmG 3) (consG (nmG 4) (consG (nmG 5) nilG)))) (vE 1))
    (seqS (asgS (nmG 6) (bE lenB (consA (opE getD (vE 0) (cE (.int 0))) nilA)))
    (seqS (ifS (tE (opE eqD (vE 2) (cE (.str [112])))) (retS (tupE (consA (tupE (consA (vE 3) (consA (vE 4) (consA (cE (.int 0)) nilA)))) (consA (opE getD (ifE (tE (opE eqD (vE 4) (cE (.str [108])))) (opE getD (vE 0) (cE (.int 0))) (opE getD (vE 0) (cE (.int 1)))) (vE 3)) nilA)))) nxS)
    (seqS (ifS (tE (opE inD (vE 2) (tupE (consA (cE (.str [108])) (consA (cE (.str [102])) nilA))))) (retS (tupE (consA (tupE (consA (vE 3) (consA (vE 2) (consA (cE (.int 0)) nilA)))) (consA (cE (.str [])) nilA)))) nxS)
    (seqS (ifS (andT (tE (opE eqD (vE 3) (cE (.int 0)))) (tE (opE geD (vE 5) (opE mulD (vE 6) (opE getD (vE 0) (cE (.int 2))))))) (retS (tupE (consA (vE 1) (consA (cE (.str [])) nilA)))) nxS)
    (retS (tupE (consA (tupE (consA (ifE (tE (opE ltD (opE addD (vE 3) (cE (.int 1))) (vE 6))) (opE addD (vE 3) (cE (.int 1))) (cE (.int 0))) (consA (vE 4) (consA (opE addD (vE 5) (cE (.int 1))) nilA)))) (consA (cE (.str [])) nilA)))))))))
def m_law_pulse_k02 : Fn := fnS 7 b_law_pulse_k02
def b_law_go : Sm :=
  (seqS (asgS (nmG 3) (cE (.str [])))
    (seqS (forS (itA (vE 2)) (nmG 4) (seqS (asgS (tupG (consG (nmG 1) (consG (nmG 5) nilG))) (callE m_law_pulse_k02 (consA (vE 0) (consA (vE 1) (consA (vE 4) nilA)))))
    (asgS (nmG 3) (opE addD (vE 3) (vE 5)))))
    (retS (tupE (consA (vE 1) (consA (vE 3) nilA))))))
def m_law_go : Fn := fnS 6 b_law_go
def b_is_whole : Sm :=
  (retS (andE (unE (isD "int") (vE 0)) (andE (notE (unE (isD "bool") (vE 0))) (chE leD leD (vE 1) (vE 0) (vE 2)))))
def m_is_whole : Fn := fnS 3 b_is_whole
def b_are_signs : Sm :=
  (retS (andE (unE (isD "str") (vE 0)) (andE (chE leD leD (vE 1) (bE lenB (consA (vE 0) nilA)) (vE 2)) (bE allB (consA (lcE (itA (vE 0)) [3] (nmG 3) yesT (noX (opE inD (vE 3) (cE (.str c_SIGNS))))) nilA)))))
def m_are_signs : Fn := fnS 4 b_are_signs
def b_is_wheel : Sm :=
  (retS (andE (callE m_are_signs (consA (vE 0) (consA (cE (.int 2)) (consA (cE (.int 30)) nilA)))) (opE eqD (unE lenSetD (vE 0)) (bE lenB (consA (vE 0) nilA)))))
def m_is_wheel : Fn := fnS 1 b_is_wheel
def b_is_wheels : Sm :=
  (seqS (ifS (orT (notT (tE (unE (isD "tuple") (vE 0)))) (orT (tE (opE neD (bE lenB (consA (vE 0) nilA)) (cE (.int 3)))) (orT (notT (tE (callE m_is_wheel (consA (opE getD (vE 0) (cE (.int 0))) nilA)))) (notT (tE (callE m_is_wheel (consA (opE getD (vE 0) (cE (.int 1))) nilA))))))) (retS (cE (.bl false))) nxS)
    (retS (andE (opE eqD (bE lenB (consA (opE getD (vE 0) (cE (.int 0))) nilA)) (bE lenB (consA (opE getD (vE 0) (cE (.int 1))) nilA))) (callE m_is_whole (consA (opE getD (vE 0) (cE (.int 2))) (consA (cE (.int 1)) (consA (cE (.int 3)) nilA)))))))
def m_is_wheels : Fn := fnS 1 b_is_wheels
def b_need_wheels : Sm :=
  (ifS (notT (tE (callE m_is_wheels (consA (vE 0) nilA)))) (raiseS "NoWheels") nxS)
def m_need_wheels : Fn := fnS 1 b_need_wheels
def b_places_of : Sm :=
  (retS (bE lenB (consA (opE getD (vE 0) (cE (.int 0))) nilA)))
def m_places_of : Fn := fnS 1 b_places_of
def b_is_stand : Sm :=
  (seqS (ifS (orT (notT (tE (unE (isD "tuple") (vE 1)))) (orT (tE (opE neD (bE lenB (consA (vE 1) nilA)) (cE (.int 3)))) (notT (tE (callE m_is_whole (consA (opE getD (vE 1) (cE (.int 0))) (consA (cE (.int 0)) (consA (opE subD (callE m_places_of (consA (vE 0) nilA)) (cE (.int 1))) nilA)))))))) (retS (cE (.bl false))) nxS)
    (seqS (ifS (orT (notT (tE (unE (isD "str") (opE getD (vE 1) (cE (.int 1)))))) (tE (opE notInD (opE getD (vE 1) (cE (.int 1))) (tupE (consA (cE (.str [108])) (consA (cE (.str [102])) nilA)))))) (retS (cE (.bl false))) nxS)
    (retS (callE m_is_whole (consA (opE getD (vE 1) (cE (.int 2))) (consA (cE (.int 0)) (consA (opE mulD (callE m_places_of (consA (vE 0) nilA)) (opE addD (opE getD (vE 0) (cE (.int 2))) (cE (.int 1)))) nilA)))))))
def m_is_stand : Fn := fnS 2 b_is_stand
def b_need_stand : Sm :=
  (seqS (exS (callE m_need_wheels (consA (vE 0) nilA)))
    (ifS (notT (tE (callE m_is_stand (consA (vE 0) (consA (vE 1) nilA))))) (raiseS "NoStand") nxS))
def m_need_stand : Fn := fnS 2 b_need_stand
def b_is_row : Sm :=
  (retS (andE (unE (isD "str") (vE 0)) (andE (opE leD (bE lenB (consA (vE 0) nilA)) (vE 1)) (bE allB (consA (lcE (itA (vE 0)) [2] (nmG 2) yesT (noX (opE inD (vE 2) (cE (.str c_PULSES))))) nilA)))))
def m_is_row : Fn := fnS 3 b_is_row
def b_need_row : Sm :=
  (ifS (notT (tE (callE m_is_row (consA (vE 0) (consA (vE 1) nilA))))) (raiseS "NoRow") nxS)
def m_need_row : Fn := fnS 2 b_need_row
def b_is_caught : Sm :=
  (retS (andE (opE eqD (opE getD (vE 1) (cE (.int 0))) (cE (.int 0))) (opE geD (opE getD (vE 1) (cE (.int 2))) (opE mulD (callE m_places_of (consA (vE 0) nilA)) (opE getD (vE 0) (cE (.int 2)))))))
def m_is_caught : Fn := fnS 2 b_is_caught
def b_pulsed : Sm :=
  (seqS (asgS (tupG (consG (nmG 3) (consG (nmG 4) (consG (nmG 5) nilG)))) (vE 1))
    (seqS (ifS (tE (opE eqD (vE 2) (cE (.str [115])))) (seqS (ifS (tE (callE m_is_caught (consA (vE 0) (consA (vE 1) nilA)))) (retS (tupE (consA (vE 1) (consA (cE (.str [])) nilA)))) nxS)
    (retS (tupE (consA (tupE (consA (opE modD (opE addD (vE 3) (cE (.int 1))) (callE m_places_of (consA (vE 0) nilA))) (consA (vE 4) (consA (opE addD (vE 5) (cE (.int 1))) nilA)))) (consA (cE (.str [])) nilA))))) nxS)
    (seqS (ifS (tE (opE eqD (vE 2) (cE (.str [112])))) (retS (tupE (consA (tupE (consA (vE 3) (consA (vE 4) (consA (cE (.int 0)) nilA)))) (consA (opE getD (opE getD (vE 0) (ifE (tE (opE eqD (vE 4) (cE (.str [108])))) (cE (.int 0)) (cE (.int 1)))) (vE 3)) nilA)))) nxS)
    (retS (tupE (consA (tupE (consA (vE 3) (consA (vE 2) (consA (cE (.int 0)) nilA)))) (consA (cE (.str [])) nilA)))))))
def m_pulsed : Fn := fnS 6 b_pulsed
def b_rowed : Sm :=
  (seqS (asgS (nmG 3) (cE (.str [])))
    (seqS (forS (itA (vE 2)) (nmG 4) (seqS (asgS (tupG (consG (nmG 1) (consG (nmG 5) nilG))) (callE m_pulsed (consA (vE 0) (consA (vE 1) (consA (vE 4) nilA)))))
    (asgS (nmG 3) (opE addD (vE 3) (vE 5)))))
    (retS (tupE (consA (vE 1) (consA (vE 3) nilA))))))
def m_rowed : Fn := fnS 6 b_rowed
def b_behind : Sm :=
  (seqS (exS (callE m_need_stand (consA (vE 0) (consA (vE 1) nilA))))
    (seqS (exS (callE m_need_row (consA (vE 2) (consA (cE (.int 400)) nilA))))
    (retS (callE m_rowed (consA (vE 0) (consA (vE 1) (consA (vE 2) nilA)))))))
def m_behind : Fn := fnS 3 b_behind
def b_caught : Sm :=
  (seqS (exS (callE m_need_stand (consA (vE 0) (consA (vE 1) nilA))))
    (retS (callE m_is_caught (consA (vE 0) (consA (vE 1) nilA)))))
def m_caught : Fn := fnS 2 b_caught
def b_law_ask_k02 : Sm :=
  (tryS (ixR ["NoWheels", "NoStand", "NoRow", "NoSlips", "NoText", "NoPlace", "NoPrinter", "NoWord", "Nothing"] ["NoRow", "NoSlips", "NoStand", "NoWheels"]) (retS (ifE (tE (opE eqD (vE 0) (cE (.int 0)))) (callE m_behind (consA (vE 1) (consA (vE 2) (consA (vE 3) nilA)))) (callE m_caught (consA (vE 1) (consA (vE 2) nilA))))))
def m_law_ask_k02 : Fn := fnS 5 b_law_ask_k02
def b_is_slip : Sm :=
  (seqS (ifS (orT (notT (tE (unE (isD "tuple") (vE 0)))) (orT (tE (opE neD (bE lenB (consA (vE 0) nilA)) (cE (.int 2)))) (notT (tE (callE m_is_whole (consA (opE getD (vE 0) (cE (.int 0))) (consA (cE (.int 0)) (consA (opE subD (vE 1) (cE (.int 1))) nilA)))))))) (retS (cE (.bl false))) nxS)
    (retS (andE (unE (isD "str") (opE getD (vE 0) (cE (.int 1)))) (opE inD (opE getD (vE 0) (cE (.int 1))) (cE (.tup [(.str [108, 111, 115, 116]), (.str [116, 119, 105, 99, 101])]))))))
def m_is_slip : Fn := fnS 2 b_is_slip
def b_need_slips : Sm :=
  (seqS (ifS (orT (notT (tE (unE (isD "tuple") (vE 1)))) (orT (tE (opE gtD (bE lenB (consA (vE 1) nilA)) (cE (.int 4)))) (notT (tE (bE allB (consA (lcE (itA (vE 1)) [2] (nmG 2) yesT (noX (callE m_is_slip (consA (vE 2) (consA (bE lenB (consA (vE 0) nilA)) nilA))))) nilA)))))) (raiseS "NoSlips") nxS)
    (ifS (notT (tE (bE allB (consA (lcE (itZ (vE 1) (slE slD (vE 1) (someO (cE (.int 1))) noO)) [3, 4] (tupG (consG (nmG 3) (consG (nmG 4) nilG))) yesT (noX (opE ltD (opE getD (vE 3) (cE (.int 0))) (opE getD (vE 4) (cE (.int 0)))))) nilA)))) (raiseS "NoSlips") nxS))
def m_need_slips : Fn := fnS 5 b_need_slips
def b_slipped : Sm :=
  (seqS (asgS (nmG 2) (bE dictB (consA (vE 1) nilA)))
    (seqS (asgS (nmG 3) (lcE (itR1 (bE lenB (consA (vE 0) nilA))) [4] (nmG 4) yesT (noX (dget2E (cE (.str [108, 111, 115, 116])) (cE (.int 0)) (cE (.str [116, 119, 105, 99, 101])) (cE (.int 2)) (dopE get1D (vE 2) (vE 4)) (cE (.int 1))))))
    (retS (sopE joinD (cE (.str [])) (lcE (itZ (vE 0) (vE 3)) [5, 6] (tupG (consG (nmG 5) (consG (nmG 6) nilG))) yesT (noX (opE mulD (vE 5) (vE 6))))))))
def m_slipped : Fn := fnS 7 b_slipped
def b_tape : Sm :=
  (seqS (exS (callE m_need_wheels (consA (vE 0) nilA)))
    (seqS (exS (callE m_need_row (consA (vE 1) (consA (cE (.int 400)) nilA))))
    (seqS (exS (callE m_need_slips (consA (vE 1) (consA (vE 2) nilA))))
    (retS (opE getD (callE m_rowed (consA (vE 0) (consA (cE (.tup [(.int 0), (.str [108]), (.int 0)])) (consA (callE m_slipped (consA (vE 1) (consA (vE 2) nilA))) nilA)))) (cE (.int 1)))))))
def m_tape : Fn := fnS 3 b_tape
def b_law_k02 : Sm :=
  (seqS (asgS (nmG 1) (newE (lstE nilA)))
    (seqS (asgS (nmG 2) (callE m_law_wheels_k01 (consA (vE 0) (consA (vE 1) (consA (cE (.int 8)) nilA)))))
    (seqS (asgS (nmG 3) (callE m_law_stand_k02 (consA (vE 0) (consA (vE 1) (consA (vE 2) nilA)))))
    (seqS (asgS (nmG 4) (callE m_law_row_k02 (consA (vE 0) (consA (vE 1) (consA (vE 2) (consA (cE (.int 12)) nilA))))))
    (seqS (asgS (nmG 5) (bE lenB (consA (opE getD (vE 2) (cE (.int 0))) nilA)))
    (seqS (asgS (nmG 6) (callE m_law_go (consA (vE 2) (consA (vE 3) (consA (vE 4) nilA)))))
    (seqS (ifS (orT (tE (opE neD (callE m_law_ask_k02 (consA (cE (.int 0)) (consA (vE 2) (consA (vE 3) (consA (vE 4) nilA))))) (vE 6))) (tE (opE neD (callE m_tape (consA (vE 2) (consA (vE 4) (consA (tpxE nilA) nilA)))) (opE getD (callE m_law_go (consA (vE 2) (consA (tupE (consA (cE (.int 0)) (consA (cE (.str [108])) (consA (cE (.int 0)) nilA)))) (consA (vE 4) nilA)))) (cE (.int 1)))))) (retS (cE (.bl false))) nxS)
    (seqS (ifS (tE (opE neD (callE m_law_ask_k02 (consA (cE (.int 1)) (consA (vE 2) (consA (vE 3) (consA (cE .non) nilA))))) (andE (opE eqD (opE getD (vE 3) (cE (.int 0))) (cE (.int 0))) (opE geD (opE getD (vE 3) (cE (.int 2))) (opE mulD (vE 5) (opE getD (vE 2) (cE (.int 2)))))))) (retS (cE (.bl false))) nxS)
    (seqS (asgS (nmG 7) (callE m_law_draw (consA (vE 0) (consA (vE 1) (consA (opE addD (bE lenB (consA (vE 4) nilA)) (cE (.int 1))) nilA)))))
    (seqS (asgS (nmG 8) (callE m_law_go (consA (vE 2) (consA (vE 3) (consA (slE slD (vE 4) noO (someO (vE 7))) nilA)))))
    (seqS (ifS (tE (opE leD (opE getD (opE getD (vE 8) (cE (.int 0))) (cE (.int 2))) (opE mulD (vE 5) (opE addD (opE getD (vE 2) (cE (.int 2))) (cE (.int 1)))))) (seqS (asgS (nmG 9) (callE m_law_ask_k02 (consA (cE (.int 0)) (consA (vE 2) (consA (opE getD (vE 8) (cE (.int 0))) (consA (slE slD (vE 4) (someO (vE 7)) noO) nilA))))))
    (ifS (tE (opE neD (vE 9) (tupE (consA (opE getD (vE 6) (cE (.int 0))) (consA (slE slD (opE getD (vE 6) (cE (.int 1))) (someO (bE lenB (consA (opE getD (vE 8) (cE (.int 1))) nilA))) noO) nilA))))) (retS (cE (.bl false))) nxS)) nxS)
    (seqS (asgS (nmG 10) (opE mulD (vE 5) (opE getD (vE 2) (cE (.int 2)))))
    (seqS (ifS (orT (tE (opE neD (callE m_law_ask_k02 (consA (cE (.int 1)) (consA (vE 2) (consA (tupE (consA (cE (.int 0)) (consA (cE (.str [102])) (consA (vE 10) nilA)))) (consA (cE .non) nilA))))) (cE (.bl true)))) (tE (opE neD (callE m_law_ask_k02 (consA (cE (.int 1)) (consA (vE 2) (consA (tupE (consA (cE (.int 1)) (consA (cE (.str [102])) (consA (vE 10) nilA)))) (consA (cE .non) nilA))))) (cE (.bl false))))) (retS (cE (.bl false))) nxS)
    (seqS (asgS (nmG 11) (newE (lstE (consA (cE .non) (consA (tupE nilA) (consA (bE listB (consA (vE 3) nilA)) (consA (slE slD (vE 3) noO (someO (cE (.int 2)))) (consA (tupE (consA (vE 5) (consA (cE (.str [108])) (consA (cE (.int 0)) nilA)))) (consA (tupE (consA (unE negD (cE (.int 1))) (consA (cE (.str [108])) (consA (cE (.int 0)) nilA)))) (consA (tupE (consA (cE (.int 0)) (consA (cE (.str [97])) (consA (cE (.int 0)) nilA)))) (consA (tupE (consA (cE (.int 0)) (consA (cE (.str [108])) (consA (unE negD (cE (.int 1))) nilA)))) (consA (tupE (consA (cE (.bl true)) (consA (cE (.str [108])) (consA (cE (.int 0)) nilA)))) nilA))))))))))))
    (seqS (exS (mtE extM (vE 11) (consA (lstE (consA (tupE (consA (cE (.int 0)) (consA (cE (.str [108])) (consA (opE addD (opE mulD (vE 5) (opE addD (opE getD (vE 2) (cE (.int 2))) (cE (.int 1)))) (cE (.int 1))) nilA)))) (consA (tupE (consA (cE (.int 0)) (consA (cE .non) (consA (cE (.int 0)) nilA)))) (consA (tupE (consA (cE (.int 0)) (consA (cE (.str [108])) (consA (cE .non) nilA)))) (consA (tupE (consA (cE (.str [48])) (consA (cE (.str [108])) (consA (cE (.int 0)) nilA)))) (consA (tupE (consA (cE (.int 0)) (consA (cE (.str [108, 102])) (consA (cE (.int 0)) nilA)))) nilA)))))) nilA)))
    (seqS (asgS (nmG 12) (callE m_law_pick (consA (vE 0) (consA (vE 1) (consA (vE 11) nilA)))))
    (seqS (ifS (tE (opE neD (lcE (itR1 (cE (.int 2))) [13] (nmG 13) yesT (noX (callE m_law_ask_k02 (consA (vE 13) (consA (vE 2) (consA (vE 12) (consA (cE .non) nilA))))))) (opE mulD (lstE (consA (tupE (consA (cE (.str [114, 101, 102, 117, 115, 101, 100])) (consA (cE (.int 1)) nilA))) nilA)) (cE (.int 2))))) (retS (cE (.bl false))) nxS)
    (seqS (asgS (nmG 12) (callE m_law_pick (consA (vE 0) (consA (vE 1) (consA (lstE (consA (cE .non) (consA (cE (.int 1)) (consA (cE (.str [120])) (consA (cE (.str [115, 83])) (consA (lstE (consA (cE (.str [115])) nilA)) (consA (cE (.str [115, 32, 112])) (consA (opE mulD (cE (.str [115])) (cE (.int 401))) nilA)))))))) nilA)))))
    (retS (opE eqD (callE m_law_ask_k02 (consA (cE (.int 0)) (consA (vE 2) (consA (vE 3) (consA (vE 12) nilA))))) (tupE (consA (cE (.str [114, 101, 102, 117, 115, 101, 100])) (consA (cE (.int 2)) nilA)))))))))))))))))))))))
def m_law_k02 : Fn := fnS 14 b_law_k02
def b_law_ask_k03 : Sm :=
  (tryS (ixR ["NoWheels", "NoStand", "NoRow", "NoSlips", "NoText", "NoPlace", "NoPrinter", "NoWord", "Nothing"] ["NoRow", "NoSlips", "NoWheels"]) (retS (callE m_tape (consA (vE 0) (consA (vE 1) (consA (vE 2) nilA))))))
def m_law_ask_k03 : Fn := fnS 4 b_law_ask_k03
def b_law_with : Sm :=
  (seqS (asgS (nmG 2) (cE (.str [])))
    (seqS (forS (itE (vE 0)) (tupG (consG (nmG 3) (consG (nmG 4) nilG))) (seqS (asgS (nmG 5) (lcE (itA (vE 1)) [6, 7] (tupG (consG (nmG 6) (consG (nmG 7) nilG))) (noXT (tE (opE eqD (vE 6) (vE 3)))) (noX (vE 7))))
    (asgS (nmG 2) (opE addD (vE 2) (opE mulD (vE 4) (ifE (tE (opE eqD (vE 5) (lstE nilA))) (cE (.int 1)) (ifE (tE (opE eqD (opE getD (vE 5) (cE (.int 0))) (cE (.str [108, 111, 115, 116])))) (cE (.int 0)) (cE (.int 2)))))))))
    (retS (vE 2))))
def m_law_with : Fn := fnS 8 b_law_with
def b_law_k03 : Sm :=
  (seqS (asgS (nmG 1) (newE (lstE nilA)))
    (seqS (asgS (nmG 2) (callE m_law_draw (consA (vE 0) (consA (vE 1) (consA (cE (.int 5)) nilA)))))
    (seqS (asgS (nmG 3) (callE m_law_wheels_k01 (consA (vE 0) (consA (vE 1) (consA (cE (.int 7)) nilA)))))
    (seqS (asgS (nmG 4) (callE m_law_row_k02 (consA (vE 0) (consA (vE 1) (consA (vE 3) (consA (cE (.int 12)) nilA))))))
    (seqS (ifS (tE (opE eqD (vE 4) (cE (.str [])))) (retS (andE (opE eqD (callE m_law_ask_k03 (consA (vE 3) (consA (vE 4) (consA (tpxE nilA) nilA)))) (cE (.str []))) (opE eqD (callE m_law_ask_k03 (consA (vE 3) (consA (vE 4) (consA (tpxE (consA (tupE (consA (cE (.int 0)) (consA (cE (.str [108, 111, 115, 116])) nilA))) nilA)) nilA)))) (tupE (consA (cE (.str [114, 101, 102, 117, 115, 101, 100])) (consA (cE (.int 3)) nilA)))))) nxS)
    (seqS (asgS (nmG 5) (unE sortedSetD (lcE (itR1 (vE 2)) [6] (nmG 6) yesT (noX (callE m_law_draw (consA (vE 0) (consA (vE 1) (consA (bE lenB (consA (vE 4) nilA)) nilA))))))))
    (seqS (asgS (nmG 7) (bE tuplexB (consA (lcE (itA (vE 5)) [8] (nmG 8) yesT (noX (tupE (consA (vE 8) (consA (callE m_law_pick (consA (vE 0) (consA (vE 1) (consA (lstE (consA (cE (.str [108, 111, 115, 116])) (consA (cE (.str [116, 119, 105, 99, 101])) nilA))) nilA)))) nilA))))) nilA)))
    (seqS (ifS (tE (opE neD (callE m_law_ask_k03 (consA (vE 3) (consA (vE 4) (consA (vE 7) nilA)))) (opE getD (callE m_law_go (consA (vE 3) (consA (tupE (consA (cE (.int 0)) (consA (cE (.str [108])) (consA (cE (.int 0)) nilA)))) (consA (callE m_law_with (consA (vE 4) (consA (vE 7) nilA))) nilA)))) (cE (.int 1))))) (retS (cE (.bl false))) nxS)
    (seqS (asgS (nmG 9) (callE m_law_draw (consA (vE 0) (consA (vE 1) (consA (bE lenB (consA (vE 4) nilA)) nilA)))))
    (seqS (ifS (tE (opE neD (callE m_law_ask_k03 (consA (vE 3) (consA (vE 4) (consA (tpxE (consA (tupE (consA (vE 9) (consA (cE (.str [108, 111, 115, 116])) nilA))) nilA)) nilA)))) (callE m_law_ask_k03 (consA (vE 3) (consA (opE addD (slE slD (vE 4) noO (someO (vE 9))) (slE slD (vE 4) (someO (opE addD (vE 9) (cE (.int 1)))) noO)) (consA (tpxE nilA) nilA)))))) (retS (cE (.bl false))) nxS)
    (seqS (asgS (nmG 10) (opE addD (slE slD (vE 4) noO (someO (opE addD (vE 9) (cE (.int 1))))) (slE slD (vE 4) (someO (vE 9)) noO)))
    (seqS (asgS (nmG 11) (callE m_law_ask_k03 (consA (vE 3) (consA (vE 4) (consA (tpxE (consA (tupE (consA (vE 9) (consA (cE (.str [116, 119, 105, 99, 101])) nilA))) nilA)) nilA)))))
    (seqS (ifS (andT (tE (opE ltD (bE lenB (consA (vE 4) nilA)) (cE (.int 400)))) (tE (opE neD (vE 11) (callE m_law_ask_k03 (consA (vE 3) (consA (vE 10) (consA (tpxE nilA) nilA))))))) (retS (cE (.bl false))) nxS)
    (seqS (asgS (nmG 12) (newE (lstE (consA (cE .non) (consA (lstE nilA) (consA (opE addD (bE listB (consA (vE 7) nilA)) (lstE (consA (tupE (consA (cE (.int 0)) (consA (cE (.str [108, 111, 115, 116])) nilA))) nilA))) (consA (tupE (consA (tupE (consA (bE lenB (consA (vE 4) nilA)) (consA (cE (.str [108, 111, 115, 116])) nilA))) nilA)) (consA (tupE (consA (tupE (consA (unE negD (cE (.int 1))) (consA (cE (.str [108, 111, 115, 116])) nilA))) nilA)) (consA (tupE (consA (tupE (consA (cE (.int 0)) (consA (cE (.str [103, 111, 110, 101])) nilA))) nilA)) nilA)))))))))
    (seqS (exS (mtE appM (vE 12) (consA (tupE (consA (tupE (consA (cE (.bl true)) (consA (cE (.str [108, 111, 115, 116])) nilA))) nilA)) nilA)))
    (seqS (exS (mtE extM (vE 12) (consA (lstE (consA (tupE (consA (tupE (consA (cE (.int 0)) (consA (cE (.str [108, 111, 115, 116])) nilA))) (consA (tupE (consA (cE (.int 0)) (consA (cE (.str [116, 119, 105, 99, 101])) nilA))) nilA))) (consA (tupE (consA (tupE (consA (cE (.int 0)) (consA (cE .non) nilA))) nilA)) (consA (tupE (consA (tupE (consA (cE .non) (consA (cE (.str [108, 111, 115, 116])) nilA))) nilA)) (consA (tupE (consA (cE (.int 0)) (consA (cE (.str [108, 111, 115, 116])) nilA))) (consA (tupE (consA (tupE (consA (cE (.int 0)) (consA (cE (.str [108, 111, 115, 116])) (consA (cE (.int 1)) nilA)))) nilA)) (consA (cE (.str [108, 111, 115, 116])) nilA))))))) nilA)))
    (seqS (ifS (tE (opE gtD (bE lenB (consA (vE 4) nilA)) (cE (.int 5)))) (exS (mtE extM (vE 12) (consA (lstE (consA (tupE (consA (tupE (consA (cE (.int 1)) (consA (cE (.str [108, 111, 115, 116])) nilA))) (consA (tupE (consA (cE (.int 0)) (consA (cE (.str [108, 111, 115, 116])) nilA))) nilA))) (consA (bE tupleB (consA (lcE (itR1 (cE (.int 5))) [8] (nmG 8) yesT (noX (tupE (consA (vE 8) (consA (cE (.str [108, 111, 115, 116])) nilA))))) nilA)) nilA))) nilA))) nxS)
    (retS (opE eqD (callE m_law_ask_k03 (consA (vE 3) (consA (vE 4) (consA (callE m_law_pick (consA (vE 0) (consA (vE 1) (consA (vE 12) nilA)))) nilA)))) (tupE (consA (cE (.str [114, 101, 102, 117, 115, 101, 100])) (consA (cE (.int 3)) nilA))))))))))))))))))))))
def m_law_k03 : Fn := fnS 13 b_law_k03
def b_law_text_k04 : Sm :=
  (seqS (asgS (nmG 4) (opE addD (opE getD (vE 2) (cE (.int 0))) (opE getD (vE 2) (cE (.int 1)))))
    (seqS (asgS (nmG 5) (lcE (itR1 (cE (.int 3))) [6] (nmG 6) yesT (noX (callE m_law_pick (consA (vE 0) (consA (vE 1) (consA (vE 4) nilA)))))))
    (seqS (asgS (nmG 7) (cE (.str [])))
    (seqS (forS (itR1 (callE m_law_draw (consA (vE 0) (consA (vE 1) (consA (opE addD (vE 3) (cE (.int 1))) nilA))))) (nmG 6) (seqS (asgS (nmG 8) (ifE (tE (opE eqD (callE m_law_draw (consA (vE 0) (consA (vE 1) (consA (cE (.int 2)) nilA)))) (cE (.int 0)))) (vE 4) (vE 5)))
    (asgS (nmG 7) (opE addD (vE 7) (callE m_law_pick (consA (vE 0) (consA (vE 1) (consA (vE 8) nilA))))))))
    (retS (vE 7))))))
def m_law_text_k04 : Fn := fnS 9 b_law_text_k04
def b_need_text : Sm :=
  (seqS (exS (callE m_need_wheels (consA (vE 0) nilA)))
    (ifS (orT (notT (tE (callE m_are_signs (consA (vE 1) (consA (cE (.int 0)) (consA (vE 2) nilA)))))) (notT (tE (bE allB (consA (lcE (itA (vE 1)) [3] (nmG 3) yesT (noX (opE inD (vE 3) (opE addD (opE getD (vE 0) (cE (.int 0))) (opE getD (vE 0) (cE (.int 1))))))) nilA))))) (raiseS "NoText") nxS))
def m_need_text : Fn := fnS 4 b_need_text
def b_spots_of : Sm :=
  (retS (lcE (itZ (slE slD (vE 0) noO (someO (cE (.int 2)))) (tupE (consA (cE (.str [108])) (consA (cE (.str [102])) nilA)))) [2, 3] (tupG (consG (nmG 2) (consG (nmG 3) nilG))) (noXT (tE (opE inD (vE 1) (vE 2)))) (noX (tupE (consA (sopE sidxD (vE 2) (vE 1)) (consA (vE 3) nilA))))))
def m_spots_of : Fn := fnS 4 b_spots_of
def b_step_row : Sm :=
  (seqS (asgS (nmG 3) (opE modD (opE subD (opE getD (vE 2) (cE (.int 0))) (opE getD (vE 1) (cE (.int 0)))) (callE m_places_of (consA (vE 0) nilA))))
    (retS (opE addD (opE addD (opE mulD (cE (.str [115])) (vE 3)) (opE mulD (opE getD (vE 2) (cE (.int 1))) (bE intB (consA (opE neD (opE getD (vE 1) (cE (.int 1))) (opE getD (vE 2) (cE (.int 1)))) nilA)))) (cE (.str [112])))))
def m_step_row : Fn := fnS 4 b_step_row
def b_least_row : Sm :=
  (seqS (asgS (nmG 2) (gd1E (slE slD (cE (.tup [(.int 0), (.str [108]), (.int 0)])) noO (someO (cE (.int 2)))) (cE (.str []))))
    (seqS (frzG 2) (seqS (forS (itA (vE 1)) (nmG 3) (seqS (asgS (nmG 4) gd0E)
    (seqS (forS (itA (callE m_spots_of (consA (vE 0) (consA (vE 3) nilA)))) (nmG 5) (seqS (asgS (nmG 6) (lcE (itK (vE 2)) [7] (nmG 7) yesT (noX (opE addD (opE getG (vE 2) (vE 7)) (callE m_step_row (consA (vE 0) (consA (vE 7) (consA (vE 5) nilA))))))))
    (putG (vE 4) (vE 5) (opE getD (bE minB (consA (lcE (itA (vE 6)) [8] (nmG 8) yesT (noX (tupE (consA (bE lenB (consA (vE 8) nilA)) (consA (vE 8) nilA))))) nilA)) (cE (.int 1))))))
    (seqS (frzG 4) (asgS (nmG 2) (vE 4))))))
    (retS (opE getD (bE minB (consA (lcE (itV (vE 2)) [8] (nmG 8) yesT (noX (tupE (consA (bE lenB (consA (vE 8) nilA)) (consA (vE 8) nilA))))) nilA)) (cE (.int 1)))))))
def m_least_row : Fn := fnS 9 b_least_row
def b_row_for : Sm :=
  (seqS (exS (callE m_need_text (consA (vE 0) (consA (vE 1) (consA (cE (.int 30)) nilA)))))
    (retS (callE m_least_row (consA (vE 0) (consA (vE 1) nilA)))))
def m_row_for : Fn := fnS 2 b_row_for
def b_ahead : Sm :=
  (seqS (exS (callE m_need_text (consA (vE 0) (consA (vE 1) (consA (cE (.int 30)) nilA)))))
    (seqS (ifS (notT (tE (callE m_is_whole (consA (vE 2) (consA (cE (.int 0)) (consA (opE subD (callE m_places_of (consA (vE 0) nilA)) (cE (.int 1))) nilA)))))) (raiseS "NoPlace") nxS)
    (retS (opE getD (callE m_rowed (consA (vE 0) (consA (tupE (consA (vE 2) (consA (cE (.str [108])) (consA (cE (.int 0)) nilA)))) (consA (callE m_least_row (consA (vE 0) (consA (vE 1) nilA))) nilA)))) (cE (.int 1))))))
def m_ahead : Fn := fnS 3 b_ahead
def b_law_ask_k11 : Sm :=
  (tryS (ixR ["NoWheels", "NoStand", "NoRow", "NoSlips", "NoText", "NoPlace", "NoPrinter", "NoWord", "Nothing"] ["NoPlace", "NoRow", "NoStand", "NoText", "NoWheels"]) (retS (callE m_ahead (consA (vE 0) (consA (vE 1) (consA (vE 2) nilA))))))
def m_law_ask_k11 : Fn := fnS 4 b_law_ask_k11
def b_law_k11 : Sm :=
  (seqS (asgS (nmG 1) (newE (lstE nilA)))
    (seqS (asgS (nmG 2) (callE m_law_wheels_k01 (consA (vE 0) (consA (vE 1) (consA (cE (.int 8)) nilA)))))
    (seqS (asgS (nmG 3) (callE m_law_text_k04 (consA (vE 0) (consA (vE 1) (consA (vE 2) (consA (cE (.int 12)) nilA))))))
    (seqS (asgS (nmG 4) (bE lenB (consA (opE getD (vE 2) (cE (.int 0))) nilA)))
    (seqS (asgS (nmG 5) (callE m_law_draw (consA (vE 0) (consA (vE 1) (consA (vE 4) nilA)))))
    (seqS (asgS (nmG 6) (callE m_row_for (consA (vE 2) (consA (vE 3) nilA))))
    (seqS (asgS (nmG 7) (callE m_law_ask_k11 (consA (vE 2) (consA (vE 3) (consA (vE 5) nilA)))))
    (seqS (ifS (orT (tE (opE neD (vE 7) (opE getD (callE m_law_go (consA (vE 2) (consA (tupE (consA (vE 5) (consA (cE (.str [108])) (consA (cE (.int 0)) nilA)))) (consA (vE 6) nilA)))) (cE (.int 1))))) (tE (opE neD (callE m_law_ask_k11 (consA (vE 2) (consA (vE 3) (consA (cE (.int 0)) nilA)))) (vE 3)))) (retS (cE (.bl false))) nxS)
    (seqS (ifS (tE (opE neD (opE getD (callE m_behind (consA (vE 2) (consA (tupE (consA (vE 5) (consA (cE (.str [108])) (consA (cE (.int 0)) nilA)))) (consA (vE 6) nilA)))) (cE (.int 1))) (vE 7))) (retS (cE (.bl false))) nxS)
    (seqS (ifS (tE (bE allB (consA (lcE (itA (vE 3)) [8] (nmG 8) yesT (noX (opE notInD (vE 8) (opE getD (vE 2) (cE (.int 1)))))) nilA))) (seqS (asgS (nmG 9) (sopE joinD (cE (.str [])) (lcE (itA (vE 3)) [8] (nmG 8) yesT (noX (opE getD (opE getD (vE 2) (cE (.int 0))) (opE modD (opE addD (sopE sidxD (opE getD (vE 2) (cE (.int 0))) (vE 8)) (vE 5)) (vE 4)))))))
    (ifS (tE (opE neD (callE m_law_ask_k11 (consA (vE 2) (consA (vE 3) (consA (vE 5) nilA)))) (vE 9))) (retS (cE (.bl false))) nxS)) nxS)
    (seqS (ifS (tE (opE neD (bE lenB (consA (callE m_law_ask_k11 (consA (vE 2) (consA (vE 3) (consA (vE 5) nilA)))) nilA)) (bE lenB (consA (vE 3) nilA)))) (retS (cE (.bl false))) nxS)
    (seqS (asgS (nmG 10) (callE m_law_pick (consA (vE 0) (consA (vE 1) (consA (lstE (consA (vE 4) (consA (unE negD (cE (.int 1))) (consA (cE .non) (consA (cE (.bl true)) (consA (cE (.str [48])) nilA)))))) nilA)))))
    (seqS (ifS (tE (opE neD (callE m_law_ask_k11 (consA (vE 2) (consA (vE 3) (consA (vE 10) nilA)))) (tupE (consA (cE (.str [114, 101, 102, 117, 115, 101, 100])) (consA (cE (.int 5)) nilA))))) (retS (cE (.bl false))) nxS)
    (retS (opE eqD (callE m_law_ask_k11 (consA (vE 2) (consA (callE m_law_pick (consA (vE 0) (consA (vE 1) (consA (lstE (consA (cE .non) (consA (cE (.str [65])) (consA (cE (.int 1)) (consA (opE mulD (opE getD (opE getD (vE 2) (cE (.int 0))) (cE (.int 0))) (cE (.int 31))) nilA))))) nilA)))) (consA (vE 10) nilA)))) (tupE (consA (cE (.str [114, 101, 102, 117, 115, 101, 100])) (consA (cE (.int 4)) nilA))))))))))))))))))
def m_law_k11 : Fn := fnS 11 b_law_k11
def b_law_wheel : Sm :=
  (seqS (parS 3 4 (newE (bE listB (consA (cE (.str [97, 98, 99, 120, 121, 122, 48, 49, 57, 32, 46, 44, 45])) nilA))) (cE (.str [])))
    (seqS (forS (itR1 (vE 2)) (nmG 5) (asgS (nmG 4) (opE addD (vE 4) (mtE popAtM (vE 3) (consA (callE m_law_draw (consA (vE 0) (consA (vE 1) (consA (bE lenB (consA (vE 3) nilA)) nilA)))) nilA)))))
    (retS (vE 4))))
def m_law_wheel : Fn := fnS 6 b_law_wheel
def b_law_wheels : Sm :=
  (seqS (asgS (nmG 3) (opE addD (cE (.int 2)) (callE m_law_draw (consA (vE 0) (consA (vE 1) (consA (opE subD (vE 2) (cE (.int 1))) nilA))))))
    (retS (tupE (consA (callE m_law_wheel (consA (vE 0) (consA (vE 1) (consA (vE 3) nilA)))) (consA (callE m_law_wheel (consA (vE 0) (consA (vE 1) (consA (vE 3) nilA)))) (consA (opE addD (cE (.int 1)) (callE m_law_draw (consA (vE 0) (consA (vE 1) (consA (cE (.int 3)) nilA))))) nilA))))))
def m_law_wheels : Fn := fnS 4 b_law_wheels
def b_turned : Sm :=
  (seqS (exS (callE m_need_wheels (consA (vE 0) nilA)))
    (seqS (ifS (notT (tE (callE m_is_whole (consA (vE 1) (consA (cE (.int 0)) (consA (opE subD (callE m_places_of (consA (vE 0) nilA)) (cE (.int 1))) nilA)))))) (raiseS "NoPlace") nxS)
    (retS (opE addD (bE tupleB (consA (lcE (itA (slE slD (vE 0) noO (someO (cE (.int 2))))) [2] (nmG 2) yesT (noX (opE addD (slE slD (vE 2) (someO (vE 1)) noO) (slE slD (vE 2) noO (someO (vE 1)))))) nilA)) (slE slD (vE 0) (someO (cE (.int 2))) noO)))))
def m_turned : Fn := fnS 3 b_turned
def b_signs_of : Sm :=
  (seqS (exS (callE m_need_wheels (consA (vE 0) nilA)))
    (retS (sopE joinD (cE (.str [])) (unE sortedSetD (opE addD (opE getD (vE 0) (cE (.int 0))) (opE getD (vE 0) (cE (.int 1))))))))
def m_signs_of : Fn := fnS 1 b_signs_of
def b_with_signs : Sm :=
  (seqS (exS (callE m_need_wheels (consA (vE 0) nilA)))
    (seqS (forS (itA (tupE (consA (vE 1) (consA (vE 2) nilA)))) (nmG 3) (ifS (orT (notT (tE (unE (isD "str") (vE 3)))) (orT (tE (opE neD (bE lenB (consA (vE 3) nilA)) (cE (.int 1)))) (tE (opE notInD (vE 3) (callE m_signs_of (consA (vE 0) nilA)))))) (raiseS "NoSign") nxS))
    (seqS (asgS (nmG 4) (newE (lstE nilA)))
    (seqS (forS (itA (slE slD (vE 0) noO (someO (cE (.int 2))))) (nmG 5) (exS (mtE appM (vE 4) (consA (sopE joinD (cE (.str [])) (lcE (itA (vE 5)) [3] (nmG 3) yesT (noX (dget2E (vE 1) (vE 2) (vE 2) (vE 1) (vE 3) (vE 3))))) nilA))))
    (retS (tupE (consA (opE getD (vE 4) (cE (.int 0))) (consA (opE getD (vE 4) (cE (.int 1))) (consA (opE getD (vE 0) (cE (.int 2))) nilA)))))))))
def m_with_signs : Fn := fnS 6 b_with_signs
def b_swapped : Sm :=
  (seqS (exS (callE m_need_wheels (consA (vE 0) nilA)))
    (retS (tupE (consA (opE getD (vE 0) (cE (.int 1))) (consA (opE getD (vE 0) (cE (.int 0))) (consA (opE getD (vE 0) (cE (.int 2))) nilA))))))
def m_swapped : Fn := fnS 1 b_swapped
def b_with_turns : Sm :=
  (seqS (exS (callE m_need_wheels (consA (vE 0) nilA)))
    (seqS (ifS (notT (tE (callE m_is_whole (consA (vE 1) (consA (cE (.int 1)) (consA (cE (.int 3)) nilA)))))) (raiseS "NoPlace") nxS)
    (retS (opE addD (slE slD (vE 0) noO (someO (cE (.int 2)))) (tupE (consA (vE 1) nilA))))))
def m_with_turns : Fn := fnS 2 b_with_turns
def b_law_k20 : Sm :=
  (seqS (asgS (nmG 1) (newE (lstE nilA)))
    (seqS (asgS (nmG 2) (callE m_law_wheels (consA (vE 0) (consA (vE 1) (consA (cE (.int 9)) nilA)))))
    (seqS (asgS (nmG 3) (bE lenB (consA (opE getD (vE 2) (cE (.int 0))) nilA)))
    (seqS (asgS (nmG 4) (callE m_law_draw (consA (vE 0) (consA (vE 1) (consA (vE 3) nilA)))))
    (seqS (asgS (nmG 5) (callE m_turned (consA (vE 2) (consA (vE 4) nilA))))
    (seqS (forS (itR1 (cE (.int 2))) (nmG 6) (ifS (tE (opE neD (lcE (itR1 (vE 3)) [7] (nmG 7) yesT (noX (opE getD (opE getD (vE 5) (vE 6)) (vE 7)))) (lcE (itR1 (vE 3)) [7] (nmG 7) yesT (noX (opE getD (opE getD (vE 2) (vE 6)) (opE modD (opE addD (vE 7) (vE 4)) (vE 3))))))) (retS (cE (.bl false))) nxS))
    (seqS (ifS (orT (tE (opE neD (opE getD (vE 5) (cE (.int 2))) (opE getD (vE 2) (cE (.int 2))))) (tE (opE neD (callE m_turned (consA (vE 5) (consA (opE modD (opE subD (vE 3) (vE 4)) (vE 3)) nilA))) (vE 2)))) (retS (cE (.bl false))) nxS)
    (seqS (ifS (tE (opE neD (callE m_swapped (consA (vE 2) nilA)) (tupE (consA (opE getD (vE 2) (cE (.int 1))) (consA (opE getD (vE 2) (cE (.int 0))) (consA (opE getD (vE 2) (cE (.int 2))) nilA)))))) (retS (cE (.bl false))) nxS)
    (seqS (asgS (nmG 8) (unE sortedSetD (opE addD (opE getD (vE 2) (cE (.int 0))) (opE getD (vE 2) (cE (.int 1))))))
    (seqS (parS 9 10 (callE m_law_pick (consA (vE 0) (consA (vE 1) (consA (vE 8) nilA)))) (callE m_law_pick (consA (vE 0) (consA (vE 1) (consA (vE 8) nilA)))))
    (seqS (asgS (nmG 11) (callE m_with_signs (consA (vE 2) (consA (vE 9) (consA (vE 10) nilA)))))
    (seqS (forS (itR1 (cE (.int 2))) (nmG 6) (seqS (asgS (nmG 12) (cE (.str [])))
    (seqS (forS (itA (opE getD (vE 2) (vE 6))) (nmG 13) (asgS (nmG 12) (opE addD (vE 12) (ifE (tE (opE eqD (vE 13) (vE 9))) (vE 10) (ifE (tE (opE eqD (vE 13) (vE 10))) (vE 9) (vE 13))))))
    (ifS (tE (opE neD (opE getD (vE 11) (vE 6)) (vE 12))) (retS (cE (.bl false))) nxS))))
    (seqS (ifS (orT (tE (opE neD (callE m_with_signs (consA (vE 11) (consA (vE 10) (consA (vE 9) nilA)))) (vE 2))) (tE (opE neD (opE getD (vE 11) (cE (.int 2))) (opE getD (vE 2) (cE (.int 2)))))) (retS (cE (.bl false))) nxS)
    (seqS (asgS (nmG 14) (opE addD (cE (.int 1)) (callE m_law_draw (consA (vE 0) (consA (vE 1) (consA (cE (.int 3)) nilA))))))
    (retS (andE (opE eqD (callE m_with_turns (consA (vE 2) (consA (vE 14) nilA))) (opE addD (slE slD (vE 2) noO (someO (cE (.int 2)))) (tupE (consA (vE 14) nilA)))) (opE eqD (callE m_swapped (consA (callE m_swapped (consA (vE 2) nilA)) nilA)) (vE 2))))))))))))))))))
def m_law_k20 : Fn := fnS 15 b_law_k20
def b_apart_row : Sm :=
  (seqS (exS (callE m_need_wheels (consA (vE 0) nilA)))
    (seqS (exS (callE m_need_wheels (consA (vE 1) nilA)))
    (seqS (asgS (nmG 2) (gd1E (tupE (consA (cE (.tup [(.int 0), (.str [108]), (.int 0)])) (consA (cE (.tup [(.int 0), (.str [108]), (.int 0)])) nilA))) (cE (.bl true))))
    (seqS (asgS (nmG 3) (lstE (consA (tupE (consA (cE (.str [])) (consA (cE (.tup [(.int 0), (.str [108]), (.int 0)])) (consA (cE (.tup [(.int 0), (.str [108]), (.int 0)])) nilA)))) nilA)))
    (seqS (whileS 100000 (tE (opE neD (vE 3) (lstE nilA))) (seqS (asgS (nmG 4) (newE (lstE nilA)))
    (seqS (forS (itA (vE 3)) (tupG (consG (nmG 5) (consG (nmG 6) (consG (nmG 7) nilG)))) (forS (itA (cE (.str c_PULSES))) (nmG 8) (seqS (asgS (tupG (consG (nmG 9) (consG (nmG 10) nilG))) (callE m_pulsed (consA (vE 0) (consA (vE 6) (consA (vE 8) nilA)))))
    (seqS (asgS (tupG (consG (nmG 11) (consG (nmG 12) nilG))) (callE m_pulsed (consA (vE 1) (consA (vE 7) (consA (vE 8) nilA)))))
    (seqS (ifS (tE (opE neD (vE 10) (vE 12))) (retS (opE addD (vE 5) (vE 8))) nxS)
    (ifS (tE (opE notInG (tupE (consA (vE 9) (consA (vE 11) nilA))) (vE 2))) (seqS (putG (vE 2) (tupE (consA (vE 9) (consA (vE 11) nilA))) (cE (.bl true)))
    (exS (mtE appM (vE 4) (consA (tupE (consA (opE addD (vE 5) (vE 8)) (consA (vE 9) (consA (vE 11) nilA)))) nilA)))) nxS))))))
    (seqS (frzS 4) (asgS (nmG 3) (vE 4))))))
    (retS (cE .non)))))))
def m_apart_row : Fn := fnS 13 b_apart_row
def b_law_pulse : Sm :=
  (seqS (asgS (tupG (consG (nmG 3) (consG (nmG 4) (consG (nmG 5) nilG)))) (vE 1))
    (seqS (ifS (tE (opE eqD (vE 2) (cE (.str [115])))) (seqS (asgS (nmG 6) (bE lenB (consA (opE getD (vE 0) (cE (.int 0))) nilA)))
    (seqS (ifS (andT (tE (opE eqD (vE 3) (cE (.int 0)))) (tE (opE geD (vE 5) (opE mulD (vE 6) (opE getD (vE 0) (cE (.int 2))))))) (retS (tupE (consA (vE 1) (consA (cE (.str [])) nilA)))) nxS)
    (retS (tupE (consA (tupE (consA (opE modD (opE addD (vE 3) (cE (.int 1))) (vE 6)) (consA (vE 4) (consA (opE addD (vE 5) (cE (.int 1))) nilA)))) (consA (cE (.str [])) nilA)))))) nxS)
    (seqS (ifS (tE (opE eqD (vE 2) (cE (.str [112])))) (retS (tupE (consA (tupE (consA (vE 3) (consA (vE 4) (consA (cE (.int 0)) nilA)))) (consA (opE getD (opE getD (vE 0) (bE intB (consA (opE eqD (vE 4) (cE (.str [102]))) nilA))) (vE 3)) nilA)))) nxS)
    (retS (tupE (consA (tupE (consA (vE 3) (consA (vE 2) (consA (cE (.int 0)) nilA)))) (consA (cE (.str [])) nilA)))))))
def m_law_pulse : Fn := fnS 7 b_law_pulse
def b_law_shortest : Sm :=
  (seqS (asgS (nmG 2) (tupE (consA (tupE (consA (cE (.int 0)) (consA (cE (.str [108])) (consA (cE (.int 0)) nilA)))) (consA (tupE (consA (cE (.int 0)) (consA (cE (.str [108])) (consA (cE (.int 0)) nilA)))) nilA))))
    (seqS (par3S 3 4 5 (gd1E (vE 2) (cE (.bl true))) (lstE (consA (vE 2) nilA)) (cE (.int 0)))
    (seqS (whileS 100000 (tE (opE neD (vE 4) (lstE nilA))) (seqS (asgS (nmG 5) (opE addD (vE 5) (cE (.int 1))))
    (seqS (asgS (nmG 6) (newE (lstE nilA)))
    (seqS (forS (itA (vE 4)) (tupG (consG (nmG 7) (consG (nmG 8) nilG))) (forS (itA (cE (.str [115, 112, 108, 102]))) (nmG 9) (seqS (parS 10 11 (callE m_law_pulse (consA (vE 0) (consA (vE 7) (consA (vE 9) nilA)))) (callE m_law_pulse (consA (vE 1) (consA (vE 8) (consA (vE 9) nilA)))))
    (seqS (ifS (tE (opE neD (opE getD (vE 10) (cE (.int 1))) (opE getD (vE 11) (cE (.int 1))))) (retS (vE 5)) nxS)
    (seqS (asgS (nmG 12) (tupE (consA (opE getD (vE 10) (cE (.int 0))) (consA (opE getD (vE 11) (cE (.int 0))) nilA))))
    (ifS (tE (opE notInG (vE 12) (vE 3))) (seqS (putG (vE 3) (vE 12) (cE (.bl true)))
    (exS (mtE appM (vE 6) (consA (vE 12) nilA)))) nxS))))))
    (seqS (frzS 6) (asgS (nmG 4) (vE 6)))))))
    (retS (cE .non)))))
def m_law_shortest : Fn := fnS 13 b_law_shortest
def b_law_run : Sm :=
  (seqS (asgS (nmG 3) (cE (.str [])))
    (seqS (forS (itA (vE 2)) (nmG 4) (seqS (asgS (tupG (consG (nmG 1) (consG (nmG 5) nilG))) (callE m_law_pulse (consA (vE 0) (consA (vE 1) (consA (vE 4) nilA)))))
    (asgS (nmG 3) (opE addD (vE 3) (vE 5)))))
    (retS (tupE (consA (vE 1) (consA (vE 3) nilA))))))
def m_law_run : Fn := fnS 6 b_law_run
def b_law_k21 : Sm :=
  (seqS (asgS (nmG 1) (newE (lstE nilA)))
    (seqS (asgS (nmG 2) (callE m_law_wheels (consA (vE 0) (consA (vE 1) (consA (cE (.int 3)) nilA)))))
    (seqS (asgS (nmG 3) (callE m_law_draw (consA (vE 0) (consA (vE 1) (consA (cE (.int 6)) nilA)))))
    (seqS (asgS (nmG 4) (opE getD (lstE (consA (vE 2) (consA (callE m_turned (consA (vE 2) (consA (cE (.int 1)) nilA))) (consA (callE m_swapped (consA (vE 2) nilA)) (consA (callE m_with_turns (consA (vE 2) (consA (opE addD (cE (.int 1)) (callE m_law_draw (consA (vE 0) (consA (vE 1) (consA (cE (.int 3)) nilA))))) nilA))) (consA (vE 2) (consA (vE 2) nilA))))))) (vE 3)))
    (seqS (ifS (tE (opE eqD (vE 3) (cE (.int 4)))) (asgS (nmG 4) (callE m_law_wheels (consA (vE 0) (consA (vE 1) (consA (cE (.int 3)) nilA))))) nxS)
    (seqS (ifS (tE (opE eqD (vE 3) (cE (.int 5)))) (asgS (nmG 4) (callE m_with_signs (consA (vE 2) (consA (opE getD (opE getD (vE 2) (cE (.int 0))) (cE (.int 0))) (consA (callE m_law_pick (consA (vE 0) (consA (vE 1) (consA (bE listB (consA (opE getD (vE 2) (cE (.int 1))) nilA)) nilA)))) nilA))))) nxS)
    (seqS (asgS (nmG 5) (callE m_apart_row (consA (vE 2) (consA (vE 4) nilA))))
    (seqS (asgS (nmG 6) (callE m_law_shortest (consA (vE 2) (consA (vE 4) nilA))))
    (seqS (ifS (orT (tE (opE isND (vE 5) (cE .non))) (tE (opE isND (vE 6) (cE .non)))) (retS (andE (opE isND (vE 5) (cE .non)) (opE isND (vE 6) (cE .non)))) nxS)
    (seqS (ifS (orT (tE (opE neD (bE lenB (consA (vE 5) nilA)) (vE 6))) (tE (opE eqD (callE m_tape (consA (vE 2) (consA (vE 5) (consA (tpxE nilA) nilA)))) (callE m_tape (consA (vE 4) (consA (vE 5) (consA (tpxE nilA) nilA))))))) (retS (cE (.bl false))) nxS)
    (retS (opE neD (opE getD (callE m_law_run (consA (vE 2) (consA (tupE (consA (cE (.int 0)) (consA (cE (.str [108])) (consA (cE (.int 0)) nilA)))) (consA (vE 5) nilA)))) (cE (.int 1))) (opE getD (callE m_law_run (consA (vE 4) (consA (tupE (consA (cE (.int 0)) (consA (cE (.str [108])) (consA (cE (.int 0)) nilA)))) (consA (vE 5) nilA)))) (cE (.int 1)))))))))))))))
def m_law_k21 : Fn := fnS 7 b_law_k21
def b_law_odd_wheels : Sm :=
  (seqS (asgS (nmG 2) (lstE (consA (cE .non) (consA (cE (.int 5)) (consA (tupE nilA) (consA (tupE (consA (cE (.str [97, 98])) (consA (cE (.str [97, 98])) nilA))) (consA (tupE (consA (cE (.str [97, 98])) (consA (cE (.str [97, 98, 99])) (consA (cE (.int 1)) nilA)))) (consA (tupE (consA (cE (.str [97, 97])) (consA (cE (.str [97, 98])) (consA (cE (.int 1)) nilA)))) (consA (tupE (consA (cE (.str [97])) (consA (cE (.str [98])) (consA (cE (.int 1)) nilA)))) (consA (tupE (consA (cE (.str [97, 66])) (consA (cE (.str [97, 98])) (consA (cE (.int 1)) nilA)))) nilA))))))))))
    (seqS (asgS (nmG 2) (opE addD (vE 2) (lstE (consA (tupE (consA (cE (.str [97, 98])) (consA (cE (.str [97, 98])) (consA (cE (.int 4)) nilA)))) (consA (tupE (consA (cE (.str [97, 98])) (consA (cE (.str [97, 98])) (consA (cE (.bl true)) nilA)))) (consA (lstE (consA (cE (.str [97, 98])) (consA (cE (.str [97, 98])) (consA (cE (.int 1)) nilA)))) (consA (tupE (consA (tupE (consA (cE (.str [97])) (consA (cE (.str [98])) nilA))) (consA (cE (.str [97, 98])) (consA (cE (.int 1)) nilA)))) (consA (cE (.str [97, 98])) nilA))))))))
    (retS (callE m_law_pick (consA (vE 0) (consA (vE 1) (consA (opE addD (vE 2) (lstE (consA (tupE (consA (cE (.str [97, 98])) (consA (cE (.str [97, 98])) (consA (cE (.int 0)) nilA)))) nilA))) nilA)))))))
def m_law_odd_wheels : Fn := fnS 3 b_law_odd_wheels
def b_law_ask_k22 : Sm :=
  (tryS (ixR ["NoWheels", "NoStand", "NoRow", "NoSlips", "NoText", "NoPlace", "NoPrinter", "NoWord", "Nothing", "NoSign"] ["NoPlace", "NoSign", "NoWheels"]) (seqS (ifS (tE (opE ltD (vE 0) (cE (.int 3)))) (retS (callX (tblOf [("turned", m_turned), ("with_turns", m_with_turns), ("apart_row", m_apart_row)]) (opE getD (lstE (consA (cE (.fn "turned")) (consA (cE (.fn "with_turns")) (consA (cE (.fn "apart_row")) nilA)))) (vE 0)) (consA (vE 1) (consA (vE 2) nilA)))) nxS)
    (retS (ifE (tE (opE eqD (vE 0) (cE (.int 3)))) (callE m_swapped (consA (vE 1) nilA)) (callE m_with_signs (consA (vE 1) (consA (vE 2) (consA (vE 3) nilA))))))))
def m_law_ask_k22 : Fn := fnS 5 b_law_ask_k22
def b_law_k22 : Sm :=
  (seqS (asgS (nmG 1) (newE (lstE nilA)))
    (seqS (asgS (tupG (consG (nmG 2) (consG (nmG 3) nilG))) (tupE (consA (callE m_law_odd_wheels (consA (vE 0) (consA (vE 1) nilA))) (consA (callE m_law_wheels (consA (vE 0) (consA (vE 1) (consA (cE (.int 6)) nilA)))) nilA))))
    (seqS (ifS (tE (opE neD (lcE (itA (tupE (consA (cE (.int 0)) (consA (cE (.int 1)) (consA (cE (.int 3)) (consA (cE (.int 4)) nilA)))))) [4] (nmG 4) yesT (noX (callE m_law_ask_k22 (consA (vE 4) (consA (vE 2) (consA (cE .non) (consA (cE .non) nilA))))))) (opE mulD (lstE (consA (tupE (consA (cE (.str [114, 101, 102, 117, 115, 101, 100])) (consA (cE (.int 0)) nilA))) nilA)) (cE (.int 4))))) (retS (cE (.bl false))) nxS)
    (seqS (ifS (orT (tE (opE neD (callE m_law_ask_k22 (consA (cE (.int 2)) (consA (vE 2) (consA (vE 3) (consA (cE .non) nilA))))) (tupE (consA (cE (.str [114, 101, 102, 117, 115, 101, 100])) (consA (cE (.int 0)) nilA))))) (tE (opE neD (callE m_law_ask_k22 (consA (cE (.int 2)) (consA (vE 3) (consA (vE 2) (consA (cE .non) nilA))))) (tupE (consA (cE (.str [114, 101, 102, 117, 115, 101, 100])) (consA (cE (.int 0)) nilA)))))) (retS (cE (.bl false))) nxS)
    (seqS (asgS (nmG 5) (callE m_law_pick (consA (vE 0) (consA (vE 1) (consA (lstE (consA (cE .non) (consA (unE negD (cE (.int 1))) (consA (bE lenB (consA (opE getD (vE 3) (cE (.int 0))) nilA)) (consA (cE (.bl true)) (consA (cE (.str [48])) nilA)))))) nilA)))))
    (seqS (asgS (nmG 6) (callE m_law_pick (consA (vE 0) (consA (vE 1) (consA (lstE (consA (cE .non) (consA (cE (.int 0)) (consA (cE (.int 4)) (consA (cE (.bl true)) (consA (cE (.str [49])) nilA)))))) nilA)))))
    (seqS (ifS (orT (tE (opE neD (callE m_law_ask_k22 (consA (cE (.int 0)) (consA (vE 3) (consA (vE 5) (consA (cE .non) nilA))))) (tupE (consA (cE (.str [114, 101, 102, 117, 115, 101, 100])) (consA (cE (.int 5)) nilA))))) (tE (opE neD (callE m_law_ask_k22 (consA (cE (.int 1)) (consA (vE 3) (consA (vE 6) (consA (cE .non) nilA))))) (tupE (consA (cE (.str [114, 101, 102, 117, 115, 101, 100])) (consA (cE (.int 5)) nilA)))))) (retS (cE (.bl false))) nxS)
    (seqS (asgS (nmG 7) (opE getD (opE getD (vE 3) (cE (.int 0))) (cE (.int 0))))
    (seqS (asgS (nmG 8) (callE m_law_pick (consA (vE 0) (consA (vE 1) (consA (lstE (consA (cE .non) (consA (cE (.int 5)) (consA (cE (.str [])) (consA (cE (.str [113])) (consA (cE (.str [65])) (consA (slE slD (opE getD (vE 3) (cE (.int 0))) noO (someO (cE (.int 2)))) (consA (tupE (consA (vE 7) nilA)) (consA (cE (.str [33])) nilA))))))))) nilA)))))
    (seqS (ifS (orT (tE (opE neD (callE m_law_ask_k22 (consA (cE (.int 4)) (consA (vE 3) (consA (vE 8) (consA (vE 7) nilA))))) (tupE (consA (cE (.str [114, 101, 102, 117, 115, 101, 100])) (consA (cE (.int 9)) nilA))))) (tE (opE neD (callE m_law_ask_k22 (consA (cE (.int 4)) (consA (vE 3) (consA (vE 7) (consA (vE 8) nilA))))) (tupE (consA (cE (.str [114, 101, 102, 117, 115, 101, 100])) (consA (cE (.int 9)) nilA)))))) (retS (cE (.bl false))) nxS)
    (retS (andE (opE eqD (callE m_law_ask_k22 (consA (cE (.int 4)) (consA (vE 3) (consA (vE 7) (consA (vE 7) nilA))))) (vE 3)) (opE isND (callE m_law_ask_k22 (consA (cE (.int 2)) (consA (vE 3) (consA (vE 3) (consA (cE .non) nilA))))) (cE .non))))))))))))))
def m_law_k22 : Fn := fnS 9 b_law_k22
def b_law_row : Sm :=
  (retS (sopE joinD (cE (.str [])) (lcE (itR1 (callE m_law_draw (consA (vE 0) (consA (vE 1) (consA (opE addD (vE 2) (cE (.int 1))) nilA))))) [3] (nmG 3) yesT (noX (callE m_law_pick (consA (vE 0) (consA (vE 1) (consA (bE listB (consA (cE (.str [115, 115, 115, 115, 112, 112, 108, 102])) nilA)) nilA))))))))
def m_law_row : Fn := fnS 4 b_law_row
def b_need_size : Sm :=
  (ifS (orT (notT (tE (callE m_is_whole (consA (vE 0) (consA (cE (.int 2)) (consA (cE (.int 30)) nilA)))))) (notT (tE (callE m_is_whole (consA (vE 1) (consA (cE (.int 1)) (consA (cE (.int 3)) nilA))))))) (raiseS "NoPlace") nxS)
def m_need_size : Fn := fnS 2 b_need_size
def b_prints_of : Sm :=
  (seqS (asgS (nmG 3) (tupE (consA (slE slD (cE (.str c_SIGNS)) noO (someO (vE 0))) (consA (slE slD (cE (.str c_SIGNS)) noO (someO (vE 0))) (consA (vE 1) nilA)))))
    (seqS (asgS (nmG 4) (cE (.tup [(.int 0), (.str [108]), (.int 0)])))
    (seqS (asgS (nmG 5) (newE (lstE nilA)))
    (seqS (forS (itA (vE 2)) (nmG 6) (seqS (ifS (tE (opE eqD (vE 6) (cE (.str [112])))) (exS (mtE appM (vE 5) (consA (slE slD (vE 4) noO (someO (cE (.int 2)))) nilA))) nxS)
    (asgS (nmG 4) (opE getD (callE m_pulsed (consA (vE 3) (consA (vE 4) (consA (vE 6) nilA)))) (cE (.int 0))))))
    (seqS (frzS 5) (retS (vE 5)))))))
def m_prints_of : Fn := fnS 7 b_prints_of
def b_left_open : Sm :=
  (seqS (exS (callE m_need_size (consA (vE 0) (consA (vE 1) nilA))))
    (seqS (exS (callE m_need_row (consA (vE 2) (consA (cE (.int 400)) nilA))))
    (seqS (asgS (nmG 3) (callE m_prints_of (consA (vE 0) (consA (vE 1) (consA (vE 2) nilA)))))
    (seqS (asgS (nmG 4) (newE (lstE nilA)))
    (seqS (forS (itA (tupE (consA (cE (.str [108])) (consA (cE (.str [102])) nilA)))) (nmG 5) (exS (mtE extM (vE 4) (consA (lcE (itR1 (vE 0)) [6] (nmG 6) (noXT (tE (opE notInT (tupE (consA (vE 6) (consA (vE 5) nilA))) (vE 3)))) (noX (tupE (consA (vE 6) (consA (vE 5) nilA))))) nilA))))
    (seqS (frzS 4) (retS (vE 4))))))))
def m_left_open : Fn := fnS 7 b_left_open
def b_learned : Sm :=
  (seqS (exS (callE m_need_size (consA (vE 0) (consA (vE 1) nilA))))
    (seqS (exS (callE m_need_row (consA (vE 2) (consA (cE (.int 400)) nilA))))
    (seqS (ifS (notT (tE (callE m_are_signs (consA (vE 3) (consA (cE (.int 0)) (consA (cE (.int 400)) nilA)))))) (raiseS "NoText") nxS)
    (seqS (asgS (nmG 4) (callE m_prints_of (consA (vE 0) (consA (vE 1) (consA (vE 2) nilA)))))
    (seqS (ifS (tE (opE neD (bE lenB (consA (vE 4) nilA)) (bE lenB (consA (vE 3) nilA)))) (retS (cE .non)) nxS)
    (seqS (asgS (nmG 5) gd0E)
    (seqS (forS (itZ (vE 4) (vE 3)) (tupG (consG (nmG 6) (consG (nmG 7) nilG))) (ifS (tE (opE neD (setdG (vE 5) (vE 6) (vE 7)) (vE 7))) (retS (cE .non)) nxS))
    (seqS (asgS (nmG 8) (newE (lstE nilA)))
    (seqS (frzG 5) (seqS (forS (itA (tupE (consA (cE (.str [108])) (consA (cE (.str [102])) nilA)))) (nmG 9) (seqS (asgS (nmG 10) (lcE (itI (vE 5)) [11, 12, 7] (tupG (consG (tupG (consG (nmG 11) (consG (nmG 12) nilG))) (consG (nmG 7) nilG))) (noXT (tE (opE eqD (vE 12) (vE 9)))) (noX (vE 7))))
    (seqS (ifS (tE (opE neD (unE lenSetL (vE 10)) (bE lenB (consA (vE 10) nilA)))) (retS (cE .non)) nxS)
    (exS (mtE appM (vE 8) (consA (sopE joinD (cE (.str [])) (lcE (itR1 (vE 0)) [11] (nmG 11) yesT (noX (getdG (vE 5) (tupE (consA (vE 11) (consA (vE 9) nilA))) (cE (.str [63])))))) nilA))))))
    (retS (bE tupleB (consA (vE 8) nilA)))))))))))))
def m_learned : Fn := fnS 13 b_learned
def b_can_show : Sm :=
  (seqS (exS (callE m_need_wheels (consA (vE 0) nilA)))
    (seqS (asgS (nmG 3) (callE m_learned (consA (callE m_places_of (consA (vE 0) nilA)) (consA (opE getD (vE 0) (cE (.int 2))) (consA (vE 1) (consA (vE 2) nilA))))))
    (seqS (ifS (tE (opE isND (vE 3) (cE .non))) (retS (cE (.bl false))) nxS)
    (retS (bE allB (consA (lcE (itZ (sopE joinD (cE (.str [])) (vE 3)) (opE addD (opE getD (vE 0) (cE (.int 0))) (opE getD (vE 0) (cE (.int 1))))) [4, 5] (tupG (consG (nmG 4) (consG (nmG 5) nilG))) yesT (noX (opE inD (vE 4) (tupE (consA (cE (.str [63])) (consA (vE 5) nilA)))))) nilA))))))
def m_can_show : Fn := fnS 6 b_can_show
def b_law_k23 : Sm :=
  (seqS (asgS (nmG 1) (newE (lstE nilA)))
    (seqS (asgS (nmG 2) (callE m_law_wheels (consA (vE 0) (consA (vE 1) (consA (cE (.int 6)) nilA)))))
    (seqS (asgS (nmG 3) (bE lenB (consA (opE getD (vE 2) (cE (.int 0))) nilA)))
    (seqS (asgS (nmG 4) (callE m_law_row (consA (vE 0) (consA (vE 1) (consA (cE (.int 30)) nilA)))))
    (seqS (asgS (nmG 5) (opE getD (callE m_law_run (consA (vE 2) (consA (tupE (consA (cE (.int 0)) (consA (cE (.str [108])) (consA (cE (.int 0)) nilA)))) (consA (vE 4) nilA)))) (cE (.int 1))))
    (seqS (ifS (andT (tE (opE neD (vE 5) (cE (.str [])))) (tE (opE eqD (callE m_law_draw (consA (vE 0) (consA (vE 1) (consA (cE (.int 3)) nilA)))) (cE (.int 0))))) (seqS (asgS (nmG 6) (callE m_law_draw (consA (vE 0) (consA (vE 1) (consA (bE lenB (consA (vE 5) nilA)) nilA)))))
    (asgS (nmG 5) (opE addD (opE addD (slE slD (vE 5) noO (someO (vE 6))) (callE m_law_pick (consA (vE 0) (consA (vE 1) (consA (bE listB (consA (cE (.str [97, 98, 99, 120, 121, 122, 48, 49, 57, 32, 46, 44, 45, 113])) nilA)) nilA))))) (slE slD (vE 5) (someO (opE addD (vE 6) (cE (.int 1)))) noO)))) nxS)
    (seqS (ifS (tE (opE eqD (callE m_law_draw (consA (vE 0) (consA (vE 1) (consA (cE (.int 6)) nilA)))) (cE (.int 0)))) (asgS (nmG 5) (opE addD (vE 5) (cE (.str [97])))) nxS)
    (seqS (asgS (tupG (consG (nmG 7) (consG (nmG 8) nilG))) (tupE (consA (lstE nilA) (consA (tupE (consA (cE (.int 0)) (consA (cE (.str [108])) (consA (cE (.int 0)) nilA)))) nilA))))
    (seqS (forS (itA (vE 4)) (nmG 9) (seqS (asgS (nmG 7) (opE addD (vE 7) (opE mulD (lstE (consA (slE slD (vE 8) noO (someO (cE (.int 2)))) nilA)) (bE intB (consA (opE eqD (vE 9) (cE (.str [112]))) nilA)))))
    (asgS (nmG 8) (opE getD (callE m_law_pulse (consA (vE 2) (consA (vE 8) (consA (vE 9) nilA)))) (cE (.int 0))))))
    (seqS (asgS (nmG 10) (newE (lstE nilA)))
    (seqS (forS (itA (tupE (consA (cE (.str [108])) (consA (cE (.str [102])) nilA)))) (nmG 11) (exS (mtE extM (vE 10) (consA (lcE (itR1 (vE 3)) [12] (nmG 12) (noXT (tE (opE notInT (tupE (consA (vE 12) (consA (vE 11) nilA))) (vE 7)))) (noX (tupE (consA (vE 12) (consA (vE 11) nilA))))) nilA))))
    (seqS (ifS (tE (opE neD (callE m_left_open (consA (vE 3) (consA (opE getD (vE 2) (cE (.int 2))) (consA (vE 4) nilA)))) (vE 10))) (retS (cE (.bl false))) nxS)
    (seqS (parS 13 14 (newE (lstE nilA)) (opE eqD (bE lenB (consA (vE 7) nilA)) (bE lenB (consA (vE 5) nilA))))
    (seqS (forS (itA (tupE (consA (cE (.str [108])) (consA (cE (.str [102])) nilA)))) (nmG 11) (seqS (asgS (nmG 15) (cE (.str [])))
    (seqS (forS (itR1 (vE 3)) (nmG 12) (seqS (asgS (nmG 16) (unE sortedSetD (lcE (itZ (vE 7) (vE 5)) [17, 18] (tupG (consG (nmG 17) (consG (nmG 18) nilG))) (noXT (tE (opE eqD (vE 17) (tupE (consA (vE 12) (consA (vE 11) nilA)))))) (noX (vE 18)))))
    (seqS (asgS (nmG 14) (andE (vE 14) (opE ltD (bE lenB (consA (vE 16) nilA)) (cE (.int 2)))))
    (asgS (nmG 15) (opE addD (vE 15) (ifE (tE (opE neD (vE 16) (lstE nilA))) (opE getD (vE 16) (cE (.int 0))) (cE (.str [63]))))))))
    (seqS (asgS (nmG 19) (lcE (itA (vE 15)) [18] (nmG 18) (noXT (tE (opE neD (vE 18) (cE (.str [63]))))) (noX (vE 18))))
    (seqS (asgS (nmG 14) (andE (vE 14) (opE eqD (unE lenSetL (vE 19)) (bE lenB (consA (vE 19) nilA)))))
    (exS (mtE appM (vE 13) (consA (vE 15) nilA))))))))
    (seqS (ifS (tE (opE neD (callE m_learned (consA (vE 3) (consA (opE getD (vE 2) (cE (.int 2))) (consA (vE 4) (consA (vE 5) nilA))))) (ifE (tE (vE 14)) (bE tupleB (consA (vE 13) nilA)) (cE .non)))) (retS (cE (.bl false))) nxS)
    (retS (opE eqD (callE m_can_show (consA (vE 2) (consA (vE 4) (consA (vE 5) nilA)))) (opE eqD (opE getD (callE m_law_run (consA (vE 2) (consA (tupE (consA (cE (.int 0)) (consA (cE (.str [108])) (consA (cE (.int 0)) nilA)))) (consA (vE 4) nilA)))) (cE (.int 1))) (vE 5)))))))))))))))))))
def m_law_k23 : Fn := fnS 20 b_law_k23
def b_telling_row : Sm :=
  (seqS (exS (callE m_need_size (consA (vE 0) (consA (vE 1) nilA))))
    (retS (opE addD (opE addD (opE addD (cE (.str [112])) (opE mulD (cE (.str [115, 112])) (opE subD (vE 0) (cE (.int 1))))) (cE (.str [102, 112]))) (opE mulD (cE (.str [115, 112])) (opE subD (vE 0) (cE (.int 1)))))))
def m_telling_row : Fn := fnS 2 b_telling_row
def b_law_k24 : Sm :=
  (seqS (asgS (nmG 1) (newE (lstE nilA)))
    (seqS (asgS (nmG 2) (callE m_law_wheels (consA (vE 0) (consA (vE 1) (consA (cE (.int 12)) nilA)))))
    (seqS (parS 3 4 (bE lenB (consA (opE getD (vE 2) (cE (.int 0))) nilA)) (opE getD (vE 2) (cE (.int 2))))
    (seqS (asgS (nmG 5) (callE m_telling_row (consA (vE 3) (consA (vE 4) nilA))))
    (seqS (ifS (orT (tE (opE neD (callE m_left_open (consA (vE 3) (consA (vE 4) (consA (vE 5) nilA)))) (lstE nilA))) (tE (opE neD (bE lenB (consA (vE 5) nilA)) (opE subD (opE mulD (cE (.int 4)) (vE 3)) (cE (.int 1)))))) (retS (cE (.bl false))) nxS)
    (seqS (asgS (nmG 6) (callE m_tape (consA (vE 2) (consA (vE 5) (consA (tpxE nilA) nilA)))))
    (seqS (ifS (orT (tE (opE neD (vE 6) (opE getD (callE m_law_run (consA (vE 2) (consA (tupE (consA (cE (.int 0)) (consA (cE (.str [108])) (consA (cE (.int 0)) nilA)))) (consA (vE 5) nilA)))) (cE (.int 1))))) (tE (opE neD (callE m_learned (consA (vE 3) (consA (vE 4) (consA (vE 5) (consA (vE 6) nilA))))) (slE slD (vE 2) noO (someO (cE (.int 2))))))) (retS (cE (.bl false))) nxS)
    (seqS (asgS (nmG 7) (callE m_law_draw (consA (vE 0) (consA (vE 1) (consA (bE lenB (consA (vE 5) nilA)) nilA)))))
    (seqS (asgS (nmG 8) (opE addD (slE slD (vE 5) noO (someO (vE 7))) (slE slD (vE 5) (someO (opE addD (vE 7) (cE (.int 1)))) noO)))
    (seqS (ifS (orT (tE (opE eqD (callE m_left_open (consA (vE 3) (consA (vE 4) (consA (vE 8) nilA)))) (lstE nilA))) (tE (opE neD (bE lenB (consA (vE 6) nilA)) (opE mulD (cE (.int 2)) (vE 3))))) (retS (cE (.bl false))) nxS)
    (seqS (asgS (nmG 9) (callE m_learned (consA (vE 3) (consA (vE 4) (consA (vE 8) (consA (callE m_tape (consA (vE 2) (consA (vE 8) (consA (tpxE nilA) nilA)))) nilA))))))
    (seqS (forS (itZ (vE 9) (slE slD (vE 2) noO (someO (cE (.int 2))))) (tupG (consG (nmG 10) (consG (nmG 11) nilG))) (ifS (tE (opE neD (lcE (itZ (vE 10) (vE 11)) [12, 13] (tupG (consG (nmG 12) (consG (nmG 13) nilG))) (noXT (tE (opE notInD (vE 12) (tupE (consA (cE (.str [63])) (consA (vE 13) nilA)))))) (noX (cE (.int 1)))) (lstE nilA))) (retS (cE (.bl false))) nxS))
    (retS (opE inD (cE (.str [63])) (sopE joinD (cE (.str [])) (vE 9))))))))))))))))
def m_law_k24 : Fn := fnS 14 b_law_k24
def b_law_odd_row : Sm :=
  (retS (callE m_law_pick (consA (vE 0) (consA (vE 1) (consA (lstE (consA (cE .non) (consA (cE (.int 5)) (consA (cE (.str [83])) (consA (cE (.str [115, 112, 120])) (consA (cE (.str [115, 32, 112])) (consA (tupE (consA (cE (.str [115])) nilA)) (consA (lstE (consA (cE (.str [115])) nilA)) (consA (opE mulD (cE (.str [115])) (opE addD (vE 2) (cE (.int 1)))) nilA))))))))) nilA)))))
def m_law_odd_row : Fn := fnS 3 b_law_odd_row
def b_law_ask_k25 : Sm :=
  (tryS (ixR ["NoWheels", "NoStand", "NoRow", "NoSlips", "NoText", "NoPlace", "NoPrinter", "NoWord", "Nothing", "NoSign"] ["NoPlace", "NoRow", "NoText", "NoWheels"]) (seqS (ifS (tE (opE ltD (vE 0) (cE (.int 2)))) (retS (ifE (tE (opE eqD (vE 0) (cE (.int 0)))) (callE m_telling_row (consA (vE 1) (consA (vE 2) nilA))) (callE m_left_open (consA (vE 1) (consA (vE 2) (consA (vE 3) nilA)))))) nxS)
    (retS (ifE (tE (opE eqD (vE 0) (cE (.int 2)))) (callE m_learned (consA (vE 1) (consA (vE 2) (consA (vE 3) (consA (vE 4) nilA))))) (callE m_can_show (consA (vE 1) (consA (vE 3) (consA (vE 4) nilA))))))))
def m_law_ask_k25 : Fn := fnS 6 b_law_ask_k25
def b_law_k25 : Sm :=
  (seqS (asgS (nmG 1) (newE (lstE nilA)))
    (seqS (asgS (nmG 2) (callE m_law_pick (consA (vE 0) (consA (vE 1) (consA (lstE (consA (cE .non) (consA (cE (.int 1)) (consA (cE (.int 31)) (consA (cE (.bl true)) (consA (cE (.str [50])) nilA)))))) nilA)))))
    (seqS (ifS (tE (opE neD (lcE (itR1 (cE (.int 3))) [3] (nmG 3) yesT (noX (callE m_law_ask_k25 (consA (vE 3) (consA (vE 2) (consA (cE (.int 1)) (consA (cE .non) (consA (cE .non) nilA)))))))) (opE mulD (lstE (consA (tupE (consA (cE (.str [114, 101, 102, 117, 115, 101, 100])) (consA (cE (.int 5)) nilA))) nilA)) (cE (.int 3))))) (retS (cE (.bl false))) nxS)
    (seqS (asgS (nmG 4) (callE m_law_pick (consA (vE 0) (consA (vE 1) (consA (lstE (consA (cE .non) (consA (cE (.int 0)) (consA (cE (.int 4)) (consA (cE (.bl true)) (consA (cE (.str [50])) nilA)))))) nilA)))))
    (seqS (ifS (tE (opE neD (lcE (itR1 (cE (.int 3))) [3] (nmG 3) yesT (noX (callE m_law_ask_k25 (consA (vE 3) (consA (cE (.int 2)) (consA (vE 4) (consA (cE .non) (consA (cE .non) nilA)))))))) (opE mulD (lstE (consA (tupE (consA (cE (.str [114, 101, 102, 117, 115, 101, 100])) (consA (cE (.int 5)) nilA))) nilA)) (cE (.int 3))))) (retS (cE (.bl false))) nxS)
    (seqS (ifS (tE (opE neD (callE m_law_ask_k25 (consA (cE (.int 3)) (consA (callE m_law_odd_wheels (consA (vE 0) (consA (vE 1) nilA))) (consA (cE .non) (consA (cE .non) (consA (cE .non) nilA)))))) (tupE (consA (cE (.str [114, 101, 102, 117, 115, 101, 100])) (consA (cE (.int 0)) nilA))))) (retS (cE (.bl false))) nxS)
    (seqS (asgS (nmG 5) (callE m_law_wheels (consA (vE 0) (consA (vE 1) (consA (cE (.int 6)) nilA)))))
    (seqS (asgS (nmG 6) (callE m_law_odd_row (consA (vE 0) (consA (vE 1) (consA (cE (.int 400)) nilA)))))
    (seqS (asgS (nmG 7) (lstE (consA (callE m_law_ask_k25 (consA (cE (.int 1)) (consA (cE (.int 2)) (consA (cE (.int 1)) (consA (vE 6) (consA (cE .non) nilA)))))) (consA (callE m_law_ask_k25 (consA (cE (.int 2)) (consA (cE (.int 2)) (consA (cE (.int 1)) (consA (vE 6) (consA (cE .non) nilA)))))) (consA (callE m_law_ask_k25 (consA (cE (.int 3)) (consA (vE 5) (consA (cE .non) (consA (vE 6) (consA (cE .non) nilA)))))) nilA)))))
    (seqS (ifS (tE (opE neD (vE 7) (opE mulD (lstE (consA (tupE (consA (cE (.str [114, 101, 102, 117, 115, 101, 100])) (consA (cE (.int 2)) nilA))) nilA)) (cE (.int 3))))) (retS (cE (.bl false))) nxS)
    (seqS (asgS (nmG 8) (callE m_law_pick (consA (vE 0) (consA (vE 1) (consA (lstE (consA (cE .non) (consA (cE (.int 5)) (consA (cE (.str [65])) (consA (cE (.str [97, 10])) (consA (tupE (consA (cE (.str [97])) nilA)) (consA (opE mulD (cE (.str [97])) (cE (.int 401))) (consA (cE (.str [33])) nilA)))))))) nilA)))))
    (seqS (ifS (orT (tE (opE neD (callE m_law_ask_k25 (consA (cE (.int 2)) (consA (cE (.int 2)) (consA (cE (.int 1)) (consA (cE (.str [112])) (consA (vE 8) nilA)))))) (tupE (consA (cE (.str [114, 101, 102, 117, 115, 101, 100])) (consA (cE (.int 4)) nilA))))) (tE (opE neD (callE m_law_ask_k25 (consA (cE (.int 3)) (consA (vE 5) (consA (cE .non) (consA (cE (.str [112])) (consA (vE 8) nilA)))))) (tupE (consA (cE (.str [114, 101, 102, 117, 115, 101, 100])) (consA (cE (.int 4)) nilA)))))) (retS (cE (.bl false))) nxS)
    (retS (andE (opE eqD (callE m_law_ask_k25 (consA (cE (.int 2)) (consA (cE (.int 2)) (consA (cE (.int 1)) (consA (cE (.str [])) (consA (cE (.str [])) nilA)))))) (tupE (consA (cE (.str [63, 63])) (consA (cE (.str [63, 63])) nilA)))) (opE isBD (callE m_law_ask_k25 (consA (cE (.int 3)) (consA (vE 5) (consA (cE .non) (consA (cE (.str [])) (consA (cE (.str [97])) nilA)))))) (cE (.bl false)))))))))))))))))
def m_law_k25 : Fn := fnS 9 b_law_k25
def b_law_odd_stand : Sm :=
  (seqS (asgS (nmG 4) (lstE (consA (cE .non) (consA (cE (.int 5)) (consA (tupE nilA) (consA (tupE (consA (cE (.int 0)) (consA (cE (.str [108])) nilA))) (consA (tupE (consA (vE 2) (consA (cE (.str [108])) (consA (cE (.int 0)) nilA)))) (consA (tupE (consA (unE negD (cE (.int 1))) (consA (cE (.str [108])) (consA (cE (.int 0)) nilA)))) (consA (tupE (consA (cE (.int 0)) (consA (cE (.str [120])) (consA (cE (.int 0)) nilA)))) (consA (tupE (consA (cE (.int 0)) (consA (cE (.str [108])) (consA (unE negD (cE (.int 1))) nilA)))) (consA (lstE (consA (cE (.int 0)) (consA (cE (.str [108])) (consA (cE (.int 0)) nilA)))) (consA (tupE (consA (cE (.int 0)) (consA (cE .non) (consA (cE (.int 0)) nilA)))) nilA))))))))))))
    (retS (callE m_law_pick (consA (vE 0) (consA (vE 1) (consA (opE addD (vE 4) (lstE (consA (tupE (consA (cE (.int 0)) (consA (cE (.str [108])) (consA (opE addD (opE mulD (vE 2) (opE addD (vE 3) (cE (.int 1)))) (cE (.int 1))) nilA)))) (consA (tupE (consA (cE (.bl true)) (consA (cE (.str [108])) (consA (cE (.int 0)) nilA)))) (consA (tupE (consA (cE (.int 0)) (consA (cE (.str [108, 102])) (consA (cE (.int 0)) nilA)))) (consA (cE (.str [48, 108, 48])) nilA)))))) nilA))))))
def m_law_odd_stand : Fn := fnS 5 b_law_odd_stand
def b_law_stand : Sm :=
  (seqS (asgS (nmG 3) (bE lenB (consA (opE getD (vE 2) (cE (.int 0))) nilA)))
    (seqS (asgS (nmG 4) (callE m_law_pick (consA (vE 0) (consA (vE 1) (consA (lstE (consA (cE (.int 0)) (consA (cE (.int 0)) (consA (callE m_law_draw (consA (vE 0) (consA (vE 1) (consA (opE addD (opE mulD (vE 3) (opE addD (opE getD (vE 2) (cE (.int 2))) (cE (.int 1)))) (cE (.int 1))) nilA)))) (consA (opE mulD (vE 3) (opE getD (vE 2) (cE (.int 2)))) nilA))))) nilA)))))
    (retS (tupE (consA (callE m_law_draw (consA (vE 0) (consA (vE 1) (consA (vE 3) nilA)))) (consA (callE m_law_pick (consA (vE 0) (consA (vE 1) (consA (lstE (consA (cE (.str [108])) (consA (cE (.str [102])) nilA))) nilA)))) (consA (vE 4) nilA)))))))
def m_law_stand : Fn := fnS 5 b_law_stand
def b_need_short : Sm :=
  (seqS (exS (callE m_need_stand (consA (vE 0) (consA (vE 1) nilA))))
    (ifS (orT (notT (tE (callE m_are_signs (consA (vE 2) (consA (cE (.int 0)) (consA (cE (.int 12)) nilA)))))) (notT (tE (bE allB (consA (lcE (itA (vE 2)) [3] (nmG 3) yesT (noX (opE inD (vE 3) (opE addD (opE getD (vE 0) (cE (.int 0))) (opE getD (vE 0) (cE (.int 1))))))) nilA))))) (raiseS "NoText") nxS))
def m_need_short : Fn := fnS 4 b_need_short
def b_searched : Sm :=
  (seqS (asgS (nmG 3) (gd1E (tupE (consA (vE 1) (consA (cE (.int 0)) nilA))) (cE (.bl true))))
    (seqS (asgS (nmG 4) (lstE (consA (tupE (consA (cE (.str [])) (consA (vE 1) (consA (cE (.int 0)) nilA)))) nilA)))
    (whileS 100000 (tE (cE (.bl true))) (seqS (asgS (nmG 5) (newE (lstE nilA)))
    (seqS (forS (itA (vE 4)) (tupG (consG (nmG 6) (consG (nmG 7) (consG (nmG 8) nilG)))) (seqS (ifS (tE (opE eqD (vE 8) (bE lenB (consA (vE 2) nilA)))) (retS (vE 6)) nxS)
    (forS (itA (cE (.str c_PULSES))) (nmG 9) (seqS (asgS (tupG (consG (nmG 10) (consG (nmG 11) nilG))) (callE m_pulsed (consA (vE 0) (consA (vE 7) (consA (vE 9) nilA)))))
    (ifS (andT (tE (opE inD (vE 11) (tupE (consA (cE (.str [])) (consA (opE getD (vE 2) (vE 8)) nilA))))) (tE (opE notInG (tupE (consA (vE 10) (consA (opE addD (vE 8) (bE lenB (consA (vE 11) nilA))) nilA))) (vE 3)))) (seqS (putG (vE 3) (tupE (consA (vE 10) (consA (opE addD (vE 8) (bE lenB (consA (vE 11) nilA))) nilA))) (cE (.bl true)))
    (exS (mtE appM (vE 5) (consA (tupE (consA (opE addD (vE 6) (vE 9)) (consA (vE 10) (consA (opE addD (vE 8) (bE lenB (consA (vE 11) nilA))) nilA)))) nilA)))) nxS)))))
    (seqS (frzS 5) (asgS (nmG 4) (vE 5))))))))
def m_searched : Fn := fnS 12 b_searched
def b_best_stand : Sm :=
  (seqS (exS (callE m_need_short (consA (vE 0) (consA (tupE (consA (cE (.int 0)) (consA (cE (.str [108])) (consA (cE (.int 0)) nilA)))) (consA (vE 1) nilA)))))
    (seqS (asgS (nmG 2) (newE (lstE nilA)))
    (seqS (forS (itET (tupE (consA (cE (.str [108])) (consA (cE (.str [102])) nilA)))) (tupG (consG (nmG 3) (consG (nmG 4) nilG))) (forS (itR1 (bE lenB (consA (opE getD (vE 0) (cE (.int 0))) nilA))) (nmG 5) (exS (mtE appM (vE 2) (consA (tupE (consA (bE lenB (consA (callE m_searched (consA (vE 0) (consA (tupE (consA (vE 5) (consA (vE 4) (consA (cE (.int 0)) nilA)))) (consA (vE 1) nilA)))) nilA)) (consA (vE 3) (consA (vE 5) nilA)))) nilA)))))
    (seqS (asgS (tupG (consG (nmG 6) (consG (nmG 3) (consG (nmG 5) nilG)))) (bE minB (consA (vE 2) nilA)))
    (retS (tupE (consA (vE 5) (consA (opE getD (tupE (consA (cE (.str [108])) (consA (cE (.str [102])) nilA))) (vE 3)) (consA (cE (.int 0)) nilA)))))))))
def m_best_stand : Fn := fnS 7 b_best_stand
def b_signs_near : Sm :=
  (seqS (exS (callE m_need_short (consA (vE 0) (consA (vE 1) (consA (cE (.str [])) nilA)))))
    (seqS (asgS (nmG 3) (newE (lstE nilA)))
    (seqS (forS (itA (unE sortedSetD (opE addD (opE getD (vE 0) (cE (.int 0))) (opE getD (vE 0) (cE (.int 1)))))) (nmG 4) (ifS (tE (opE leD (bE lenB (consA (callE m_searched (consA (vE 0) (consA (vE 1) (consA (vE 4) nilA)))) nilA)) (vE 2))) (exS (mtE appM (vE 3) (consA (vE 4) nilA))) nxS))
    (retS (sopE joinD (cE (.str [])) (vE 3))))))
def m_signs_near : Fn := fnS 5 b_signs_near
def b_row_from : Sm :=
  (seqS (exS (callE m_need_short (consA (vE 0) (consA (vE 1) (consA (vE 2) nilA)))))
    (retS (callE m_searched (consA (vE 0) (consA (vE 1) (consA (vE 2) nilA))))))
def m_row_from : Fn := fnS 3 b_row_from
def b_least_from : Sm :=
  (seqS (exS (callE m_need_short (consA (vE 0) (consA (vE 1) (consA (vE 2) nilA)))))
    (retS (bE lenB (consA (callE m_searched (consA (vE 0) (consA (vE 1) (consA (vE 2) nilA)))) nilA))))
def m_least_from : Fn := fnS 3 b_least_from
def b_law_ask_k28 : Sm :=
  (tryS (ixR ["NoWheels", "NoStand", "NoRow", "NoSlips", "NoText", "NoPlace", "NoPrinter", "NoWord", "Nothing", "NoSign"] ["NoStand", "NoText", "NoWheels"]) (seqS (ifS (tE (opE ltD (vE 0) (cE (.int 2)))) (retS (callX (tblOf [("row_from", m_row_from), ("least_from", m_least_from)]) (opE getD (lstE (consA (cE (.fn "row_from")) (consA (cE (.fn "least_from")) nilA))) (vE 0)) (consA (vE 1) (consA (vE 2) (consA (vE 3) nilA))))) nxS)
    (retS (ifE (tE (opE eqD (vE 0) (cE (.int 2)))) (callE m_best_stand (consA (vE 1) (consA (vE 3) nilA))) (callE m_signs_near (consA (vE 1) (consA (vE 2) (consA (cE (.int 3)) nilA))))))))
def m_law_ask_k28 : Fn := fnS 5 b_law_ask_k28
def b_law_k28 : Sm :=
  (seqS (asgS (nmG 1) (newE (lstE nilA)))
    (seqS (asgS (tupG (consG (nmG 2) (consG (nmG 3) nilG))) (tupE (consA (callE m_law_odd_wheels (consA (vE 0) (consA (vE 1) nilA))) (consA (callE m_law_wheels (consA (vE 0) (consA (vE 1) (consA (cE (.int 5)) nilA)))) nilA))))
    (seqS (ifS (tE (opE neD (lcE (itR1 (cE (.int 4))) [4] (nmG 4) yesT (noX (callE m_law_ask_k28 (consA (vE 4) (consA (vE 2) (consA (cE .non) (consA (cE .non) nilA))))))) (opE mulD (lstE (consA (tupE (consA (cE (.str [114, 101, 102, 117, 115, 101, 100])) (consA (cE (.int 0)) nilA))) nilA)) (cE (.int 4))))) (retS (cE (.bl false))) nxS)
    (seqS (asgS (nmG 5) (callE m_law_odd_stand (consA (vE 0) (consA (vE 1) (consA (bE lenB (consA (opE getD (vE 3) (cE (.int 0))) nilA)) (consA (opE getD (vE 3) (cE (.int 2))) nilA))))))
    (seqS (ifS (tE (opE neD (lcE (itA (tupE (consA (cE (.int 0)) (consA (cE (.int 1)) (consA (cE (.int 3)) nilA))))) [4] (nmG 4) yesT (noX (callE m_law_ask_k28 (consA (vE 4) (consA (vE 3) (consA (vE 5) (consA (cE .non) nilA))))))) (opE mulD (lstE (consA (tupE (consA (cE (.str [114, 101, 102, 117, 115, 101, 100])) (consA (cE (.int 1)) nilA))) nilA)) (cE (.int 3))))) (retS (cE (.bl false))) nxS)
    (seqS (asgS (nmG 6) (callE m_law_stand (consA (vE 0) (consA (vE 1) (consA (vE 3) nilA)))))
    (seqS (asgS (nmG 7) (callE m_law_pick (consA (vE 0) (consA (vE 1) (consA (lstE (consA (cE .non) (consA (cE (.int 5)) (consA (cE (.str [113])) (consA (cE (.str [65])) (consA (tupE (consA (opE getD (opE getD (vE 3) (cE (.int 0))) (cE (.int 0))) nilA)) (consA (opE mulD (opE getD (opE getD (vE 3) (cE (.int 0))) (cE (.int 0))) (cE (.int 13))) (consA (opE addD (opE getD (vE 3) (cE (.int 0))) (cE (.str [113]))) (consA (cE (.str [97, 10])) nilA))))))))) nilA)))))
    (seqS (ifS (tE (opE neD (lcE (itR1 (cE (.int 3))) [4] (nmG 4) yesT (noX (callE m_law_ask_k28 (consA (vE 4) (consA (vE 3) (consA (vE 6) (consA (vE 7) nilA))))))) (opE mulD (lstE (consA (tupE (consA (cE (.str [114, 101, 102, 117, 115, 101, 100])) (consA (cE (.int 4)) nilA))) nilA)) (cE (.int 3))))) (retS (cE (.bl false))) nxS)
    (seqS (ifS (orT (tE (opE neD (callE m_law_ask_k28 (consA (cE (.int 0)) (consA (vE 3) (consA (vE 6) (consA (cE (.str [])) nilA))))) (cE (.str [])))) (tE (opE neD (callE m_law_ask_k28 (consA (cE (.int 1)) (consA (vE 3) (consA (vE 6) (consA (cE (.str [])) nilA))))) (cE (.int 0))))) (retS (cE (.bl false))) nxS)
    (retS (andE (opE eqD (callE m_law_ask_k28 (consA (cE (.int 2)) (consA (vE 3) (consA (cE .non) (consA (cE (.str [])) nilA))))) (tupE (consA (cE (.int 0)) (consA (cE (.str [108])) (consA (cE (.int 0)) nilA))))) (opE eqD (callE m_law_ask_k28 (consA (cE (.int 1)) (consA (vE 3) (consA (tupE (consA (cE (.int 0)) (consA (cE (.str [108])) (consA (cE (.int 0)) nilA)))) (consA (opE mulD (opE getD (opE getD (vE 3) (cE (.int 0))) (cE (.int 0))) (cE (.int 12))) nilA))))) (cE (.int 12))))))))))))))
def m_law_k28 : Fn := fnS 8 b_law_k28
def b_law_shown : Sm :=
  (retS (opE getD (callE m_law_run (consA (vE 0) (consA (tupE (consA (cE (.int 0)) (consA (cE (.str [108])) (consA (cE (.int 0)) nilA)))) (consA (vE 1) nilA)))) (cE (.int 1))))
def m_law_shown : Fn := fnS 2 b_law_shown
def b_need_both : Sm :=
  (seqS (exS (callE m_need_wheels (consA (vE 0) nilA)))
    (exS (callE m_need_row (consA (vE 1) (consA (cE (.int 60)) nilA)))))
def m_need_both : Fn := fnS 2 b_need_both
def b_shown_by : Sm :=
  (retS (opE getD (callE m_rowed (consA (vE 0) (consA (cE (.tup [(.int 0), (.str [108]), (.int 0)])) (consA (vE 1) nilA)))) (cE (.int 1))))
def m_shown_by : Fn := fnS 2 b_shown_by
def b_thinned : Sm :=
  (seqS (exS (callE m_need_both (consA (vE 0) (consA (vE 1) nilA))))
    (seqS (asgS (nmG 2) (callE m_shown_by (consA (vE 0) (consA (vE 1) nilA))))
    (seqS (asgS (nmG 3) (vE 1))
    (seqS (asgS (nmG 4) (cE (.int 0)))
    (seqS (whileS 100000 (tE (opE ltD (vE 4) (bE lenB (consA (vE 3) nilA)))) (ifS (tE (opE eqD (callE m_shown_by (consA (vE 0) (consA (opE addD (slE slD (vE 3) noO (someO (vE 4))) (slE slD (vE 3) (someO (opE addD (vE 4) (cE (.int 1)))) noO)) nilA))) (vE 2))) (asgS (nmG 3) (opE addD (slE slD (vE 3) noO (someO (vE 4))) (slE slD (vE 3) (someO (opE addD (vE 4) (cE (.int 1)))) noO))) (asgS (nmG 4) (opE addD (vE 4) (cE (.int 1))))))
    (retS (vE 3)))))))
def m_thinned : Fn := fnS 5 b_thinned
def b_needless : Sm :=
  (seqS (exS (callE m_need_both (consA (vE 0) (consA (vE 1) nilA))))
    (seqS (asgS (nmG 2) (callE m_shown_by (consA (vE 0) (consA (vE 1) nilA))))
    (retS (lcE (itR1 (bE lenB (consA (vE 1) nilA))) [3] (nmG 3) (noXT (tE (opE eqD (callE m_shown_by (consA (vE 0) (consA (opE addD (slE slD (vE 1) noO (someO (vE 3))) (slE slD (vE 1) (someO (opE addD (vE 3) (cE (.int 1)))) noO)) nilA))) (vE 2)))) (noX (vE 3))))))
def m_needless : Fn := fnS 4 b_needless
def b_prints : Sm :=
  (seqS (exS (callE m_need_both (consA (vE 0) (consA (vE 1) nilA))))
    (seqS (asgS (nmG 2) (newE (lstE nilA)))
    (seqS (forS (itR1 (bE lenB (consA (vE 1) nilA))) (nmG 3) (ifS (tE (opE eqD (opE getD (vE 1) (vE 3)) (cE (.str [112])))) (seqS (asgS (nmG 4) (opE getD (callE m_rowed (consA (vE 0) (consA (cE (.tup [(.int 0), (.str [108]), (.int 0)])) (consA (slE slD (vE 1) noO (someO (vE 3))) nilA)))) (cE (.int 0))))
    (exS (mtE appM (vE 2) (consA (tupE (consA (vE 3) (consA (opE getD (vE 4) (cE (.int 0))) (consA (opE getD (vE 4) (cE (.int 1))) (consA (opE getD (callE m_shown_by (consA (vE 0) (consA (slE slD (vE 1) noO (someO (opE addD (vE 3) (cE (.int 1))))) nilA))) (unE negD (cE (.int 1)))) nilA))))) nilA)))) nxS))
    (seqS (frzS 2) (retS (vE 2))))))
def m_prints : Fn := fnS 5 b_prints
def b_safe_slips : Sm :=
  (seqS (exS (callE m_need_both (consA (vE 0) (consA (vE 1) nilA))))
    (seqS (asgS (nmG 2) (callE m_shown_by (consA (vE 0) (consA (vE 1) nilA))))
    (seqS (asgS (nmG 3) (newE (lstE nilA)))
    (seqS (forS (itR1 (bE lenB (consA (vE 1) nilA))) (nmG 4) (seqS (asgS (nmG 5) (lcE (itA (cE (.tup [(.str [108, 111, 115, 116]), (.str [116, 119, 105, 99, 101])]))) [6] (nmG 6) yesT (noX (tupE (consA (vE 4) (consA (vE 6) nilA))))))
    (exS (mtE extM (vE 3) (consA (lcE (itA (vE 5)) [7] (nmG 7) (noXT (tE (opE eqD (callE m_shown_by (consA (vE 0) (consA (callE m_slipped (consA (vE 1) (consA (tpxE (consA (vE 7) nilA)) nilA))) nilA))) (vE 2)))) (noX (vE 7))) nilA)))))
    (seqS (frzS 3) (retS (vE 3)))))))
def m_safe_slips : Fn := fnS 8 b_safe_slips
def b_caught_at : Sm :=
  (seqS (exS (callE m_need_both (consA (vE 0) (consA (vE 1) nilA))))
    (seqS (asgS (nmG 2) (newE (lstE nilA)))
    (seqS (forS (itR1 (bE lenB (consA (vE 1) nilA))) (nmG 3) (seqS (asgS (nmG 4) (opE getD (callE m_rowed (consA (vE 0) (consA (cE (.tup [(.int 0), (.str [108]), (.int 0)])) (consA (slE slD (vE 1) noO (someO (vE 3))) nilA)))) (cE (.int 0))))
    (ifS (andT (tE (opE eqD (opE getD (vE 1) (vE 3)) (cE (.str [115])))) (tE (opE eqD (opE getD (callE m_rowed (consA (vE 0) (consA (cE (.tup [(.int 0), (.str [108]), (.int 0)])) (consA (slE slD (vE 1) noO (someO (opE addD (vE 3) (cE (.int 1))))) nilA)))) (cE (.int 0))) (vE 4)))) (exS (mtE appM (vE 2) (consA (vE 3) nilA))) nxS)))
    (seqS (frzS 2) (retS (vE 2))))))
def m_caught_at : Fn := fnS 5 b_caught_at
def b_law_k29 : Sm :=
  (seqS (asgS (nmG 1) (newE (lstE nilA)))
    (seqS (asgS (nmG 2) (callE m_law_wheels (consA (vE 0) (consA (vE 1) (consA (cE (.int 4)) nilA)))))
    (seqS (asgS (nmG 3) (opE addD (callE m_law_row (consA (vE 0) (consA (vE 1) (consA (cE (.int 20)) nilA)))) (callE m_law_pick (consA (vE 0) (consA (vE 1) (consA (lstE (consA (cE (.str [])) (consA (cE (.str [115, 115, 115, 115, 115, 115, 115, 115, 115])) (consA (cE (.str [115, 115, 115, 115, 112])) nilA)))) nilA))))))
    (seqS (asgS (nmG 4) (callE m_law_shown (consA (vE 2) (consA (vE 3) nilA))))
    (seqS (ifS (tE (opE neD (callE m_needless (consA (vE 2) (consA (vE 3) nilA))) (lcE (itR1 (bE lenB (consA (vE 3) nilA))) [5] (nmG 5) (noXT (tE (opE eqD (callE m_law_shown (consA (vE 2) (consA (opE addD (slE slD (vE 3) noO (someO (vE 5))) (slE slD (vE 3) (someO (opE addD (vE 5) (cE (.int 1)))) noO)) nilA))) (vE 4)))) (noX (vE 5))))) (retS (cE (.bl false))) nxS)
    (seqS (parS 6 7 (cE (.str [])) (vE 3))
    (seqS (forS (itR1 (bE lenB (consA (vE 3) nilA))) (nmG 5) (seqS (asgS (nmG 8) (slE slD (vE 3) (someO (opE addD (vE 5) (cE (.int 1)))) noO))
    (ifS (tE (opE neD (callE m_law_shown (consA (vE 2) (consA (opE addD (vE 6) (vE 8)) nilA))) (vE 4))) (asgS (nmG 6) (opE addD (vE 6) (opE getD (vE 3) (vE 5)))) nxS)))
    (seqS (asgS (nmG 7) (callE m_thinned (consA (vE 2) (consA (vE 3) nilA))))
    (seqS (ifS (orT (tE (opE neD (vE 7) (vE 6))) (orT (tE (opE neD (callE m_tape (consA (vE 2) (consA (vE 7) (consA (tpxE nilA) nilA)))) (vE 4))) (tE (opE gtD (bE lenB (consA (callE m_thinned (consA (vE 2) (consA (vE 7) nilA))) nilA)) (bE lenB (consA (vE 7) nilA)))))) (retS (cE (.bl false))) nxS)
    (seqS (asgS (tupG (consG (nmG 9) (consG (nmG 10) (consG (nmG 11) (consG (nmG 12) nilG))))) (tupE (consA (newE (lstE nilA)) (consA (newE (lstE nilA)) (consA (lstE nilA) (consA (tupE (consA (cE (.int 0)) (consA (cE (.str [108])) (consA (cE (.int 0)) nilA)))) nilA))))))
    (seqS (forS (itE (vE 3)) (tupG (consG (nmG 5) (consG (nmG 13) nilG))) (seqS (ifS (tE (opE eqD (vE 13) (cE (.str [112])))) (exS (mtE appM (vE 9) (consA (tupE (consA (vE 5) (consA (opE getD (vE 12) (cE (.int 0))) (consA (opE getD (vE 12) (cE (.int 1))) (consA (opE getD (opE getD (vE 2) (bE intB (consA (opE eqD (opE getD (vE 12) (cE (.int 1))) (cE (.str [102]))) nilA))) (opE getD (vE 12) (cE (.int 0)))) nilA))))) nilA))) nxS)
    (seqS (forS (itA (tupE (consA (tupE (consA (cE (.str [108, 111, 115, 116])) (consA (cE (.int 0)) nilA))) (consA (tupE (consA (cE (.str [116, 119, 105, 99, 101])) (consA (cE (.int 2)) nilA))) nilA)))) (tupG (consG (nmG 14) (consG (nmG 15) nilG))) (seqS (asgS (nmG 16) (opE addD (opE addD (slE slD (vE 3) noO (someO (vE 5))) (opE mulD (vE 13) (vE 15))) (slE slD (vE 3) (someO (opE addD (vE 5) (cE (.int 1)))) noO)))
    (ifS (tE (opE eqD (callE m_law_shown (consA (vE 2) (consA (vE 16) nilA))) (vE 4))) (exS (mtE appM (vE 10) (consA (tupE (consA (vE 5) (consA (vE 14) nilA))) nilA))) nxS)))
    (seqS (asgS (nmG 17) (opE getD (callE m_law_pulse (consA (vE 2) (consA (vE 12) (consA (vE 13) nilA)))) (cE (.int 0))))
    (seqS (asgS (nmG 11) (opE addD (vE 11) (opE mulD (lstE (consA (vE 5) nilA)) (bE intB (consA (andE (opE eqD (vE 13) (cE (.str [115]))) (opE eqD (vE 17) (vE 12))) nilA)))))
    (asgS (nmG 12) (vE 17)))))))
    (seqS (ifS (orT (tE (opE neD (callE m_prints (consA (vE 2) (consA (vE 3) nilA))) (vE 9))) (tE (opE neD (callE m_safe_slips (consA (vE 2) (consA (vE 3) nilA))) (vE 10)))) (retS (cE (.bl false))) nxS)
    (seqS (frzS 9) (retS (andE (opE eqD (callE m_caught_at (consA (vE 2) (consA (vE 3) nilA))) (vE 11)) (opE eqD (sopE joinD (cE (.str [])) (lcE (itA (vE 9)) [18] (nmG 18) yesT (noX (opE getD (vE 18) (cE (.int 3)))))) (vE 4)))))))))))))))))
def m_law_k29 : Fn := fnS 19 b_law_k29
def b_law_ask_k30 : Sm :=
  (tryS (ixR ["NoWheels", "NoStand", "NoRow", "NoSlips", "NoText", "NoPlace", "NoPrinter", "NoWord", "Nothing", "NoSign"] ["NoRow", "NoWheels"]) (retS (callX (tblOf [("needless", m_needless), ("thinned", m_thinned), ("prints", m_prints), ("safe_slips", m_safe_slips), ("caught_at", m_caught_at)]) (opE getD (lstE (consA (cE (.fn "needless")) (consA (cE (.fn "thinned")) (consA (cE (.fn "prints")) (consA (cE (.fn "safe_slips")) (consA (cE (.fn "caught_at")) nilA)))))) (vE 0)) (consA (vE 1) (consA (vE 2) nilA)))))
def m_law_ask_k30 : Fn := fnS 4 b_law_ask_k30
def b_law_k30 : Sm :=
  (seqS (asgS (nmG 1) (newE (lstE nilA)))
    (seqS (asgS (tupG (consG (nmG 2) (consG (nmG 3) nilG))) (tupE (consA (callE m_law_odd_wheels (consA (vE 0) (consA (vE 1) nilA))) (consA (callE m_law_wheels (consA (vE 0) (consA (vE 1) (consA (cE (.int 6)) nilA)))) nilA))))
    (seqS (ifS (tE (opE neD (lcE (itR1 (cE (.int 5))) [4] (nmG 4) yesT (noX (callE m_law_ask_k30 (consA (vE 4) (consA (vE 2) (consA (cE .non) nilA)))))) (opE mulD (lstE (consA (tupE (consA (cE (.str [114, 101, 102, 117, 115, 101, 100])) (consA (cE (.int 0)) nilA))) nilA)) (cE (.int 5))))) (retS (cE (.bl false))) nxS)
    (seqS (asgS (nmG 5) (callE m_law_odd_row (consA (vE 0) (consA (vE 1) (consA (cE (.int 60)) nilA)))))
    (seqS (ifS (tE (opE neD (lcE (itR1 (cE (.int 5))) [4] (nmG 4) yesT (noX (callE m_law_ask_k30 (consA (vE 4) (consA (vE 3) (consA (vE 5) nilA)))))) (opE mulD (lstE (consA (tupE (consA (cE (.str [114, 101, 102, 117, 115, 101, 100])) (consA (cE (.int 2)) nilA))) nilA)) (cE (.int 5))))) (retS (cE (.bl false))) nxS)
    (seqS (ifS (tE (opE neD (lcE (itR1 (cE (.int 5))) [4] (nmG 4) yesT (noX (callE m_law_ask_k30 (consA (vE 4) (consA (vE 3) (consA (cE (.str [])) nilA)))))) (lstE (consA (lstE nilA) (consA (cE (.str [])) (consA (lstE nilA) (consA (lstE nilA) (consA (lstE nilA) nilA)))))))) (retS (cE (.bl false))) nxS)
    (seqS (asgS (nmG 6) (callE m_law_draw (consA (vE 0) (consA (vE 1) (consA (cE (.int 61)) nilA)))))
    (seqS (ifS (orT (tE (opE neD (callE m_law_ask_k30 (consA (cE (.int 0)) (consA (vE 3) (consA (opE mulD (cE (.str [108])) (vE 6)) nilA)))) (lrE (vE 6)))) (tE (opE neD (callE m_law_ask_k30 (consA (cE (.int 1)) (consA (vE 3) (consA (opE mulD (cE (.str [115])) (vE 6)) nilA)))) (cE (.str []))))) (retS (cE (.bl false))) nxS)
    (retS (andE (opE eqD (callE m_law_ask_k30 (consA (cE (.int 1)) (consA (vE 3) (consA (opE mulD (cE (.str [112])) (vE 6)) nilA)))) (opE mulD (cE (.str [112])) (vE 6))) (opE eqD (bE lenB (consA (callE m_law_ask_k30 (consA (cE (.int 3)) (consA (vE 3) (consA (opE mulD (cE (.str [102])) (vE 6)) nilA)))) nilA)) (opE mulD (cE (.int 2)) (vE 6)))))))))))))
def m_law_k30 : Fn := fnS 7 b_law_k30
def b_law_k33 : Sm :=
  (seqS (asgS (nmG 1) (newE (lstE nilA)))
    (seqS (asgS (nmG 2) (callE m_law_wheels (consA (vE 0) (consA (vE 1) (consA (cE (.int 8)) nilA)))))
    (seqS (asgS (nmG 3) (bE lenB (consA (opE getD (vE 2) (cE (.int 0))) nilA)))
    (seqS (asgS (nmG 4) (callE m_law_row (consA (vE 0) (consA (vE 1) (consA (cE (.int 30)) nilA)))))
    (seqS (asgS (nmG 5) (callE m_law_draw (consA (vE 0) (consA (vE 1) (consA (vE 3) nilA)))))
    (seqS (asgS (nmG 6) (callE m_tape (consA (vE 2) (consA (vE 4) (consA (tpxE nilA) nilA)))))
    (seqS (asgS (nmG 7) (callE m_prints (consA (vE 2) (consA (vE 4) nilA))))
    (seqS (asgS (nmG 8) (sopE joinD (cE (.str [])) (lcE (itA (vE 7)) [9, 10, 11, 12] (tupG (consG (nmG 9) (consG (nmG 10) (consG (nmG 11) (consG (nmG 12) nilG))))) yesT (noX (opE getD (opE getD (vE 2) (bE intB (consA (opE eqD (vE 11) (cE (.str [102]))) nilA))) (opE modD (opE addD (vE 10) (vE 5)) (vE 3)))))))
    (seqS (ifS (orT (tE (opE neD (callE m_tape (consA (callE m_turned (consA (vE 2) (consA (vE 5) nilA))) (consA (vE 4) (consA (tpxE nilA) nilA)))) (vE 8))) (tE (opE neD (sopE joinD (cE (.str [])) (lcE (itA (vE 7)) [13] (nmG 13) yesT (noX (opE getD (vE 13) (cE (.int 3)))))) (vE 6)))) (retS (cE (.bl false))) nxS)
    (seqS (asgS (nmG 14) (opE addD (cE (.str [102])) (sopE joinD (cE (.str [])) (lcE (itA (vE 4)) [15] (nmG 15) yesT (noX (dget2E (cE (.str [108])) (cE (.str [102])) (cE (.str [102])) (cE (.str [108])) (vE 15) (vE 15)))))))
    (seqS (ifS (tE (opE neD (callE m_tape (consA (callE m_swapped (consA (vE 2) nilA)) (consA (vE 14) (consA (tpxE nilA) nilA)))) (vE 6))) (retS (cE (.bl false))) nxS)
    (seqS (asgS (nmG 16) (unE sortedSetD (opE addD (opE getD (vE 2) (cE (.int 0))) (opE getD (vE 2) (cE (.int 1))))))
    (seqS (asgS (tupG (consG (nmG 13) (consG (nmG 17) nilG))) (tupE (consA (callE m_law_pick (consA (vE 0) (consA (vE 1) (consA (vE 16) nilA)))) (consA (callE m_law_pick (consA (vE 0) (consA (vE 1) (consA (vE 16) nilA)))) nilA))))
    (seqS (asgS (nmG 8) (sopE joinD (cE (.str [])) (lcE (itA (vE 6)) [12] (nmG 12) yesT (noX (ifE (tE (opE eqD (vE 12) (vE 13))) (vE 17) (ifE (tE (opE eqD (vE 12) (vE 17))) (vE 13) (vE 12)))))))
    (seqS (ifS (tE (opE neD (callE m_tape (consA (callE m_with_signs (consA (vE 2) (consA (vE 13) (consA (vE 17) nilA)))) (consA (vE 4) (consA (tpxE nilA) nilA)))) (vE 8))) (retS (cE (.bl false))) nxS)
    (seqS (asgS (nmG 18) (ifE (tE (opE ltD (vE 3) (cE (.int 5)))) (callE m_apart_row (consA (vE 2) (consA (callE m_with_signs (consA (vE 2) (consA (vE 13) (consA (vE 17) nilA)))) nilA))) (cE .non)))
    (seqS (asgS (nmG 19) (callE m_with_signs (consA (vE 2) (consA (vE 13) (consA (vE 17) nilA)))))
    (seqS (ifS (andT (tE (opE isNotND (vE 18) (cE .non))) (tE (opE eqD (callE m_tape (consA (vE 2) (consA (vE 18) (consA (tpxE nilA) nilA)))) (callE m_tape (consA (vE 19) (consA (vE 18) (consA (tpxE nilA) nilA))))))) (retS (cE (.bl false))) nxS)
    (retS (orE (opE gtD (vE 3) (cE (.int 4))) (opE eqD (opE isND (vE 18) (cE .non)) (opE eqD (vE 13) (vE 17)))))))))))))))))))))))
def m_law_k33 : Fn := fnS 20 b_law_k33
def b_law_text : Sm :=
  (seqS (asgS (nmG 4) (unE sortedSetD (opE addD (opE getD (vE 2) (cE (.int 0))) (opE getD (vE 2) (cE (.int 1))))))
    (retS (sopE joinD (cE (.str [])) (lcE (itR1 (callE m_law_draw (consA (vE 0) (consA (vE 1) (consA (opE addD (vE 3) (cE (.int 1))) nilA))))) [5] (nmG 5) yesT (noX (callE m_law_pick (consA (vE 0) (consA (vE 1) (consA (vE 4) nilA)))))))))
def m_law_text : Fn := fnS 6 b_law_text
def b_law_k39 : Sm :=
  (seqS (asgS (nmG 1) (newE (lstE nilA)))
    (seqS (asgS (nmG 2) (callE m_law_wheels (consA (vE 0) (consA (vE 1) (consA (cE (.int 6)) nilA)))))
    (seqS (asgS (nmG 3) (bE lenB (consA (opE getD (vE 2) (cE (.int 0))) nilA)))
    (seqS (parS 4 5 (callE m_law_draw (consA (vE 0) (consA (vE 1) (consA (vE 3) nilA)))) (callE m_law_pick (consA (vE 0) (consA (vE 1) (consA (lstE (consA (cE (.str [108])) (consA (cE (.str [102])) nilA))) nilA)))))
    (seqS (asgS (nmG 6) (callE m_law_text (consA (vE 0) (consA (vE 1) (consA (vE 2) (consA (cE (.int 4)) nilA))))))
    (seqS (asgS (nmG 7) (callE m_law_draw (consA (vE 0) (consA (vE 1) (consA (vE 3) nilA)))))
    (seqS (asgS (nmG 8) (callE m_turned (consA (vE 2) (consA (vE 7) nilA))))
    (seqS (asgS (nmG 9) (tupE (consA (opE modD (opE subD (vE 4) (vE 7)) (vE 3)) (consA (vE 5) (consA (cE (.int 0)) nilA)))))
    (seqS (ifS (tE (opE neD (callE m_least_from (consA (vE 8) (consA (vE 9) (consA (vE 6) nilA)))) (callE m_least_from (consA (vE 2) (consA (tupE (consA (vE 4) (consA (vE 5) (consA (cE (.int 0)) nilA)))) (consA (vE 6) nilA)))))) (retS (cE (.bl false))) nxS)
    (seqS (ifS (tE (opE neD (callE m_signs_near (consA (vE 8) (consA (vE 9) (consA (cE (.int 4)) nilA)))) (callE m_signs_near (consA (vE 2) (consA (tupE (consA (vE 4) (consA (vE 5) (consA (cE (.int 0)) nilA)))) (consA (cE (.int 4)) nilA)))))) (retS (cE (.bl false))) nxS)
    (seqS (asgS (nmG 10) (dsub2E (cE (.str [108])) (cE (.str [102])) (cE (.str [102])) (cE (.str [108])) (vE 5)))
    (seqS (asgS (nmG 11) (callE m_law_stand (consA (vE 0) (consA (vE 1) (consA (vE 2) nilA)))))
    (seqS (asgS (nmG 12) (tupE (consA (opE getD (vE 11) (cE (.int 0))) (consA (dsub2E (cE (.str [108])) (cE (.str [102])) (cE (.str [102])) (cE (.str [108])) (opE getD (vE 11) (cE (.int 1)))) (consA (opE getD (vE 11) (cE (.int 2))) nilA)))))
    (seqS (ifS (tE (opE neD (callE m_least_from (consA (callE m_swapped (consA (vE 2) nilA)) (consA (vE 12) (consA (vE 6) nilA)))) (callE m_least_from (consA (vE 2) (consA (vE 11) (consA (vE 6) nilA)))))) (retS (cE (.bl false))) nxS)
    (seqS (ifS (tE (opE neD (callE m_signs_near (consA (callE m_swapped (consA (vE 2) nilA)) (consA (vE 12) (consA (cE (.int 3)) nilA)))) (callE m_signs_near (consA (vE 2) (consA (vE 11) (consA (cE (.int 3)) nilA)))))) (retS (cE (.bl false))) nxS)
    (seqS (asgS (nmG 13) (callE m_best_stand (consA (vE 2) (consA (vE 6) nilA))))
    (seqS (ifS (tE (opE neD (callE m_least_from (consA (callE m_swapped (consA (vE 2) nilA)) (consA (callE m_best_stand (consA (callE m_swapped (consA (vE 2) nilA)) (consA (vE 6) nilA))) (consA (vE 6) nilA)))) (callE m_least_from (consA (vE 2) (consA (vE 13) (consA (vE 6) nilA)))))) (retS (cE (.bl false))) nxS)
    (seqS (ifS (tE (opE neD (callE m_least_from (consA (vE 8) (consA (callE m_best_stand (consA (vE 8) (consA (vE 6) nilA))) (consA (vE 6) nilA)))) (callE m_least_from (consA (vE 2) (consA (vE 13) (consA (vE 6) nilA)))))) (retS (cE (.bl false))) nxS)
    (seqS (asgS (nmG 14) (callE m_row_from (consA (vE 8) (consA (vE 9) (consA (vE 6) nilA)))))
    (retS (opE eqD (bE lenB (consA (vE 14) nilA)) (callE m_least_from (consA (callE m_swapped (consA (vE 8) nilA)) (consA (tupE (consA (opE getD (vE 9) (cE (.int 0))) (consA (vE 10) (consA (cE (.int 0)) nilA)))) (consA (vE 6) nilA)))))))))))))))))))))))))
def m_law_k39 : Fn := fnS 15 b_law_k39
end LW
namespace LW.K39
open PySem PySem.Spec PyProof.Rows L2
def topS (i : Nat) : Stmt := PySem.Challenge.pw_letterwheels_k39_whole_starts_turned.main.body.getD i (.Pass ⟨0, 0, 0, 0⟩)
abbrev s_law_cell_at : Stmt := topS 35
abbrev N_law_cell_at : List Str := ["script", "k"]
theorem sc_law_cell_at : FnScope N_law_cell_at ["script", "k"] (defScope s_law_cell_at) := ⟨rfl, rfl, rfl, by decide +kernel, rfl, by decide +kernel, by decide +kernel⟩
abbrev s_law_mixed : Stmt := topS 36
abbrev N_law_mixed : List Str := ["script", "k", "many", "drawn"]
theorem sc_law_mixed : FnScope N_law_mixed ["script", "k", "many"] (defScope s_law_mixed) := ⟨rfl, rfl, rfl, by decide +kernel, rfl, by decide +kernel, by decide +kernel⟩
abbrev s_law_draw : Stmt := topS 37
abbrev N_law_draw : List Str := ["script", "town", "many"]
theorem sc_law_draw : FnScope N_law_draw ["script", "town", "many"] (defScope s_law_draw) := ⟨rfl, rfl, rfl, by decide +kernel, rfl, by decide +kernel, by decide +kernel⟩
abbrev s_law_wheel : Stmt := topS 39
abbrev N_law_wheel : List Str := ["script", "town", "many", "left", "made", "k"]
theorem sc_law_wheel : FnScope N_law_wheel ["script", "town", "many"] (defScope s_law_wheel) := ⟨rfl, rfl, rfl, by decide +kernel, rfl, by decide +kernel, by decide +kernel⟩
abbrev s_law_wheels : Stmt := topS 40
abbrev N_law_wheels : List Str := ["script", "town", "most", "many"]
theorem sc_law_wheels : FnScope N_law_wheels ["script", "town", "most"] (defScope s_law_wheels) := ⟨rfl, rfl, rfl, by decide +kernel, rfl, by decide +kernel, by decide +kernel⟩
abbrev s_law_pick : Stmt := topS 38
abbrev N_law_pick : List Str := ["script", "town", "some"]
theorem sc_law_pick : FnScope N_law_pick ["script", "town", "some"] (defScope s_law_pick) := ⟨rfl, rfl, rfl, by decide +kernel, rfl, by decide +kernel, by decide +kernel⟩
abbrev s_law_text : Stmt := topS 45
abbrev N_law_text : List Str := ["script", "town", "wheels", "most", "signs", "k"]
theorem sc_law_text : FnScope N_law_text ["script", "town", "wheels", "most"] (defScope s_law_text) := ⟨rfl, rfl, rfl, by decide +kernel, rfl, by decide +kernel, by decide +kernel⟩
abbrev s_is_whole : Stmt := topS 12
abbrev N_is_whole : List Str := ["thing", "low", "most"]
theorem sc_is_whole : FnScope N_is_whole ["thing", "low", "most"] (defScope s_is_whole) := ⟨rfl, rfl, rfl, by decide +kernel, rfl, by decide +kernel, by decide +kernel⟩
abbrev s_are_signs : Stmt := topS 13
abbrev N_are_signs : List Str := ["thing", "low", "most", "sign"]
theorem sc_are_signs : FnScope N_are_signs ["thing", "low", "most"] (defScope s_are_signs) := ⟨rfl, rfl, rfl, by decide +kernel, rfl, by decide +kernel, by decide +kernel⟩
abbrev s_is_wheel : Stmt := topS 14
abbrev N_is_wheel : List Str := ["thing"]
theorem sc_is_wheel : FnScope N_is_wheel ["thing"] (defScope s_is_wheel) := ⟨rfl, rfl, rfl, by decide +kernel, rfl, by decide +kernel, by decide +kernel⟩
abbrev s_is_wheels : Stmt := topS 15
abbrev N_is_wheels : List Str := ["thing"]
theorem sc_is_wheels : FnScope N_is_wheels ["thing"] (defScope s_is_wheels) := ⟨rfl, rfl, rfl, by decide +kernel, rfl, by decide +kernel, by decide +kernel⟩
abbrev s_need_wheels : Stmt := topS 16
abbrev N_need_wheels : List Str := ["thing"]
theorem sc_need_wheels : FnScope N_need_wheels ["thing"] (defScope s_need_wheels) := ⟨rfl, rfl, rfl, by decide +kernel, rfl, by decide +kernel, by decide +kernel⟩
abbrev s_places_of : Stmt := topS 17
abbrev N_places_of : List Str := ["wheels"]
theorem sc_places_of : FnScope N_places_of ["wheels"] (defScope s_places_of) := ⟨rfl, rfl, rfl, by decide +kernel, rfl, by decide +kernel, by decide +kernel⟩
abbrev s_turned : Stmt := topS 32
abbrev N_turned : List Str := ["wheels", "places", "wheel"]
theorem sc_turned : FnScope N_turned ["wheels", "places"] (defScope s_turned) := ⟨rfl, rfl, rfl, by decide +kernel, rfl, by decide +kernel, by decide +kernel⟩
abbrev s_law_stand : Stmt := topS 41
abbrev N_law_stand : List Str := ["script", "town", "wheels", "many", "idle"]
theorem sc_law_stand : FnScope N_law_stand ["script", "town", "wheels"] (defScope s_law_stand) := ⟨rfl, rfl, rfl, by decide +kernel, rfl, by decide +kernel, by decide +kernel⟩
abbrev s_is_stand : Stmt := topS 18
abbrev N_is_stand : List Str := ["wheels", "thing"]
theorem sc_is_stand : FnScope N_is_stand ["wheels", "thing"] (defScope s_is_stand) := ⟨rfl, rfl, rfl, by decide +kernel, rfl, by decide +kernel, by decide +kernel⟩
abbrev s_need_stand : Stmt := topS 19
abbrev N_need_stand : List Str := ["wheels", "thing"]
theorem sc_need_stand : FnScope N_need_stand ["wheels", "thing"] (defScope s_need_stand) := ⟨rfl, rfl, rfl, by decide +kernel, rfl, by decide +kernel, by decide +kernel⟩
abbrev s_need_short : Stmt := topS 25
abbrev N_need_short : List Str := ["wheels", "stand", "text", "sign"]
theorem sc_need_short : FnScope N_need_short ["wheels", "stand", "text"] (defScope s_need_short) := ⟨rfl, rfl, rfl, by decide +kernel, rfl, by decide +kernel, by decide +kernel⟩
abbrev s_is_caught : Stmt := topS 21
abbrev N_is_caught : List Str := ["wheels", "stand"]
theorem sc_is_caught : FnScope N_is_caught ["wheels", "stand"] (defScope s_is_caught) := ⟨rfl, rfl, rfl, by decide +kernel, rfl, by decide +kernel, by decide +kernel⟩
abbrev s_pulsed : Stmt := topS 22
abbrev N_pulsed : List Str := ["wheels", "stand", "pulse", "place", "wheel", "idle"]
theorem sc_pulsed : FnScope N_pulsed ["wheels", "stand", "pulse"] (defScope s_pulsed) := ⟨rfl, rfl, rfl, by decide +kernel, rfl, by decide +kernel, by decide +kernel⟩
abbrev s_searched : Stmt := topS 26
abbrev N_searched : List Str := ["wheels", "stand", "text", "known", "rows", "later", "row", "here", "many", "pulse", "there", "sign"]
theorem sc_searched : FnScope N_searched ["wheels", "stand", "text"] (defScope s_searched) := ⟨rfl, rfl, rfl, by decide +kernel, rfl, by decide +kernel, by decide +kernel⟩
abbrev s_best_stand : Stmt := topS 29
abbrev N_best_stand : List Str := ["wheels", "text", "some", "number", "wheel", "place", "many"]
theorem sc_best_stand : FnScope N_best_stand ["wheels", "text"] (defScope s_best_stand) := ⟨rfl, rfl, rfl, by decide +kernel, rfl, by decide +kernel, by decide +kernel⟩
abbrev s_row_from : Stmt := topS 27
abbrev N_row_from : List Str := ["wheels", "stand", "text"]
theorem sc_row_from : FnScope N_row_from ["wheels", "stand", "text"] (defScope s_row_from) := ⟨rfl, rfl, rfl, by decide +kernel, rfl, by decide +kernel, by decide +kernel⟩
abbrev s_least_from : Stmt := topS 28
abbrev N_least_from : List Str := ["wheels", "stand", "text"]
theorem sc_least_from : FnScope N_least_from ["wheels", "stand", "text"] (defScope s_least_from) := ⟨rfl, rfl, rfl, by decide +kernel, rfl, by decide +kernel, by decide +kernel⟩
abbrev s_signs_near : Stmt := topS 30
abbrev N_signs_near : List Str := ["wheels", "stand", "many", "made", "sign"]
theorem sc_signs_near : FnScope N_signs_near ["wheels", "stand", "many"] (defScope s_signs_near) := ⟨rfl, rfl, rfl, by decide +kernel, rfl, by decide +kernel, by decide +kernel⟩
abbrev s_swapped : Stmt := topS 33
abbrev N_swapped : List Str := ["wheels"]
theorem sc_swapped : FnScope N_swapped ["wheels"] (defScope s_swapped) := ⟨rfl, rfl, rfl, by decide +kernel, rfl, by decide +kernel, by decide +kernel⟩
abbrev s_law_k39 : Stmt := topS 46
abbrev N_law_k39 : List Str := ["script", "town", "wheels", "many", "place", "wheel", "text", "by", "there", "moved", "other", "stand", "beside", "best", "row"]
theorem sc_law_k39 : FnScope N_law_k39 ["script"] (defScope s_law_k39) := ⟨rfl, rfl, rfl, by decide +kernel, rfl, by decide +kernel, by decide +kernel⟩
structure Txt (C : Cn) (mg : Str → Option Value) where
  f_law_cell_at : Addr
  fd_law_cell_at : FuncData
  F_law_cell_at : Fun C.K "_law_cell_at" "_law_cell_at" s_law_cell_at f_law_cell_at fd_law_cell_at
  g_law_cell_at : mg "_law_cell_at" = some (.ref f_law_cell_at)
  b_law_cell_at : Binds C.K fd_law_cell_at ["script", "k"] []
  f_law_mixed : Addr
  fd_law_mixed : FuncData
  F_law_mixed : Fun C.K "_law_mixed" "_law_mixed" s_law_mixed f_law_mixed fd_law_mixed
  g_law_mixed : mg "_law_mixed" = some (.ref f_law_mixed)
  b_law_mixed : Binds C.K fd_law_mixed ["script", "k", "many"] []
  f_law_draw : Addr
  fd_law_draw : FuncData
  F_law_draw : Fun C.K "_law_draw" "_law_draw" s_law_draw f_law_draw fd_law_draw
  g_law_draw : mg "_law_draw" = some (.ref f_law_draw)
  b_law_draw : Binds C.K fd_law_draw ["script", "town", "many"] []
  f_law_wheel : Addr
  fd_law_wheel : FuncData
  F_law_wheel : Fun C.K "_law_wheel" "_law_wheel" s_law_wheel f_law_wheel fd_law_wheel
  g_law_wheel : mg "_law_wheel" = some (.ref f_law_wheel)
  b_law_wheel : Binds C.K fd_law_wheel ["script", "town", "many"] []
  f_law_wheels : Addr
  fd_law_wheels : FuncData
  F_law_wheels : Fun C.K "_law_wheels" "_law_wheels" s_law_wheels f_law_wheels fd_law_wheels
  g_law_wheels : mg "_law_wheels" = some (.ref f_law_wheels)
  b_law_wheels : Binds C.K fd_law_wheels ["script", "town", "most"] []
  f_law_pick : Addr
  fd_law_pick : FuncData
  F_law_pick : Fun C.K "_law_pick" "_law_pick" s_law_pick f_law_pick fd_law_pick
  g_law_pick : mg "_law_pick" = some (.ref f_law_pick)
  b_law_pick : Binds C.K fd_law_pick ["script", "town", "some"] []
  f_law_text : Addr
  fd_law_text : FuncData
  F_law_text : Fun C.K "_law_text" "_law_text" s_law_text f_law_text fd_law_text
  g_law_text : mg "_law_text" = some (.ref f_law_text)
  b_law_text : Binds C.K fd_law_text ["script", "town", "wheels", "most"] []
  f_is_whole : Addr
  fd_is_whole : FuncData
  F_is_whole : Fun C.K "is_whole" "is_whole" s_is_whole f_is_whole fd_is_whole
  g_is_whole : mg "is_whole" = some (.ref f_is_whole)
  b_is_whole : Binds C.K fd_is_whole ["thing", "low", "most"] []
  f_are_signs : Addr
  fd_are_signs : FuncData
  F_are_signs : Fun C.K "are_signs" "are_signs" s_are_signs f_are_signs fd_are_signs
  g_are_signs : mg "are_signs" = some (.ref f_are_signs)
  b_are_signs : Binds C.K fd_are_signs ["thing", "low", "most"] []
  f_is_wheel : Addr
  fd_is_wheel : FuncData
  F_is_wheel : Fun C.K "is_wheel" "is_wheel" s_is_wheel f_is_wheel fd_is_wheel
  g_is_wheel : mg "is_wheel" = some (.ref f_is_wheel)
  b_is_wheel : Binds C.K fd_is_wheel ["thing"] []
  f_is_wheels : Addr
  fd_is_wheels : FuncData
  F_is_wheels : Fun C.K "is_wheels" "is_wheels" s_is_wheels f_is_wheels fd_is_wheels
  g_is_wheels : mg "is_wheels" = some (.ref f_is_wheels)
  b_is_wheels : Binds C.K fd_is_wheels ["thing"] []
  f_need_wheels : Addr
  fd_need_wheels : FuncData
  F_need_wheels : Fun C.K "need_wheels" "need_wheels" s_need_wheels f_need_wheels fd_need_wheels
  g_need_wheels : mg "need_wheels" = some (.ref f_need_wheels)
  b_need_wheels : Binds C.K fd_need_wheels ["thing"] []
  f_places_of : Addr
  fd_places_of : FuncData
  F_places_of : Fun C.K "places_of" "places_of" s_places_of f_places_of fd_places_of
  g_places_of : mg "places_of" = some (.ref f_places_of)
  b_places_of : Binds C.K fd_places_of ["wheels"] []
  f_turned : Addr
  fd_turned : FuncData
  F_turned : Fun C.K "turned" "turned" s_turned f_turned fd_turned
  g_turned : mg "turned" = some (.ref f_turned)
  b_turned : Binds C.K fd_turned ["wheels", "places"] []
  f_law_stand : Addr
  fd_law_stand : FuncData
  F_law_stand : Fun C.K "_law_stand" "_law_stand" s_law_stand f_law_stand fd_law_stand
  g_law_stand : mg "_law_stand" = some (.ref f_law_stand)
  b_law_stand : Binds C.K fd_law_stand ["script", "town", "wheels"] []
  f_is_stand : Addr
  fd_is_stand : FuncData
  F_is_stand : Fun C.K "is_stand" "is_stand" s_is_stand f_is_stand fd_is_stand
  g_is_stand : mg "is_stand" = some (.ref f_is_stand)
  b_is_stand : Binds C.K fd_is_stand ["wheels", "thing"] []
  f_need_stand : Addr
  fd_need_stand : FuncData
  F_need_stand : Fun C.K "need_stand" "need_stand" s_need_stand f_need_stand fd_need_stand
  g_need_stand : mg "need_stand" = some (.ref f_need_stand)
  b_need_stand : Binds C.K fd_need_stand ["wheels", "thing"] []
  f_need_short : Addr
  fd_need_short : FuncData
  F_need_short : Fun C.K "need_short" "need_short" s_need_short f_need_short fd_need_short
  g_need_short : mg "need_short" = some (.ref f_need_short)
  b_need_short : Binds C.K fd_need_short ["wheels", "stand", "text"] []
  f_is_caught : Addr
  fd_is_caught : FuncData
  F_is_caught : Fun C.K "is_caught" "is_caught" s_is_caught f_is_caught fd_is_caught
  g_is_caught : mg "is_caught" = some (.ref f_is_caught)
  b_is_caught : Binds C.K fd_is_caught ["wheels", "stand"] []
  f_pulsed : Addr
  fd_pulsed : FuncData
  F_pulsed : Fun C.K "pulsed" "pulsed" s_pulsed f_pulsed fd_pulsed
  g_pulsed : mg "pulsed" = some (.ref f_pulsed)
  b_pulsed : Binds C.K fd_pulsed ["wheels", "stand", "pulse"] []
  f_searched : Addr
  fd_searched : FuncData
  F_searched : Fun C.K "searched" "searched" s_searched f_searched fd_searched
  g_searched : mg "searched" = some (.ref f_searched)
  b_searched : Binds C.K fd_searched ["wheels", "stand", "text"] []
  f_best_stand : Addr
  fd_best_stand : FuncData
  F_best_stand : Fun C.K "best_stand" "best_stand" s_best_stand f_best_stand fd_best_stand
  g_best_stand : mg "best_stand" = some (.ref f_best_stand)
  b_best_stand : Binds C.K fd_best_stand ["wheels", "text"] []
  f_row_from : Addr
  fd_row_from : FuncData
  F_row_from : Fun C.K "row_from" "row_from" s_row_from f_row_from fd_row_from
  g_row_from : mg "row_from" = some (.ref f_row_from)
  b_row_from : Binds C.K fd_row_from ["wheels", "stand", "text"] []
  f_least_from : Addr
  fd_least_from : FuncData
  F_least_from : Fun C.K "least_from" "least_from" s_least_from f_least_from fd_least_from
  g_least_from : mg "least_from" = some (.ref f_least_from)
  b_least_from : Binds C.K fd_least_from ["wheels", "stand", "text"] []
  f_signs_near : Addr
  fd_signs_near : FuncData
  F_signs_near : Fun C.K "signs_near" "signs_near" s_signs_near f_signs_near fd_signs_near
  g_signs_near : mg "signs_near" = some (.ref f_signs_near)
  b_signs_near : Binds C.K fd_signs_near ["wheels", "stand", "many"] []
  f_swapped : Addr
  fd_swapped : FuncData
  F_swapped : Fun C.K "swapped" "swapped" s_swapped f_swapped fd_swapped
  g_swapped : mg "swapped" = some (.ref f_swapped)
  b_swapped : Binds C.K fd_swapped ["wheels"] []
  f_law_k39 : Addr
  fd_law_k39 : FuncData
  F_law_k39 : Fun C.K "law" "law" s_law_k39 f_law_k39 fd_law_k39
  g_law_k39 : mg "law" = some (.ref f_law_k39)
  b_law_k39 : Binds C.K fd_law_k39 ["script"] []
  z_all : mg "all" = none
  z_bool : mg "bool" = none
  z_enumerate : mg "enumerate" = none
  z_int : mg "int" = none
  z_isinstance : mg "isinstance" = none
  z_len : mg "len" = none
  z_list : mg "list" = none
  z_min : mg "min" = none
  z_range : mg "range" = none
  z_set : mg "set" = none
  z_sorted : mg "sorted" = none
  z_str : mg "str" = none
  z_tuple : mg "tuple" = none
  k_LEAST : ∃ v u, mg "LEAST" = some u ∧ RelV v u ∧ ∀ ρ H, RepV C ρ H (.int 2) v
  k_MOST : ∃ v u, mg "MOST" = some u ∧ RelV v u ∧ ∀ ρ H, RepV C ρ H (.int 30) v
  k_PULSES : ∃ v u, mg "PULSES" = some u ∧ RelV v u ∧ ∀ ρ H, RepV C ρ H (.str c_PULSES) v
  k_SHORT : ∃ v u, mg "SHORT" = some u ∧ RelV v u ∧ ∀ ρ H, RepV C ρ H (.int 12) v
  k_SIGNS : ∃ v u, mg "SIGNS" = some u ∧ RelV v u ∧ ∀ ρ H, RepV C ρ H (.str c_SIGNS) v
  k_TURNS : ∃ v u, mg "TURNS" = some u ∧ RelV v u ∧ ∀ ρ H, RepV C ρ H (.int 3) v
  x_NoPlace : Addr
  q_NoPlace : PySem.W.excIn C.K x_NoPlace [.type "ValueError", .type "Exception", .type "BaseException", .type "object"] "ValueError.__new__" = true
  n_NoPlace : mg "NoPlace" = some (.ref x_NoPlace)
  p_NoPlace : PySem.W.keepIn C.K (.ref x_NoPlace) = true
  e_NoPlace : PySem.W.subIn C.K (.ref x_NoPlace) (.type "BaseException") = some true
  t_NoPlace : PySem.W.typeIn C.K (.ref x_NoPlace) = some (.type "type")
  c_NoPlace : C.cls "NoPlace" = .ref x_NoPlace
  x_NoStand : Addr
  q_NoStand : PySem.W.excIn C.K x_NoStand [.type "ValueError", .type "Exception", .type "BaseException", .type "object"] "ValueError.__new__" = true
  n_NoStand : mg "NoStand" = some (.ref x_NoStand)
  p_NoStand : PySem.W.keepIn C.K (.ref x_NoStand) = true
  e_NoStand : PySem.W.subIn C.K (.ref x_NoStand) (.type "BaseException") = some true
  t_NoStand : PySem.W.typeIn C.K (.ref x_NoStand) = some (.type "type")
  c_NoStand : C.cls "NoStand" = .ref x_NoStand
  x_NoText : Addr
  q_NoText : PySem.W.excIn C.K x_NoText [.type "ValueError", .type "Exception", .type "BaseException", .type "object"] "ValueError.__new__" = true
  n_NoText : mg "NoText" = some (.ref x_NoText)
  p_NoText : PySem.W.keepIn C.K (.ref x_NoText) = true
  e_NoText : PySem.W.subIn C.K (.ref x_NoText) (.type "BaseException") = some true
  t_NoText : PySem.W.typeIn C.K (.ref x_NoText) = some (.type "type")
  c_NoText : C.cls "NoText" = .ref x_NoText
  x_NoWheels : Addr
  q_NoWheels : PySem.W.excIn C.K x_NoWheels [.type "ValueError", .type "Exception", .type "BaseException", .type "object"] "ValueError.__new__" = true
  n_NoWheels : mg "NoWheels" = some (.ref x_NoWheels)
  p_NoWheels : PySem.W.keepIn C.K (.ref x_NoWheels) = true
  e_NoWheels : PySem.W.subIn C.K (.ref x_NoWheels) (.type "BaseException") = some true
  t_NoWheels : PySem.W.typeIn C.K (.ref x_NoWheels) = some (.type "type")
  c_NoWheels : C.cls "NoWheels" = .ref x_NoWheels
section
variable {C : Cn} {P : Program} {mg : Str → Option Value} {base : Heap}
theorem ok_law_cell_at (T : Txt C mg) : FnOk P C.w C.K mg base (L2.CX P C.w) 1 T.f_law_cell_at T.fd_law_cell_at ["script", "k"] (spOf C 2 m_law_cell_at) := by
  refine fn_ok (N := N_law_cell_at) (body := b_law_cell_at) T.F_law_cell_at sc_law_cell_at rfl fun cdv A outer s H E hr => ?_
  have tk : TakesK (cxOf (L2.CX P C.w) P C.w C.K mg base N_law_cell_at "_law_cell_at" (defScope s_law_cell_at) T.f_law_cell_at cdv A outer s H E) E := takes_of rfl rfl rfl rfl
  have pw : PassesOwn (model P C.w) (cxOf (L2.CX P C.w) P C.w C.K mg base N_law_cell_at "_law_cell_at" (defScope s_law_cell_at) T.f_law_cell_at cdv A outer s H E).A (cxOf (L2.CX P C.w) P C.w C.K mg base N_law_cell_at "_law_cell_at" (defScope s_law_cell_at) T.f_law_cell_at cdv A outer s H E).env (cxOf (L2.CX P C.w) P C.w C.K mg base N_law_cell_at "_law_cell_at" (defScope s_law_cell_at) T.f_law_cell_at cdv A outer s H E).xe := passes_of rfl
  exact (dss_cons (ds_if (by exact (dt_cmp or_lt os_lt (by exact (dv 1)) (by exact (de_callB call_len bs_len (by rfl) T.z_len PySem.boot_len (by exact (da_cons (by exact (dv 0)) da_nil)))) (nomark _))) (dss_one (ds_ret (by exact (de_ix ix_seq os_get (by exact (dv 0)) (by exact (dv 1)) (fun _ _ => rfl))))) dss_nil)
    (dss_cons (ds_if (by exact (dt_cmp (op_eqD hr.units) os_eq (by exact (dv 0)) (by exact (de_lst da_nil)) (nomark _))) (dss_one (ds_ret de_int)) dss_nil)
    (dss_one (ds_ret (by exact (de_op or_add os_add (by exact (de_op or_mul os_mul (by exact (de_ix ix_seq os_get (by exact (dv 0)) (by exact (de_op op_mod os_mod (by exact (dv 1)) (by exact (de_callB call_len bs_len (by rfl) T.z_len PySem.boot_len (by exact (da_cons (by exact (dv 0)) da_nil)))))) (fun _ _ => rfl))) de_int)) (by exact (dv 1))))))))
theorem ok_law_mixed (T : Txt C mg) : FnOk P C.w C.K mg base (L2.CX P C.w) 2 T.f_law_mixed T.fd_law_mixed ["script", "k", "many"] (spOf C 3 m_law_mixed) := by
  refine fn_ok (N := N_law_mixed) (body := b_law_mixed) T.F_law_mixed sc_law_mixed rfl fun cdv A outer s H E hr => ?_
  have tk : TakesK (cxOf (L2.CX P C.w) P C.w C.K mg base N_law_mixed "_law_mixed" (defScope s_law_mixed) T.f_law_mixed cdv A outer s H E) E := takes_of rfl rfl rfl rfl
  have pw : PassesOwn (model P C.w) (cxOf (L2.CX P C.w) P C.w C.K mg base N_law_mixed "_law_mixed" (defScope s_law_mixed) T.f_law_mixed cdv A outer s H E).A (cxOf (L2.CX P C.w) P C.w C.K mg base N_law_mixed "_law_mixed" (defScope s_law_mixed) T.f_law_mixed cdv A outer s H E).env (cxOf (L2.CX P C.w) P C.w C.K mg base N_law_mixed "_law_mixed" (defScope s_law_mixed) T.f_law_mixed cdv A outer s H E).xe := passes_of rfl
  exact (dss_cons (ds_set (i := 3) sc_law_mixed.nd rfl (by first | exact .inl rfl | exact .inr rfl) (by exact (de_op op_mod os_mod (by exact (de_op or_add os_add (by exact (de_op or_add os_add (by exact (de_op or_mul os_mul (by exact (de_call (ok_law_cell_at T) (hr.mono (by decide)) (by rfl) T.g_law_cell_at T.F_law_cell_at.kp T.b_law_cell_at tk (by exact (da_cons (by exact (dv 0)) (da_cons (by exact (dv 1)) da_nil))) (lenS (lenS len0)))) de_int)) (by exact (de_op or_mul os_mul de_int (by exact (dv 1)))))) de_int)) de_int)))
    (dss_one (ds_ret (by exact (de_op op_mod os_mod (by exact (de_op op_mod os_mod (by exact (de_op op_mod os_mod (by exact (de_op op_pow os_pow (by exact (dv 3)) de_int)) de_int)) de_int)) (by exact (dv 2)))))))
theorem ok_law_draw (T : Txt C mg) : FnOk P C.w C.K mg base (L2.CX P C.w) 3 T.f_law_draw T.fd_law_draw ["script", "town", "many"] (spOf C 3 m_law_draw) := by
  refine fn_ok (N := N_law_draw) (body := b_law_draw) T.F_law_draw sc_law_draw rfl fun cdv A outer s H E hr => ?_
  have tk : TakesK (cxOf (L2.CX P C.w) P C.w C.K mg base N_law_draw "_law_draw" (defScope s_law_draw) T.f_law_draw cdv A outer s H E) E := takes_of rfl rfl rfl rfl
  have pw : PassesOwn (model P C.w) (cxOf (L2.CX P C.w) P C.w C.K mg base N_law_draw "_law_draw" (defScope s_law_draw) T.f_law_draw cdv A outer s H E).A (cxOf (L2.CX P C.w) P C.w C.K mg base N_law_draw "_law_draw" (defScope s_law_draw) T.f_law_draw cdv A outer s H E).env (cxOf (L2.CX P C.w) P C.w C.K mg base N_law_draw "_law_draw" (defScope s_law_draw) T.f_law_draw cdv A outer s H E).xe := passes_of rfl
  exact (dss_cons (ds_expr (by exact (PE.imp (pe_bm PySem.F.plainAttrs_list PySem.F.slot_list_append PySem.F.type_list_append mt_append (by exact (dv 1)) (by exact (da_cons de_int da_nil))) (mt_of ms_app))))
    (dss_one (ds_ret (by exact (de_call (ok_law_mixed T) (hr.mono (by decide)) (by rfl) T.g_law_mixed T.F_law_mixed.kp T.b_law_mixed tk (by exact (da_cons (by exact (dv 0)) (da_cons (by exact (de_callB call_len bs_len (by rfl) T.z_len PySem.boot_len (by exact (da_cons (by exact (dv 1)) da_nil)))) (da_cons (by exact (dv 2)) da_nil)))) (lenS (lenS (lenS len0))))))))
theorem ok_law_wheel (T : Txt C mg) : FnOk P C.w C.K mg base (L2.CX P C.w) 4 T.f_law_wheel T.fd_law_wheel ["script", "town", "many"] (spOf C 3 m_law_wheel) := by
  refine fn_ok (N := N_law_wheel) (body := b_law_wheel) T.F_law_wheel sc_law_wheel rfl fun cdv A outer s H E hr => ?_
  have tk : TakesK (cxOf (L2.CX P C.w) P C.w C.K mg base N_law_wheel "_law_wheel" (defScope s_law_wheel) T.f_law_wheel cdv A outer s H E) E := takes_of rfl rfl rfl rfl
  have pw : PassesOwn (model P C.w) (cxOf (L2.CX P C.w) P C.w C.K mg base N_law_wheel "_law_wheel" (defScope s_law_wheel) T.f_law_wheel cdv A outer s H E).A (cxOf (L2.CX P C.w) P C.w C.K mg base N_law_wheel "_law_wheel" (defScope s_law_wheel) T.f_law_wheel cdv A outer s H E).env (cxOf (L2.CX P C.w) P C.w C.K mg base N_law_wheel "_law_wheel" (defScope s_law_wheel) T.f_law_wheel cdv A outer s H E).xe := passes_of rfl
  exact (dss_cons (ds_par (by rfl) sc_law_wheel.nd rfl rfl (by decide) rfl rfl (de_newList rfl rfl (by rfl) T.z_list (by decide +kernel) (by exact (de_str (by decide +kernel) (by decide +kernel)))) (by exact (de_str (by decide +kernel) (by decide +kernel))) (by rfl))
    (dss_cons (ds_for pw rfl (by exact di_rng1 (by rfl) T.z_range (by exact (dv 2))) (dg_name (i := 5) sc_law_wheel.nd rfl (by first | exact .inl rfl | exact .inr rfl)) (dss_one (ds_set (i := 4) sc_law_wheel.nd rfl (by first | exact .inl rfl | exact .inr rfl) (by exact (de_op or_add os_add (by exact (dv 4)) (by exact (PE.imp (pe_bm PySem.F.plainAttrs_list PySem.F.slot_list_pop PySem.F.type_list_pop mt_popAt (by exact (dv 3)) (by exact (da_cons (by exact (de_call (ok_law_draw T) (hr.mono (by decide)) (by rfl) T.g_law_draw T.F_law_draw.kp T.b_law_draw tk (by exact (da_cons (by exact (dv 0)) (da_cons (by exact (dv 1)) (da_cons (by exact (de_callB call_len bs_len (by rfl) T.z_len PySem.boot_len (by exact (da_cons (by exact (dv 3)) da_nil)))) da_nil)))) (lenS (lenS (lenS len0))))) da_nil))) (mt_of ms_popAt))))))))
    (dss_one (ds_ret (by exact (dv 4))))))
theorem ok_law_wheels (T : Txt C mg) : FnOk P C.w C.K mg base (L2.CX P C.w) 5 T.f_law_wheels T.fd_law_wheels ["script", "town", "most"] (spOf C 3 m_law_wheels) := by
  refine fn_ok (N := N_law_wheels) (body := b_law_wheels) T.F_law_wheels sc_law_wheels rfl fun cdv A outer s H E hr => ?_
  have tk : TakesK (cxOf (L2.CX P C.w) P C.w C.K mg base N_law_wheels "_law_wheels" (defScope s_law_wheels) T.f_law_wheels cdv A outer s H E) E := takes_of rfl rfl rfl rfl
  have pw : PassesOwn (model P C.w) (cxOf (L2.CX P C.w) P C.w C.K mg base N_law_wheels "_law_wheels" (defScope s_law_wheels) T.f_law_wheels cdv A outer s H E).A (cxOf (L2.CX P C.w) P C.w C.K mg base N_law_wheels "_law_wheels" (defScope s_law_wheels) T.f_law_wheels cdv A outer s H E).env (cxOf (L2.CX P C.w) P C.w C.K mg base N_law_wheels "_law_wheels" (defScope s_law_wheels) T.f_law_wheels cdv A outer s H E).xe := passes_of rfl
  exact (dss_cons (ds_set (i := 3) sc_law_wheels.nd rfl (by first | exact .inl rfl | exact .inr rfl) (by exact (de_op or_add os_add de_int (by exact (de_call (ok_law_draw T) (hr.mono (by decide)) (by rfl) T.g_law_draw T.F_law_draw.kp T.b_law_draw tk (by exact (da_cons (by exact (dv 0)) (da_cons (by exact (dv 1)) (da_cons (by exact (de_op op_sub os_sub (by exact (dv 2)) de_int)) da_nil)))) (lenS (lenS (lenS len0))))))))
    (dss_one (ds_ret (by exact (de_tup (by exact (da_cons (by exact (de_call (ok_law_wheel T) (hr.mono (by decide)) (by rfl) T.g_law_wheel T.F_law_wheel.kp T.b_law_wheel tk (by exact (da_cons (by exact (dv 0)) (da_cons (by exact (dv 1)) (da_cons (by exact (dv 3)) da_nil)))) (lenS (lenS (lenS len0))))) (da_cons (by exact (de_call (ok_law_wheel T) (hr.mono (by decide)) (by rfl) T.g_law_wheel T.F_law_wheel.kp T.b_law_wheel tk (by exact (da_cons (by exact (dv 0)) (da_cons (by exact (dv 1)) (da_cons (by exact (dv 3)) da_nil)))) (lenS (lenS (lenS len0))))) (da_cons (by exact (de_op or_add os_add de_int (by exact (de_call (ok_law_draw T) (hr.mono (by decide)) (by rfl) T.g_law_draw T.F_law_draw.kp T.b_law_draw tk (by exact (da_cons (by exact (dv 0)) (da_cons (by exact (dv 1)) (da_cons de_int da_nil)))) (lenS (lenS (lenS len0))))))) da_nil)))))))))
theorem ok_law_pick (T : Txt C mg) : FnOk P C.w C.K mg base (L2.CX P C.w) 4 T.f_law_pick T.fd_law_pick ["script", "town", "some"] (spOf C 3 m_law_pick) := by
  refine fn_ok (N := N_law_pick) (body := b_law_pick) T.F_law_pick sc_law_pick rfl fun cdv A outer s H E hr => ?_
  have tk : TakesK (cxOf (L2.CX P C.w) P C.w C.K mg base N_law_pick "_law_pick" (defScope s_law_pick) T.f_law_pick cdv A outer s H E) E := takes_of rfl rfl rfl rfl
  have pw : PassesOwn (model P C.w) (cxOf (L2.CX P C.w) P C.w C.K mg base N_law_pick "_law_pick" (defScope s_law_pick) T.f_law_pick cdv A outer s H E).A (cxOf (L2.CX P C.w) P C.w C.K mg base N_law_pick "_law_pick" (defScope s_law_pick) T.f_law_pick cdv A outer s H E).env (cxOf (L2.CX P C.w) P C.w C.K mg base N_law_pick "_law_pick" (defScope s_law_pick) T.f_law_pick cdv A outer s H E).xe := passes_of rfl
  exact (dss_one (ds_ret (by exact (de_ix ix_seq os_get (by exact (dv 2)) (by exact (de_call (ok_law_draw T) (hr.mono (by decide)) (by rfl) T.g_law_draw T.F_law_draw.kp T.b_law_draw tk (by exact (da_cons (by exact (dv 0)) (da_cons (by exact (dv 1)) (da_cons (by exact (de_callB call_len bs_len (by rfl) T.z_len PySem.boot_len (by exact (da_cons (by exact (dv 2)) da_nil)))) da_nil)))) (lenS (lenS (lenS len0))))) (fun _ _ => rfl)))))
theorem ok_law_text (T : Txt C mg) : FnOk P C.w C.K mg base (L2.CX P C.w) 5 T.f_law_text T.fd_law_text ["script", "town", "wheels", "most"] (spOf C 4 m_law_text) := by
  refine fn_ok (N := N_law_text) (body := b_law_text) T.F_law_text sc_law_text rfl fun cdv A outer s H E hr => ?_
  have tk : TakesK (cxOf (L2.CX P C.w) P C.w C.K mg base N_law_text "_law_text" (defScope s_law_text) T.f_law_text cdv A outer s H E) E := takes_of rfl rfl rfl rfl
  have pw : PassesOwn (model P C.w) (cxOf (L2.CX P C.w) P C.w C.K mg base N_law_text "_law_text" (defScope s_law_text) T.f_law_text cdv A outer s H E).A (cxOf (L2.CX P C.w) P C.w C.K mg base N_law_text "_law_text" (defScope s_law_text) T.f_law_text cdv A outer s H E).env (cxOf (L2.CX P C.w) P C.w C.K mg base N_law_text "_law_text" (defScope s_law_text) T.f_law_text cdv A outer s H E).xe := passes_of rfl
  exact (dss_cons (ds_set (i := 4) sc_law_text.nd rfl (by first | exact .inl rfl | exact .inr rfl) (by exact (de_sortedSet rfl (by rfl) T.z_sorted (by rfl) T.z_set (by exact (de_op or_add os_add (by exact (de_ix ix_seq os_get (by exact (dv 2)) de_int (fun _ _ => rfl))) (by exact (de_ix ix_seq os_get (by exact (dv 2)) de_int (fun _ _ => rfl))))))))
    (dss_one (ds_ret (by exact (de_join rfl (by exact (de_str (by decide +kernel) (by decide +kernel))) (by exact (de_lc (own := [("k", 5)]) rfl sc_law_text.nd (by exact di_rng1 (by rfl) T.z_range (by exact (de_call (ok_law_draw T) (hr.mono (by decide)) (by rfl) T.g_law_draw T.F_law_draw.kp T.b_law_draw tk (by exact (da_cons (by exact (dv 0)) (da_cons (by exact (dv 1)) (da_cons (by exact (de_op or_add os_add (by exact (dv 3)) de_int)) da_nil)))) (lenS (lenS (lenS len0)))))) (by exact blkOk_by (N := N_law_text) (sc := defScope s_law_text) (own := [("k", 5)]) (by decide +kernel)) (tx_name (by decide)) (fun _ _ _ _ _ => (by exact pg_name (i := 5) sc_law_text.nd rfl (by first | exact .inl rfl | exact .inr rfl))) (fun _ _ _ _ _ => (by exact dts_nil)) (fun _ _ _ _ _ => (by exact de_noX (by exact (de_call (ok_law_pick T) (hr.mono (by decide)) (by rfl) T.g_law_pick T.F_law_pick.kp T.b_law_pick takes_E0 (by exact (da_cons (by exact (dv 0)) (da_cons (by exact (dv 1)) (da_cons (by exact (dv 4)) da_nil)))) (lenS (lenS (lenS len0))))))))))))))
theorem ok_is_whole (T : Txt C mg) : FnOk P C.w C.K mg base (L2.CX P C.w) 1 T.f_is_whole T.fd_is_whole ["thing", "low", "most"] (spOf C 3 m_is_whole) := by
  refine fn_ok (N := N_is_whole) (body := b_is_whole) T.F_is_whole sc_is_whole rfl fun cdv A outer s H E hr => ?_
  have tk : TakesK (cxOf (L2.CX P C.w) P C.w C.K mg base N_is_whole "is_whole" (defScope s_is_whole) T.f_is_whole cdv A outer s H E) E := takes_of rfl rfl rfl rfl
  have pw : PassesOwn (model P C.w) (cxOf (L2.CX P C.w) P C.w C.K mg base N_is_whole "is_whole" (defScope s_is_whole) T.f_is_whole cdv A outer s H E).A (cxOf (L2.CX P C.w) P C.w C.K mg base N_is_whole "is_whole" (defScope s_is_whole) T.f_is_whole cdv A outer s H E).env (cxOf (L2.CX P C.w) P C.w C.K mg base N_is_whole "is_whole" (defScope s_is_whole) T.f_is_whole cdv A outer s H E).xe := passes_of rfl
  exact (dss_one (ds_ret (by exact (de_and (by exact (de_is (by decide) rfl (by rfl) T.z_isinstance (by rfl) T.z_int (by decide +kernel) (by exact (dv 0)))) (de_and (by exact (de_not (by exact (de_is (by decide) rfl (by rfl) T.z_isinstance (by rfl) T.z_bool (by decide +kernel) (by exact (dv 0)))))) (de_one (by exact (de_chain or_le os_le or_le os_le (by exact (dv 1)) (by exact (dv 0)) (by exact (dv 2))))))))))
theorem ok_are_signs (T : Txt C mg) : FnOk P C.w C.K mg base (L2.CX P C.w) 1 T.f_are_signs T.fd_are_signs ["thing", "low", "most"] (spOf C 3 m_are_signs) := by
  refine fn_ok (N := N_are_signs) (body := b_are_signs) T.F_are_signs sc_are_signs rfl fun cdv A outer s H E hr => ?_
  have tk : TakesK (cxOf (L2.CX P C.w) P C.w C.K mg base N_are_signs "are_signs" (defScope s_are_signs) T.f_are_signs cdv A outer s H E) E := takes_of rfl rfl rfl rfl
  have pw : PassesOwn (model P C.w) (cxOf (L2.CX P C.w) P C.w C.K mg base N_are_signs "are_signs" (defScope s_are_signs) T.f_are_signs cdv A outer s H E).A (cxOf (L2.CX P C.w) P C.w C.K mg base N_are_signs "are_signs" (defScope s_are_signs) T.f_are_signs cdv A outer s H E).env (cxOf (L2.CX P C.w) P C.w C.K mg base N_are_signs "are_signs" (defScope s_are_signs) T.f_are_signs cdv A outer s H E).xe := passes_of rfl
  exact (dss_one (ds_ret (by exact (de_and (by exact (de_is (by decide) rfl (by rfl) T.z_isinstance (by rfl) T.z_str (by decide +kernel) (by exact (dv 0)))) (de_and (by exact (de_chain or_le os_le or_le os_le (by exact (dv 1)) (by exact (de_callB call_len bs_len (by rfl) T.z_len PySem.boot_len (by exact (da_cons (by exact (dv 0)) da_nil)))) (by exact (dv 2)))) (de_one (by exact (de_callB (cr_all rfl) bs_all (by rfl) T.z_all (by decide +kernel) (by exact (da_cons (by exact (de_lc (own := [("sign", 3)]) rfl sc_are_signs.nd (by exact di_all rfl (by exact (dv 0))) (by exact blkOk_by (N := N_are_signs) (sc := defScope s_are_signs) (own := [("sign", 3)]) (by decide +kernel)) (tx_name (by decide)) (fun _ _ _ _ _ => (by exact pg_name (i := 3) sc_are_signs.nd rfl (by first | exact .inl rfl | exact .inr rfl))) (fun _ _ _ _ _ => (by exact dts_nil)) (fun _ _ _ _ _ => (by exact de_noX (by exact (de_cmp or_in os_in (by exact (dv 3)) (by exact (de_const (by rfl) T.k_SIGNS)) (by with_unfolding_all rfl))))))) da_nil))))))))))
theorem ok_is_wheel (T : Txt C mg) : FnOk P C.w C.K mg base (L2.CX P C.w) 2 T.f_is_wheel T.fd_is_wheel ["thing"] (spOf C 1 m_is_wheel) := by
  refine fn_ok (N := N_is_wheel) (body := b_is_wheel) T.F_is_wheel sc_is_wheel rfl fun cdv A outer s H E hr => ?_
  have tk : TakesK (cxOf (L2.CX P C.w) P C.w C.K mg base N_is_wheel "is_wheel" (defScope s_is_wheel) T.f_is_wheel cdv A outer s H E) E := takes_of rfl rfl rfl rfl
  have pw : PassesOwn (model P C.w) (cxOf (L2.CX P C.w) P C.w C.K mg base N_is_wheel "is_wheel" (defScope s_is_wheel) T.f_is_wheel cdv A outer s H E).A (cxOf (L2.CX P C.w) P C.w C.K mg base N_is_wheel "is_wheel" (defScope s_is_wheel) T.f_is_wheel cdv A outer s H E).env (cxOf (L2.CX P C.w) P C.w C.K mg base N_is_wheel "is_wheel" (defScope s_is_wheel) T.f_is_wheel cdv A outer s H E).xe := passes_of rfl
  exact (dss_one (ds_ret (by exact (de_and (by exact (de_call (ok_are_signs T) (hr.mono (by decide)) (by rfl) T.g_are_signs T.F_are_signs.kp T.b_are_signs tk (by exact (da_cons (by exact (dv 0)) (da_cons (by exact (de_const (by rfl) T.k_LEAST)) (da_cons (by exact (de_const (by rfl) T.k_MOST)) da_nil)))) (lenS (lenS (lenS len0))))) (de_one (by exact (de_cmp (op_eqD hr.units) os_eq (by exact (de_lenSet rfl (by rfl) T.z_len (by rfl) T.z_set (by exact (dv 0)))) (by exact (de_callB call_len bs_len (by rfl) T.z_len PySem.boot_len (by exact (da_cons (by exact (dv 0)) da_nil)))) (nomark _))))))))
theorem ok_is_wheels (T : Txt C mg) : FnOk P C.w C.K mg base (L2.CX P C.w) 3 T.f_is_wheels T.fd_is_wheels ["thing"] (spOf C 1 m_is_wheels) := by
  refine fn_ok (N := N_is_wheels) (body := b_is_wheels) T.F_is_wheels sc_is_wheels rfl fun cdv A outer s H E hr => ?_
  have tk : TakesK (cxOf (L2.CX P C.w) P C.w C.K mg base N_is_wheels "is_wheels" (defScope s_is_wheels) T.f_is_wheels cdv A outer s H E) E := takes_of rfl rfl rfl rfl
  have pw : PassesOwn (model P C.w) (cxOf (L2.CX P C.w) P C.w C.K mg base N_is_wheels "is_wheels" (defScope s_is_wheels) T.f_is_wheels cdv A outer s H E).A (cxOf (L2.CX P C.w) P C.w C.K mg base N_is_wheels "is_wheels" (defScope s_is_wheels) T.f_is_wheels cdv A outer s H E).env (cxOf (L2.CX P C.w) P C.w C.K mg base N_is_wheels "is_wheels" (defScope s_is_wheels) T.f_is_wheels cdv A outer s H E).xe := passes_of rfl
  exact (dss_cons (ds_if (by exact (dt_w (dw_or (by exact (dt_not (by exact (dt_val (by exact (de_is (by decide) rfl (by rfl) T.z_isinstance (by rfl) T.z_tuple (by decide +kernel) (by exact (dv 0)))))))) (dw_or (by exact (dt_cmp (op_neD hr.units) os_ne (by exact (de_callB call_len bs_len (by rfl) T.z_len PySem.boot_len (by exact (da_cons (by exact (dv 0)) da_nil)))) de_int (nomark _))) (dw_or (by exact (dt_not (by exact (dt_val (by exact (de_call (ok_is_wheel T) (hr.mono (by decide)) (by rfl) T.g_is_wheel T.F_is_wheel.kp T.b_is_wheel tk (by exact (da_cons (by exact (de_ix ix_seq os_get (by exact (dv 0)) de_int (fun _ _ => rfl))) da_nil)) (lenS len0))))))) (dw_or1 (by exact (dt_not (by exact (dt_val (by exact (de_call (ok_is_wheel T) (hr.mono (by decide)) (by rfl) T.g_is_wheel T.F_is_wheel.kp T.b_is_wheel tk (by exact (da_cons (by exact (de_ix ix_seq os_get (by exact (dv 0)) de_int (fun _ _ => rfl))) da_nil)) (lenS len0))))))))))))) (dss_one (ds_ret de_bl)) dss_nil)
    (dss_one (ds_ret (by exact (de_and (by exact (de_cmp (op_eqD hr.units) os_eq (by exact (de_callB call_len bs_len (by rfl) T.z_len PySem.boot_len (by exact (da_cons (by exact (de_ix ix_seq os_get (by exact (dv 0)) de_int (fun _ _ => rfl))) da_nil)))) (by exact (de_callB call_len bs_len (by rfl) T.z_len PySem.boot_len (by exact (da_cons (by exact (de_ix ix_seq os_get (by exact (dv 0)) de_int (fun _ _ => rfl))) da_nil)))) (nomark _))) (de_one (by exact (de_call (ok_is_whole T) (hr.mono (by decide)) (by rfl) T.g_is_whole T.F_is_whole.kp T.b_is_whole tk (by exact (da_cons (by exact (de_ix ix_seq os_get (by exact (dv 0)) de_int (fun _ _ => rfl))) (da_cons de_int (da_cons (by exact (de_const (by rfl) T.k_TURNS)) da_nil)))) (lenS (lenS (lenS len0)))))))))))
theorem ok_need_wheels (T : Txt C mg) : FnOk P C.w C.K mg base (L2.CX P C.w) 4 T.f_need_wheels T.fd_need_wheels ["thing"] (spOf C 1 m_need_wheels) := by
  refine fn_ok (N := N_need_wheels) (body := b_need_wheels) T.F_need_wheels sc_need_wheels rfl fun cdv A outer s H E hr => ?_
  have tk : TakesK (cxOf (L2.CX P C.w) P C.w C.K mg base N_need_wheels "need_wheels" (defScope s_need_wheels) T.f_need_wheels cdv A outer s H E) E := takes_of rfl rfl rfl rfl
  have pw : PassesOwn (model P C.w) (cxOf (L2.CX P C.w) P C.w C.K mg base N_need_wheels "need_wheels" (defScope s_need_wheels) T.f_need_wheels cdv A outer s H E).A (cxOf (L2.CX P C.w) P C.w C.K mg base N_need_wheels "need_wheels" (defScope s_need_wheels) T.f_need_wheels cdv A outer s H E).env (cxOf (L2.CX P C.w) P C.w C.K mg base N_need_wheels "need_wheels" (defScope s_need_wheels) T.f_need_wheels cdv A outer s H E).xe := passes_of rfl
  exact (dss_one (ds_if (by exact (dt_not (by exact (dt_val (by exact (de_call (ok_is_wheels T) (hr.mono (by decide)) (by rfl) T.g_is_wheels T.F_is_wheels.kp T.b_is_wheels tk (by exact (da_cons (by exact (dv 0)) da_nil)) (lenS len0))))))) (dss_one (ds_raise rfl tk (pmk_own PySem.F.excBase_ValueError T.q_NoWheels T.n_NoWheels T.p_NoWheels (raises_own T.e_NoWheels T.t_NoWheels) (by exact rfl)) T.c_NoWheels)) dss_nil))
theorem ok_places_of (T : Txt C mg) : FnOk P C.w C.K mg base (L2.CX P C.w) 1 T.f_places_of T.fd_places_of ["wheels"] (spOf C 1 m_places_of) := by
  refine fn_ok (N := N_places_of) (body := b_places_of) T.F_places_of sc_places_of rfl fun cdv A outer s H E hr => ?_
  have tk : TakesK (cxOf (L2.CX P C.w) P C.w C.K mg base N_places_of "places_of" (defScope s_places_of) T.f_places_of cdv A outer s H E) E := takes_of rfl rfl rfl rfl
  have pw : PassesOwn (model P C.w) (cxOf (L2.CX P C.w) P C.w C.K mg base N_places_of "places_of" (defScope s_places_of) T.f_places_of cdv A outer s H E).A (cxOf (L2.CX P C.w) P C.w C.K mg base N_places_of "places_of" (defScope s_places_of) T.f_places_of cdv A outer s H E).env (cxOf (L2.CX P C.w) P C.w C.K mg base N_places_of "places_of" (defScope s_places_of) T.f_places_of cdv A outer s H E).xe := passes_of rfl
  exact (dss_one (ds_ret (by exact (de_callB call_len bs_len (by rfl) T.z_len PySem.boot_len (by exact (da_cons (by exact (de_ix ix_seq os_get (by exact (dv 0)) de_int (fun _ _ => rfl))) da_nil))))))
theorem ok_turned (T : Txt C mg) : FnOk P C.w C.K mg base (L2.CX P C.w) 5 T.f_turned T.fd_turned ["wheels", "places"] (spOf C 2 m_turned) := by
  refine fn_ok (N := N_turned) (body := b_turned) T.F_turned sc_turned rfl fun cdv A outer s H E hr => ?_
  have tk : TakesK (cxOf (L2.CX P C.w) P C.w C.K mg base N_turned "turned" (defScope s_turned) T.f_turned cdv A outer s H E) E := takes_of rfl rfl rfl rfl
  have pw : PassesOwn (model P C.w) (cxOf (L2.CX P C.w) P C.w C.K mg base N_turned "turned" (defScope s_turned) T.f_turned cdv A outer s H E).A (cxOf (L2.CX P C.w) P C.w C.K mg base N_turned "turned" (defScope s_turned) T.f_turned cdv A outer s H E).env (cxOf (L2.CX P C.w) P C.w C.K mg base N_turned "turned" (defScope s_turned) T.f_turned cdv A outer s H E).xe := passes_of rfl
  exact (dss_cons (ds_expr (by exact (de_call (ok_need_wheels T) (hr.mono (by decide)) (by rfl) T.g_need_wheels T.F_need_wheels.kp T.b_need_wheels tk (by exact (da_cons (by exact (dv 0)) da_nil)) (lenS len0))))
    (dss_cons (ds_if (by exact (dt_not (by exact (dt_val (by exact (de_call (ok_is_whole T) (hr.mono (by decide)) (by rfl) T.g_is_whole T.F_is_whole.kp T.b_is_whole tk (by exact (da_cons (by exact (dv 1)) (da_cons de_int (da_cons (by exact (de_op op_sub os_sub (by exact (de_call (ok_places_of T) (hr.mono (by decide)) (by rfl) T.g_places_of T.F_places_of.kp T.b_places_of tk (by exact (da_cons (by exact (dv 0)) da_nil)) (lenS len0))) de_int)) da_nil)))) (lenS (lenS (lenS len0))))))))) (dss_one (ds_raise rfl tk (pmk_own PySem.F.excBase_ValueError T.q_NoPlace T.n_NoPlace T.p_NoPlace (raises_own T.e_NoPlace T.t_NoPlace) (by exact rfl)) T.c_NoPlace)) dss_nil)
    (dss_one (ds_ret (by exact (de_op or_add os_add (by exact (de_callTy call_tuple_of bs_tuple (by rfl) T.z_tuple (by decide +kernel) (by exact (da_cons (by exact (de_lc (own := [("wheel", 2)]) rfl sc_turned.nd (by exact di_all rfl (by exact (de_sl or_sl ss_sl (by exact (dv 0)) do_no (do_some de_int)))) (by exact blkOk_by (N := N_turned) (sc := defScope s_turned) (own := [("wheel", 2)]) (by decide +kernel)) (tx_name (by decide)) (fun _ _ _ _ _ => (by exact pg_name (i := 2) sc_turned.nd rfl (by first | exact .inl rfl | exact .inr rfl))) (fun _ _ _ _ _ => (by exact dts_nil)) (fun _ _ _ _ _ => (by exact de_noX (by exact (de_op or_add os_add (by exact (de_sl or_sl ss_sl (by exact (dv 2)) (do_some (by exact (dv 1))) do_no)) (by exact (de_sl or_sl ss_sl (by exact (dv 2)) do_no (do_some (by exact (dv 1))))))))))) da_nil)))) (by exact (de_sl or_sl ss_sl (by exact (dv 0)) (do_some de_int) do_no))))))))
theorem ok_law_stand (T : Txt C mg) : FnOk P C.w C.K mg base (L2.CX P C.w) 5 T.f_law_stand T.fd_law_stand ["script", "town", "wheels"] (spOf C 3 m_law_stand) := by
  refine fn_ok (N := N_law_stand) (body := b_law_stand) T.F_law_stand sc_law_stand rfl fun cdv A outer s H E hr => ?_
  have tk : TakesK (cxOf (L2.CX P C.w) P C.w C.K mg base N_law_stand "_law_stand" (defScope s_law_stand) T.f_law_stand cdv A outer s H E) E := takes_of rfl rfl rfl rfl
  have pw : PassesOwn (model P C.w) (cxOf (L2.CX P C.w) P C.w C.K mg base N_law_stand "_law_stand" (defScope s_law_stand) T.f_law_stand cdv A outer s H E).A (cxOf (L2.CX P C.w) P C.w C.K mg base N_law_stand "_law_stand" (defScope s_law_stand) T.f_law_stand cdv A outer s H E).env (cxOf (L2.CX P C.w) P C.w C.K mg base N_law_stand "_law_stand" (defScope s_law_stand) T.f_law_stand cdv A outer s H E).xe := passes_of rfl
  exact (dss_cons (ds_set (i := 3) sc_law_stand.nd rfl (by first | exact .inl rfl | exact .inr rfl) (by exact (de_callB call_len bs_len (by rfl) T.z_len PySem.boot_len (by exact (da_cons (by exact (de_ix ix_seq os_get (by exact (dv 2)) de_int (fun _ _ => rfl))) da_nil)))))
    (dss_cons (ds_set (i := 4) sc_law_stand.nd rfl (by first | exact .inl rfl | exact .inr rfl) (by exact (de_call (ok_law_pick T) (hr.mono (by decide)) (by rfl) T.g_law_pick T.F_law_pick.kp T.b_law_pick tk (by exact (da_cons (by exact (dv 0)) (da_cons (by exact (dv 1)) (da_cons (by exact (de_lst (by exact (da_cons de_int (da_cons de_int (da_cons (by exact (de_call (ok_law_draw T) (hr.mono (by decide)) (by rfl) T.g_law_draw T.F_law_draw.kp T.b_law_draw tk (by exact (da_cons (by exact (dv 0)) (da_cons (by exact (dv 1)) (da_cons (by exact (de_op or_add os_add (by exact (de_op or_mul os_mul (by exact (dv 3)) (by exact (de_op or_add os_add (by exact (de_ix ix_seq os_get (by exact (dv 2)) de_int (fun _ _ => rfl))) de_int)))) de_int)) da_nil)))) (lenS (lenS (lenS len0))))) (da_cons (by exact (de_op or_mul os_mul (by exact (dv 3)) (by exact (de_ix ix_seq os_get (by exact (dv 2)) de_int (fun _ _ => rfl))))) da_nil))))))) da_nil)))) (lenS (lenS (lenS len0))))))
    (dss_one (ds_ret (by exact (de_tup (by exact (da_cons (by exact (de_call (ok_law_draw T) (hr.mono (by decide)) (by rfl) T.g_law_draw T.F_law_draw.kp T.b_law_draw tk (by exact (da_cons (by exact (dv 0)) (da_cons (by exact (dv 1)) (da_cons (by exact (dv 3)) da_nil)))) (lenS (lenS (lenS len0))))) (da_cons (by exact (de_call (ok_law_pick T) (hr.mono (by decide)) (by rfl) T.g_law_pick T.F_law_pick.kp T.b_law_pick tk (by exact (da_cons (by exact (dv 0)) (da_cons (by exact (dv 1)) (da_cons (by exact (de_lst (by exact (da_cons (by exact (de_str (by decide +kernel) (by decide +kernel))) (da_cons (by exact (de_str (by decide +kernel) (by decide +kernel))) da_nil))))) da_nil)))) (lenS (lenS (lenS len0))))) (da_cons (by exact (dv 4)) da_nil))))))))))
theorem ok_is_stand (T : Txt C mg) : FnOk P C.w C.K mg base (L2.CX P C.w) 2 T.f_is_stand T.fd_is_stand ["wheels", "thing"] (spOf C 2 m_is_stand) := by
  refine fn_ok (N := N_is_stand) (body := b_is_stand) T.F_is_stand sc_is_stand rfl fun cdv A outer s H E hr => ?_
  have tk : TakesK (cxOf (L2.CX P C.w) P C.w C.K mg base N_is_stand "is_stand" (defScope s_is_stand) T.f_is_stand cdv A outer s H E) E := takes_of rfl rfl rfl rfl
  have pw : PassesOwn (model P C.w) (cxOf (L2.CX P C.w) P C.w C.K mg base N_is_stand "is_stand" (defScope s_is_stand) T.f_is_stand cdv A outer s H E).A (cxOf (L2.CX P C.w) P C.w C.K mg base N_is_stand "is_stand" (defScope s_is_stand) T.f_is_stand cdv A outer s H E).env (cxOf (L2.CX P C.w) P C.w C.K mg base N_is_stand "is_stand" (defScope s_is_stand) T.f_is_stand cdv A outer s H E).xe := passes_of rfl
  exact (dss_cons (ds_if (by exact (dt_w (dw_or (by exact (dt_not (by exact (dt_val (by exact (de_is (by decide) rfl (by rfl) T.z_isinstance (by rfl) T.z_tuple (by decide +kernel) (by exact (dv 1)))))))) (dw_or (by exact (dt_cmp (op_neD hr.units) os_ne (by exact (de_callB call_len bs_len (by rfl) T.z_len PySem.boot_len (by exact (da_cons (by exact (dv 1)) da_nil)))) de_int (nomark _))) (dw_or1 (by exact (dt_not (by exact (dt_val (by exact (de_call (ok_is_whole T) (hr.mono (by decide)) (by rfl) T.g_is_whole T.F_is_whole.kp T.b_is_whole tk (by exact (da_cons (by exact (de_ix ix_seq os_get (by exact (dv 1)) de_int (fun _ _ => rfl))) (da_cons de_int (da_cons (by exact (de_op op_sub os_sub (by exact (de_call (ok_places_of T) (hr.mono (by decide)) (by rfl) T.g_places_of T.F_places_of.kp T.b_places_of tk (by exact (da_cons (by exact (dv 0)) da_nil)) (lenS len0))) de_int)) da_nil)))) (lenS (lenS (lenS len0)))))))))))))) (dss_one (ds_ret de_bl)) dss_nil)
    (dss_cons (ds_if (by exact (dt_w (dw_or (by exact (dt_not (by exact (dt_val (by exact (de_is (by decide) rfl (by rfl) T.z_isinstance (by rfl) T.z_str (by decide +kernel) (by exact (de_ix ix_seq os_get (by exact (dv 1)) de_int (fun _ _ => rfl))))))))) (dw_or1 (by exact (dt_cmp or_notIn os_notIn (by exact (de_ix ix_seq os_get (by exact (dv 1)) de_int (fun _ _ => rfl))) (by exact (de_tup (by exact (da_cons (by exact (de_str (by decide +kernel) (by decide +kernel))) (da_cons (by exact (de_str (by decide +kernel) (by decide +kernel))) da_nil))))) (by with_unfolding_all rfl))))))) (dss_one (ds_ret de_bl)) dss_nil)
    (dss_one (ds_ret (by exact (de_call (ok_is_whole T) (hr.mono (by decide)) (by rfl) T.g_is_whole T.F_is_whole.kp T.b_is_whole tk (by exact (da_cons (by exact (de_ix ix_seq os_get (by exact (dv 1)) de_int (fun _ _ => rfl))) (da_cons de_int (da_cons (by exact (de_op or_mul os_mul (by exact (de_call (ok_places_of T) (hr.mono (by decide)) (by rfl) T.g_places_of T.F_places_of.kp T.b_places_of tk (by exact (da_cons (by exact (dv 0)) da_nil)) (lenS len0))) (by exact (de_op or_add os_add (by exact (de_ix ix_seq os_get (by exact (dv 0)) de_int (fun _ _ => rfl))) de_int)))) da_nil)))) (lenS (lenS (lenS len0)))))))))
theorem ok_need_stand (T : Txt C mg) : FnOk P C.w C.K mg base (L2.CX P C.w) 5 T.f_need_stand T.fd_need_stand ["wheels", "thing"] (spOf C 2 m_need_stand) := by
  refine fn_ok (N := N_need_stand) (body := b_need_stand) T.F_need_stand sc_need_stand rfl fun cdv A outer s H E hr => ?_
  have tk : TakesK (cxOf (L2.CX P C.w) P C.w C.K mg base N_need_stand "need_stand" (defScope s_need_stand) T.f_need_stand cdv A outer s H E) E := takes_of rfl rfl rfl rfl
  have pw : PassesOwn (model P C.w) (cxOf (L2.CX P C.w) P C.w C.K mg base N_need_stand "need_stand" (defScope s_need_stand) T.f_need_stand cdv A outer s H E).A (cxOf (L2.CX P C.w) P C.w C.K mg base N_need_stand "need_stand" (defScope s_need_stand) T.f_need_stand cdv A outer s H E).env (cxOf (L2.CX P C.w) P C.w C.K mg base N_need_stand "need_stand" (defScope s_need_stand) T.f_need_stand cdv A outer s H E).xe := passes_of rfl
  exact (dss_cons (ds_expr (by exact (de_call (ok_need_wheels T) (hr.mono (by decide)) (by rfl) T.g_need_wheels T.F_need_wheels.kp T.b_need_wheels tk (by exact (da_cons (by exact (dv 0)) da_nil)) (lenS len0))))
    (dss_one (ds_if (by exact (dt_not (by exact (dt_val (by exact (de_call (ok_is_stand T) (hr.mono (by decide)) (by rfl) T.g_is_stand T.F_is_stand.kp T.b_is_stand tk (by exact (da_cons (by exact (dv 0)) (da_cons (by exact (dv 1)) da_nil))) (lenS (lenS len0)))))))) (dss_one (ds_raise rfl tk (pmk_own PySem.F.excBase_ValueError T.q_NoStand T.n_NoStand T.p_NoStand (raises_own T.e_NoStand T.t_NoStand) (by exact rfl)) T.c_NoStand)) dss_nil)))
theorem ok_need_short (T : Txt C mg) : FnOk P C.w C.K mg base (L2.CX P C.w) 6 T.f_need_short T.fd_need_short ["wheels", "stand", "text"] (spOf C 3 m_need_short) := by
  refine fn_ok (N := N_need_short) (body := b_need_short) T.F_need_short sc_need_short rfl fun cdv A outer s H E hr => ?_
  have tk : TakesK (cxOf (L2.CX P C.w) P C.w C.K mg base N_need_short "need_short" (defScope s_need_short) T.f_need_short cdv A outer s H E) E := takes_of rfl rfl rfl rfl
  have pw : PassesOwn (model P C.w) (cxOf (L2.CX P C.w) P C.w C.K mg base N_need_short "need_short" (defScope s_need_short) T.f_need_short cdv A outer s H E).A (cxOf (L2.CX P C.w) P C.w C.K mg base N_need_short "need_short" (defScope s_need_short) T.f_need_short cdv A outer s H E).env (cxOf (L2.CX P C.w) P C.w C.K mg base N_need_short "need_short" (defScope s_need_short) T.f_need_short cdv A outer s H E).xe := passes_of rfl
  exact (dss_cons (ds_expr (by exact (de_call (ok_need_stand T) (hr.mono (by decide)) (by rfl) T.g_need_stand T.F_need_stand.kp T.b_need_stand tk (by exact (da_cons (by exact (dv 0)) (da_cons (by exact (dv 1)) da_nil))) (lenS (lenS len0)))))
    (dss_one (ds_if (by exact (dt_w (dw_or (by exact (dt_not (by exact (dt_val (by exact (de_call (ok_are_signs T) (hr.mono (by decide)) (by rfl) T.g_are_signs T.F_are_signs.kp T.b_are_signs tk (by exact (da_cons (by exact (dv 2)) (da_cons de_int (da_cons (by exact (de_const (by rfl) T.k_SHORT)) da_nil)))) (lenS (lenS (lenS len0))))))))) (dw_or1 (by exact (dt_not (by exact (dt_val (by exact (de_callB (cr_all rfl) bs_all (by rfl) T.z_all (by decide +kernel) (by exact (da_cons (by exact (de_lc (own := [("sign", 3)]) rfl sc_need_short.nd (by exact di_all rfl (by exact (dv 2))) (by exact blkOk_by (N := N_need_short) (sc := defScope s_need_short) (own := [("sign", 3)]) (by decide +kernel)) (tx_name (by decide)) (fun _ _ _ _ _ => (by exact pg_name (i := 3) sc_need_short.nd rfl (by first | exact .inl rfl | exact .inr rfl))) (fun _ _ _ _ _ => (by exact dts_nil)) (fun _ _ _ _ _ => (by exact de_noX (by exact (de_cmp or_in os_in (by exact (dv 3)) (by exact (de_op or_add os_add (by exact (de_ix ix_seq os_get (by exact (dv 0)) de_int (fun _ _ => rfl))) (by exact (de_ix ix_seq os_get (by exact (dv 0)) de_int (fun _ _ => rfl))))) (by with_unfolding_all rfl))))))) da_nil)))))))))))) (dss_one (ds_raise rfl tk (pmk_own PySem.F.excBase_ValueError T.q_NoText T.n_NoText T.p_NoText (raises_own T.e_NoText T.t_NoText) (by exact rfl)) T.c_NoText)) dss_nil)))
theorem ok_is_caught (T : Txt C mg) : FnOk P C.w C.K mg base (L2.CX P C.w) 2 T.f_is_caught T.fd_is_caught ["wheels", "stand"] (spOf C 2 m_is_caught) := by
  refine fn_ok (N := N_is_caught) (body := b_is_caught) T.F_is_caught sc_is_caught rfl fun cdv A outer s H E hr => ?_
  have tk : TakesK (cxOf (L2.CX P C.w) P C.w C.K mg base N_is_caught "is_caught" (defScope s_is_caught) T.f_is_caught cdv A outer s H E) E := takes_of rfl rfl rfl rfl
  have pw : PassesOwn (model P C.w) (cxOf (L2.CX P C.w) P C.w C.K mg base N_is_caught "is_caught" (defScope s_is_caught) T.f_is_caught cdv A outer s H E).A (cxOf (L2.CX P C.w) P C.w C.K mg base N_is_caught "is_caught" (defScope s_is_caught) T.f_is_caught cdv A outer s H E).env (cxOf (L2.CX P C.w) P C.w C.K mg base N_is_caught "is_caught" (defScope s_is_caught) T.f_is_caught cdv A outer s H E).xe := passes_of rfl
  exact (dss_one (ds_ret (by exact (de_and (by exact (de_cmp (op_eqD hr.units) os_eq (by exact (de_ix ix_seq os_get (by exact (dv 1)) de_int (fun _ _ => rfl))) de_int (nomark _))) (de_one (by exact (de_cmp op_ge os_ge (by exact (de_ix ix_seq os_get (by exact (dv 1)) de_int (fun _ _ => rfl))) (by exact (de_op or_mul os_mul (by exact (de_call (ok_places_of T) (hr.mono (by decide)) (by rfl) T.g_places_of T.F_places_of.kp T.b_places_of tk (by exact (da_cons (by exact (dv 0)) da_nil)) (lenS len0))) (by exact (de_ix ix_seq os_get (by exact (dv 0)) de_int (fun _ _ => rfl))))) (nomark _))))))))
theorem ok_pulsed (T : Txt C mg) : FnOk P C.w C.K mg base (L2.CX P C.w) 3 T.f_pulsed T.fd_pulsed ["wheels", "stand", "pulse"] (spOf C 3 m_pulsed) := by
  refine fn_ok (N := N_pulsed) (body := b_pulsed) T.F_pulsed sc_pulsed rfl fun cdv A outer s H E hr => ?_
  have tk : TakesK (cxOf (L2.CX P C.w) P C.w C.K mg base N_pulsed "pulsed" (defScope s_pulsed) T.f_pulsed cdv A outer s H E) E := takes_of rfl rfl rfl rfl
  have pw : PassesOwn (model P C.w) (cxOf (L2.CX P C.w) P C.w C.K mg base N_pulsed "pulsed" (defScope s_pulsed) T.f_pulsed cdv A outer s H E).A (cxOf (L2.CX P C.w) P C.w C.K mg base N_pulsed "pulsed" (defScope s_pulsed) T.f_pulsed cdv A outer s H E).env (cxOf (L2.CX P C.w) P C.w C.K mg base N_pulsed "pulsed" (defScope s_pulsed) T.f_pulsed cdv A outer s H E).xe := passes_of rfl
  exact (dss_cons (ds_asg (by exact (dv 1)) (dg_tupN rfl rfl (dgs_cons (dg_name (i := 3) sc_pulsed.nd rfl (by first | exact .inl rfl | exact .inr rfl)) (dgs_cons (dg_name (i := 4) sc_pulsed.nd rfl (by first | exact .inl rfl | exact .inr rfl)) (dgs_cons (dg_name (i := 5) sc_pulsed.nd rfl (by first | exact .inl rfl | exact .inr rfl)) dgs_nil))) (gs_cons no_nm (gs_cons no_nm (gs_cons no_nm gs_nil)))))
    (dss_cons (ds_if (by exact (dt_cmp (op_eqD hr.units) os_eq (by exact (dv 2)) (by exact (de_str (by decide +kernel) (by decide +kernel))) (nomark _))) (dss_cons (ds_if (by exact (dt_val (by exact (de_call (ok_is_caught T) (hr.mono (by decide)) (by rfl) T.g_is_caught T.F_is_caught.kp T.b_is_caught tk (by exact (da_cons (by exact (dv 0)) (da_cons (by exact (dv 1)) da_nil))) (lenS (lenS len0)))))) (dss_one (ds_ret (by exact (de_tup (by exact (da_cons (by exact (dv 1)) (da_cons (by exact (de_str (by decide +kernel) (by decide +kernel))) da_nil))))))) dss_nil)
    (dss_one (ds_ret (by exact (de_tup (by exact (da_cons (by exact (de_tup (by exact (da_cons (by exact (de_op op_mod os_mod (by exact (de_op or_add os_add (by exact (dv 3)) de_int)) (by exact (de_call (ok_places_of T) (hr.mono (by decide)) (by rfl) T.g_places_of T.F_places_of.kp T.b_places_of tk (by exact (da_cons (by exact (dv 0)) da_nil)) (lenS len0))))) (da_cons (by exact (dv 4)) (da_cons (by exact (de_op or_add os_add (by exact (dv 5)) de_int)) da_nil)))))) (da_cons (by exact (de_str (by decide +kernel) (by decide +kernel))) da_nil)))))))) dss_nil)
    (dss_cons (ds_if (by exact (dt_cmp (op_eqD hr.units) os_eq (by exact (dv 2)) (by exact (de_str (by decide +kernel) (by decide +kernel))) (nomark _))) (dss_one (ds_ret (by exact (de_tup (by exact (da_cons (by exact (de_tup (by exact (da_cons (by exact (dv 3)) (da_cons (by exact (dv 4)) (da_cons de_int da_nil)))))) (da_cons (by exact (de_ix ix_seq os_get (by exact (de_ix ix_seq os_get (by exact (dv 0)) (by exact (de_if (by exact (dt_cmp (op_eqD hr.units) os_eq (by exact (dv 4)) (by exact (de_str (by decide +kernel) (by decide +kernel))) (nomark _))) de_int de_int)) (fun _ _ => rfl))) (by exact (dv 3)) (fun _ _ => rfl))) da_nil))))))) dss_nil)
    (dss_one (ds_ret (by exact (de_tup (by exact (da_cons (by exact (de_tup (by exact (da_cons (by exact (dv 3)) (da_cons (by exact (dv 2)) (da_cons de_int da_nil)))))) (da_cons (by exact (de_str (by decide +kernel) (by decide +kernel))) da_nil))))))))))
theorem ok_searched (T : Txt C mg) : FnOk P C.w C.K mg base (L2.CX P C.w) 4 T.f_searched T.fd_searched ["wheels", "stand", "text"] (spOf C 3 m_searched) := by
  refine fn_ok (N := N_searched) (body := b_searched) T.F_searched sc_searched rfl fun cdv A outer s H E hr => ?_
  have tk : TakesK (cxOf (L2.CX P C.w) P C.w C.K mg base N_searched "searched" (defScope s_searched) T.f_searched cdv A outer s H E) E := takes_of rfl rfl rfl rfl
  have pw : PassesOwn (model P C.w) (cxOf (L2.CX P C.w) P C.w C.K mg base N_searched "searched" (defScope s_searched) T.f_searched cdv A outer s H E).A (cxOf (L2.CX P C.w) P C.w C.K mg base N_searched "searched" (defScope s_searched) T.f_searched cdv A outer s H E).env (cxOf (L2.CX P C.w) P C.w C.K mg base N_searched "searched" (defScope s_searched) T.f_searched cdv A outer s H E).xe := passes_of rfl
  exact (dss_cons (ds_set (i := 3) sc_searched.nd rfl (by first | exact .inl rfl | exact .inr rfl) (by exact (de_gd1 rfl rfl hr.units (by exact (de_tup (by exact (da_cons (by exact (dv 1)) (da_cons de_int da_nil))))) de_bl)))
    (dss_cons (ds_set (i := 4) sc_searched.nd rfl (by first | exact .inl rfl | exact .inr rfl) (by exact (de_lst (by exact (da_cons (by exact (de_tup (by exact (da_cons (by exact (de_str (by decide +kernel) (by decide +kernel))) (da_cons (by exact (dv 1)) (da_cons de_int da_nil)))))) da_nil)))))
    (dss_one (ds_while (n := 100000) pw (by exact (dt_val de_bl)) (dss_cons (ds_set (i := 5) sc_searched.nd rfl (by first | exact .inl rfl | exact .inr rfl) (de_newL da_nil))
    (dss_cons (ds_for pw rfl (by exact di_all rfl (by exact (dv 4))) (dg_tupN rfl rfl (dgs_cons (dg_name (i := 6) sc_searched.nd rfl (by first | exact .inl rfl | exact .inr rfl)) (dgs_cons (dg_name (i := 7) sc_searched.nd rfl (by first | exact .inl rfl | exact .inr rfl)) (dgs_cons (dg_name (i := 8) sc_searched.nd rfl (by first | exact .inl rfl | exact .inr rfl)) dgs_nil))) (gs_cons no_nm (gs_cons no_nm (gs_cons no_nm gs_nil)))) (dss_cons (ds_if (by exact (dt_cmp (op_eqD hr.units) os_eq (by exact (dv 8)) (by exact (de_callB call_len bs_len (by rfl) T.z_len PySem.boot_len (by exact (da_cons (by exact (dv 2)) da_nil)))) (nomark _))) (dss_one (ds_ret (by exact (dv 6)))) dss_nil)
    (dss_one (ds_for pw rfl (by exact di_all rfl (by exact (de_const (by rfl) T.k_PULSES))) (dg_name (i := 9) sc_searched.nd rfl (by first | exact .inl rfl | exact .inr rfl)) (dss_cons (ds_asg (by exact (de_call (ok_pulsed T) (hr.mono (by decide)) (by rfl) T.g_pulsed T.F_pulsed.kp T.b_pulsed tk (by exact (da_cons (by exact (dv 0)) (da_cons (by exact (dv 7)) (da_cons (by exact (dv 9)) da_nil)))) (lenS (lenS (lenS len0))))) (dg_tupN rfl rfl (dgs_cons (dg_name (i := 10) sc_searched.nd rfl (by first | exact .inl rfl | exact .inr rfl)) (dgs_cons (dg_name (i := 11) sc_searched.nd rfl (by first | exact .inl rfl | exact .inr rfl)) dgs_nil)) (gs_cons no_nm (gs_cons no_nm gs_nil))))
    (dss_one (ds_if (by exact (dt_w (dw_and (by exact (dt_cmp or_in os_in (by exact (dv 11)) (by exact (de_tup (by exact (da_cons (by exact (de_str (by decide +kernel) (by decide +kernel))) (da_cons (by exact (de_ix ix_seq os_get (by exact (dv 2)) (by exact (dv 8)) (fun _ _ => rfl))) da_nil))))) (by with_unfolding_all rfl))) (dw_and1 (by exact (dt_cmp (or_notInG hr.units) (os_notInG rfl rfl) (by exact (de_tup (by exact (da_cons (by exact (dv 10)) (da_cons (by exact (de_op or_add os_add (by exact (dv 8)) (by exact (de_callB call_len bs_len (by rfl) T.z_len PySem.boot_len (by exact (da_cons (by exact (dv 11)) da_nil)))))) da_nil))))) (by exact (dv 3)) (by with_unfolding_all rfl))))))) (dss_cons (ds_putG rfl rfl hr.units (by exact (dv 3)) (by exact (de_tup (by exact (da_cons (by exact (dv 10)) (da_cons (by exact (de_op or_add os_add (by exact (dv 8)) (by exact (de_callB call_len bs_len (by rfl) T.z_len PySem.boot_len (by exact (da_cons (by exact (dv 11)) da_nil)))))) da_nil))))) de_bl)
    (dss_one (ds_expr (by exact (PE.imp (pe_bm PySem.F.plainAttrs_list PySem.F.slot_list_append PySem.F.type_list_append mt_append (by exact (dv 5)) (by exact (da_cons (by exact (de_tup (by exact (da_cons (by exact (de_op or_add os_add (by exact (dv 6)) (by exact (dv 9)))) (da_cons (by exact (dv 10)) (da_cons (by exact (de_op or_add os_add (by exact (dv 8)) (by exact (de_callB call_len bs_len (by rfl) T.z_len PySem.boot_len (by exact (da_cons (by exact (dv 11)) da_nil)))))) da_nil)))))) da_nil))) (mt_of ms_app)))))) dss_nil)))))))
    (dss_frz 5 (dss_one (ds_set (i := 4) sc_searched.nd rfl (by first | exact .inl rfl | exact .inr rfl) (by exact (dv 5)))))))))))
theorem ok_best_stand (T : Txt C mg) : FnOk P C.w C.K mg base (L2.CX P C.w) 7 T.f_best_stand T.fd_best_stand ["wheels", "text"] (spOf C 2 m_best_stand) := by
  refine fn_ok (N := N_best_stand) (body := b_best_stand) T.F_best_stand sc_best_stand rfl fun cdv A outer s H E hr => ?_
  have tk : TakesK (cxOf (L2.CX P C.w) P C.w C.K mg base N_best_stand "best_stand" (defScope s_best_stand) T.f_best_stand cdv A outer s H E) E := takes_of rfl rfl rfl rfl
  have pw : PassesOwn (model P C.w) (cxOf (L2.CX P C.w) P C.w C.K mg base N_best_stand "best_stand" (defScope s_best_stand) T.f_best_stand cdv A outer s H E).A (cxOf (L2.CX P C.w) P C.w C.K mg base N_best_stand "best_stand" (defScope s_best_stand) T.f_best_stand cdv A outer s H E).env (cxOf (L2.CX P C.w) P C.w C.K mg base N_best_stand "best_stand" (defScope s_best_stand) T.f_best_stand cdv A outer s H E).xe := passes_of rfl
  exact (dss_cons (ds_expr (by exact (de_call (ok_need_short T) (hr.mono (by decide)) (by rfl) T.g_need_short T.F_need_short.kp T.b_need_short tk (by exact (da_cons (by exact (dv 0)) (da_cons (by exact (de_tup (by exact (da_cons de_int (da_cons (by exact (de_str (by decide +kernel) (by decide +kernel))) (da_cons de_int da_nil)))))) (da_cons (by exact (dv 1)) da_nil)))) (lenS (lenS (lenS len0))))))
    (dss_cons (ds_set (i := 2) sc_best_stand.nd rfl (by first | exact .inl rfl | exact .inr rfl) (de_newL da_nil))
    (dss_cons (ds_for pw rfl (by exact di_enumT rfl (by rfl) T.z_enumerate (by exact (de_tup (by exact (da_cons (by exact (de_str (by decide +kernel) (by decide +kernel))) (da_cons (by exact (de_str (by decide +kernel) (by decide +kernel))) da_nil)))))) (dg_tupN rfl rfl (dgs_cons (dg_name (i := 3) sc_best_stand.nd rfl (by first | exact .inl rfl | exact .inr rfl)) (dgs_cons (dg_name (i := 4) sc_best_stand.nd rfl (by first | exact .inl rfl | exact .inr rfl)) dgs_nil)) (gs_cons no_nm (gs_cons no_nm gs_nil))) (dss_one (ds_for pw rfl (by exact di_rng1 (by rfl) T.z_range (by exact (de_callB call_len bs_len (by rfl) T.z_len PySem.boot_len (by exact (da_cons (by exact (de_ix ix_seq os_get (by exact (dv 0)) de_int (fun _ _ => rfl))) da_nil))))) (dg_name (i := 5) sc_best_stand.nd rfl (by first | exact .inl rfl | exact .inr rfl)) (dss_one (ds_expr (by exact (PE.imp (pe_bm PySem.F.plainAttrs_list PySem.F.slot_list_append PySem.F.type_list_append mt_append (by exact (dv 2)) (by exact (da_cons (by exact (de_tup (by exact (da_cons (by exact (de_callB call_len bs_len (by rfl) T.z_len PySem.boot_len (by exact (da_cons (by exact (de_call (ok_searched T) (hr.mono (by decide)) (by rfl) T.g_searched T.F_searched.kp T.b_searched tk (by exact (da_cons (by exact (dv 0)) (da_cons (by exact (de_tup (by exact (da_cons (by exact (dv 5)) (da_cons (by exact (dv 4)) (da_cons de_int da_nil)))))) (da_cons (by exact (dv 1)) da_nil)))) (lenS (lenS (lenS len0))))) da_nil)))) (da_cons (by exact (dv 3)) (da_cons (by exact (dv 5)) da_nil)))))) da_nil))) (mt_of ms_app))))))))
    (dss_cons (ds_asg (by exact (de_callB (cr_minD rfl hr.units) bs_min (by rfl) T.z_min (by decide +kernel) (by exact (da_cons (by exact (dv 2)) da_nil)))) (dg_tupN rfl rfl (dgs_cons (dg_name (i := 6) sc_best_stand.nd rfl (by first | exact .inl rfl | exact .inr rfl)) (dgs_cons (dg_name (i := 3) sc_best_stand.nd rfl (by first | exact .inl rfl | exact .inr rfl)) (dgs_cons (dg_name (i := 5) sc_best_stand.nd rfl (by first | exact .inl rfl | exact .inr rfl)) dgs_nil))) (gs_cons no_nm (gs_cons no_nm (gs_cons no_nm gs_nil)))))
    (dss_one (ds_ret (by exact (de_tup (by exact (da_cons (by exact (dv 5)) (da_cons (by exact (de_ix ix_seq os_get (by exact (de_tup (by exact (da_cons (by exact (de_str (by decide +kernel) (by decide +kernel))) (da_cons (by exact (de_str (by decide +kernel) (by decide +kernel))) da_nil))))) (by exact (dv 3)) (fun _ _ => rfl))) (da_cons de_int da_nil))))))))))))
theorem ok_row_from (T : Txt C mg) : FnOk P C.w C.K mg base (L2.CX P C.w) 7 T.f_row_from T.fd_row_from ["wheels", "stand", "text"] (spOf C 3 m_row_from) := by
  refine fn_ok (N := N_row_from) (body := b_row_from) T.F_row_from sc_row_from rfl fun cdv A outer s H E hr => ?_
  have tk : TakesK (cxOf (L2.CX P C.w) P C.w C.K mg base N_row_from "row_from" (defScope s_row_from) T.f_row_from cdv A outer s H E) E := takes_of rfl rfl rfl rfl
  have pw : PassesOwn (model P C.w) (cxOf (L2.CX P C.w) P C.w C.K mg base N_row_from "row_from" (defScope s_row_from) T.f_row_from cdv A outer s H E).A (cxOf (L2.CX P C.w) P C.w C.K mg base N_row_from "row_from" (defScope s_row_from) T.f_row_from cdv A outer s H E).env (cxOf (L2.CX P C.w) P C.w C.K mg base N_row_from "row_from" (defScope s_row_from) T.f_row_from cdv A outer s H E).xe := passes_of rfl
  exact (dss_cons (ds_expr (by exact (de_call (ok_need_short T) (hr.mono (by decide)) (by rfl) T.g_need_short T.F_need_short.kp T.b_need_short tk (by exact (da_cons (by exact (dv 0)) (da_cons (by exact (dv 1)) (da_cons (by exact (dv 2)) da_nil)))) (lenS (lenS (lenS len0))))))
    (dss_one (ds_ret (by exact (de_call (ok_searched T) (hr.mono (by decide)) (by rfl) T.g_searched T.F_searched.kp T.b_searched tk (by exact (da_cons (by exact (dv 0)) (da_cons (by exact (dv 1)) (da_cons (by exact (dv 2)) da_nil)))) (lenS (lenS (lenS len0))))))))
theorem ok_least_from (T : Txt C mg) : FnOk P C.w C.K mg base (L2.CX P C.w) 7 T.f_least_from T.fd_least_from ["wheels", "stand", "text"] (spOf C 3 m_least_from) := by
  refine fn_ok (N := N_least_from) (body := b_least_from) T.F_least_from sc_least_from rfl fun cdv A outer s H E hr => ?_
  have tk : TakesK (cxOf (L2.CX P C.w) P C.w C.K mg base N_least_from "least_from" (defScope s_least_from) T.f_least_from cdv A outer s H E) E := takes_of rfl rfl rfl rfl
  have pw : PassesOwn (model P C.w) (cxOf (L2.CX P C.w) P C.w C.K mg base N_least_from "least_from" (defScope s_least_from) T.f_least_from cdv A outer s H E).A (cxOf (L2.CX P C.w) P C.w C.K mg base N_least_from "least_from" (defScope s_least_from) T.f_least_from cdv A outer s H E).env (cxOf (L2.CX P C.w) P C.w C.K mg base N_least_from "least_from" (defScope s_least_from) T.f_least_from cdv A outer s H E).xe := passes_of rfl
  exact (dss_cons (ds_expr (by exact (de_call (ok_need_short T) (hr.mono (by decide)) (by rfl) T.g_need_short T.F_need_short.kp T.b_need_short tk (by exact (da_cons (by exact (dv 0)) (da_cons (by exact (dv 1)) (da_cons (by exact (dv 2)) da_nil)))) (lenS (lenS (lenS len0))))))
    (dss_one (ds_ret (by exact (de_callB call_len bs_len (by rfl) T.z_len PySem.boot_len (by exact (da_cons (by exact (de_call (ok_searched T) (hr.mono (by decide)) (by rfl) T.g_searched T.F_searched.kp T.b_searched tk (by exact (da_cons (by exact (dv 0)) (da_cons (by exact (dv 1)) (da_cons (by exact (dv 2)) da_nil)))) (lenS (lenS (lenS len0))))) da_nil)))))))
theorem ok_signs_near (T : Txt C mg) : FnOk P C.w C.K mg base (L2.CX P C.w) 7 T.f_signs_near T.fd_signs_near ["wheels", "stand", "many"] (spOf C 3 m_signs_near) := by
  refine fn_ok (N := N_signs_near) (body := b_signs_near) T.F_signs_near sc_signs_near rfl fun cdv A outer s H E hr => ?_
  have tk : TakesK (cxOf (L2.CX P C.w) P C.w C.K mg base N_signs_near "signs_near" (defScope s_signs_near) T.f_signs_near cdv A outer s H E) E := takes_of rfl rfl rfl rfl
  have pw : PassesOwn (model P C.w) (cxOf (L2.CX P C.w) P C.w C.K mg base N_signs_near "signs_near" (defScope s_signs_near) T.f_signs_near cdv A outer s H E).A (cxOf (L2.CX P C.w) P C.w C.K mg base N_signs_near "signs_near" (defScope s_signs_near) T.f_signs_near cdv A outer s H E).env (cxOf (L2.CX P C.w) P C.w C.K mg base N_signs_near "signs_near" (defScope s_signs_near) T.f_signs_near cdv A outer s H E).xe := passes_of rfl
  exact (dss_cons (ds_expr (by exact (de_call (ok_need_short T) (hr.mono (by decide)) (by rfl) T.g_need_short T.F_need_short.kp T.b_need_short tk (by exact (da_cons (by exact (dv 0)) (da_cons (by exact (dv 1)) (da_cons (by exact (de_str (by decide +kernel) (by decide +kernel))) da_nil)))) (lenS (lenS (lenS len0))))))
    (dss_cons (ds_set (i := 3) sc_signs_near.nd rfl (by first | exact .inl rfl | exact .inr rfl) (de_newL da_nil))
    (dss_cons (ds_for pw rfl (by exact di_all rfl (by exact (de_sortedSet rfl (by rfl) T.z_sorted (by rfl) T.z_set (by exact (de_op or_add os_add (by exact (de_ix ix_seq os_get (by exact (dv 0)) de_int (fun _ _ => rfl))) (by exact (de_ix ix_seq os_get (by exact (dv 0)) de_int (fun _ _ => rfl)))))))) (dg_name (i := 4) sc_signs_near.nd rfl (by first | exact .inl rfl | exact .inr rfl)) (dss_one (ds_if (by exact (dt_cmp or_le os_le (by exact (de_callB call_len bs_len (by rfl) T.z_len PySem.boot_len (by exact (da_cons (by exact (de_call (ok_searched T) (hr.mono (by decide)) (by rfl) T.g_searched T.F_searched.kp T.b_searched tk (by exact (da_cons (by exact (dv 0)) (da_cons (by exact (dv 1)) (da_cons (by exact (dv 4)) da_nil)))) (lenS (lenS (lenS len0))))) da_nil)))) (by exact (dv 2)) (nomark _))) (dss_one (ds_expr (by exact (PE.imp (pe_bm PySem.F.plainAttrs_list PySem.F.slot_list_append PySem.F.type_list_append mt_append (by exact (dv 3)) (by exact (da_cons (by exact (dv 4)) da_nil))) (mt_of ms_app))))) dss_nil)))
    (dss_one (ds_ret (by exact (de_join rfl (by exact (de_str (by decide +kernel) (by decide +kernel))) (by exact (dv 3)))))))))
theorem ok_swapped (T : Txt C mg) : FnOk P C.w C.K mg base (L2.CX P C.w) 5 T.f_swapped T.fd_swapped ["wheels"] (spOf C 1 m_swapped) := by
  refine fn_ok (N := N_swapped) (body := b_swapped) T.F_swapped sc_swapped rfl fun cdv A outer s H E hr => ?_
  have tk : TakesK (cxOf (L2.CX P C.w) P C.w C.K mg base N_swapped "swapped" (defScope s_swapped) T.f_swapped cdv A outer s H E) E := takes_of rfl rfl rfl rfl
  have pw : PassesOwn (model P C.w) (cxOf (L2.CX P C.w) P C.w C.K mg base N_swapped "swapped" (defScope s_swapped) T.f_swapped cdv A outer s H E).A (cxOf (L2.CX P C.w) P C.w C.K mg base N_swapped "swapped" (defScope s_swapped) T.f_swapped cdv A outer s H E).env (cxOf (L2.CX P C.w) P C.w C.K mg base N_swapped "swapped" (defScope s_swapped) T.f_swapped cdv A outer s H E).xe := passes_of rfl
  exact (dss_cons (ds_expr (by exact (de_call (ok_need_wheels T) (hr.mono (by decide)) (by rfl) T.g_need_wheels T.F_need_wheels.kp T.b_need_wheels tk (by exact (da_cons (by exact (dv 0)) da_nil)) (lenS len0))))
    (dss_one (ds_ret (by exact (de_tup (by exact (da_cons (by exact (de_ix ix_seq os_get (by exact (dv 0)) de_int (fun _ _ => rfl))) (da_cons (by exact (de_ix ix_seq os_get (by exact (dv 0)) de_int (fun _ _ => rfl))) (da_cons (by exact (de_ix ix_seq os_get (by exact (dv 0)) de_int (fun _ _ => rfl))) da_nil)))))))))
theorem ok_law_k39 (T : Txt C mg) : FnOk P C.w C.K mg base (L2.CX P C.w) 8 T.f_law_k39 T.fd_law_k39 ["script"] (spOf C 1 m_law_k39) := by
  refine fn_ok (N := N_law_k39) (body := b_law_k39) T.F_law_k39 sc_law_k39 rfl fun cdv A outer s H E hr => ?_
  have tk : TakesK (cxOf (L2.CX P C.w) P C.w C.K mg base N_law_k39 "law" (defScope s_law_k39) T.f_law_k39 cdv A outer s H E) E := takes_of rfl rfl rfl rfl
  have pw : PassesOwn (model P C.w) (cxOf (L2.CX P C.w) P C.w C.K mg base N_law_k39 "law" (defScope s_law_k39) T.f_law_k39 cdv A outer s H E).A (cxOf (L2.CX P C.w) P C.w C.K mg base N_law_k39 "law" (defScope s_law_k39) T.f_law_k39 cdv A outer s H E).env (cxOf (L2.CX P C.w) P C.w C.K mg base N_law_k39 "law" (defScope s_law_k39) T.f_law_k39 cdv A outer s H E).xe := passes_of rfl
  exact (dss_cons (ds_set (i := 1) sc_law_k39.nd rfl (by first | exact .inl rfl | exact .inr rfl) (de_newL da_nil))
    (dss_cons (ds_set (i := 2) sc_law_k39.nd rfl (by first | exact .inl rfl | exact .inr rfl) (by exact (de_call (ok_law_wheels T) (hr.mono (by decide)) (by rfl) T.g_law_wheels T.F_law_wheels.kp T.b_law_wheels tk (by exact (da_cons (by exact (dv 0)) (da_cons (by exact (dv 1)) (da_cons de_int da_nil)))) (lenS (lenS (lenS len0))))))
    (dss_cons (ds_set (i := 3) sc_law_k39.nd rfl (by first | exact .inl rfl | exact .inr rfl) (by exact (de_callB call_len bs_len (by rfl) T.z_len PySem.boot_len (by exact (da_cons (by exact (de_ix ix_seq os_get (by exact (dv 2)) de_int (fun _ _ => rfl))) da_nil)))))
    (dss_cons (ds_par (by rfl) sc_law_k39.nd rfl rfl (by decide) rfl rfl (by exact (de_call (ok_law_draw T) (hr.mono (by decide)) (by rfl) T.g_law_draw T.F_law_draw.kp T.b_law_draw tk (by exact (da_cons (by exact (dv 0)) (da_cons (by exact (dv 1)) (da_cons (by exact (dv 3)) da_nil)))) (lenS (lenS (lenS len0))))) (by exact (de_call (ok_law_pick T) (hr.mono (by decide)) (by rfl) T.g_law_pick T.F_law_pick.kp T.b_law_pick tk (by exact (da_cons (by exact (dv 0)) (da_cons (by exact (dv 1)) (da_cons (by exact (de_lst (by exact (da_cons (by exact (de_str (by decide +kernel) (by decide +kernel))) (da_cons (by exact (de_str (by decide +kernel) (by decide +kernel))) da_nil))))) da_nil)))) (lenS (lenS (lenS len0))))) (by rfl))
    (dss_cons (ds_set (i := 6) sc_law_k39.nd rfl (by first | exact .inl rfl | exact .inr rfl) (by exact (de_call (ok_law_text T) (hr.mono (by decide)) (by rfl) T.g_law_text T.F_law_text.kp T.b_law_text tk (by exact (da_cons (by exact (dv 0)) (da_cons (by exact (dv 1)) (da_cons (by exact (dv 2)) (da_cons de_int da_nil))))) (lenS (lenS (lenS (lenS len0)))))))
    (dss_cons (ds_set (i := 7) sc_law_k39.nd rfl (by first | exact .inl rfl | exact .inr rfl) (by exact (de_call (ok_law_draw T) (hr.mono (by decide)) (by rfl) T.g_law_draw T.F_law_draw.kp T.b_law_draw tk (by exact (da_cons (by exact (dv 0)) (da_cons (by exact (dv 1)) (da_cons (by exact (dv 3)) da_nil)))) (lenS (lenS (lenS len0))))))
    (dss_cons (ds_set (i := 8) sc_law_k39.nd rfl (by first | exact .inl rfl | exact .inr rfl) (by exact (de_call (ok_turned T) (hr.mono (by decide)) (by rfl) T.g_turned T.F_turned.kp T.b_turned tk (by exact (da_cons (by exact (dv 2)) (da_cons (by exact (dv 7)) da_nil))) (lenS (lenS len0)))))
    (dss_cons (ds_set (i := 9) sc_law_k39.nd rfl (by first | exact .inl rfl | exact .inr rfl) (by exact (de_tup (by exact (da_cons (by exact (de_op op_mod os_mod (by exact (de_op op_sub os_sub (by exact (dv 4)) (by exact (dv 7)))) (by exact (dv 3)))) (da_cons (by exact (dv 5)) (da_cons de_int da_nil)))))))
    (dss_cons (ds_if (by exact (dt_cmp (op_neD hr.units) os_ne (by exact (de_call (ok_least_from T) (hr.mono (by decide)) (by rfl) T.g_least_from T.F_least_from.kp T.b_least_from tk (by exact (da_cons (by exact (dv 8)) (da_cons (by exact (dv 9)) (da_cons (by exact (dv 6)) da_nil)))) (lenS (lenS (lenS len0))))) (by exact (de_call (ok_least_from T) (hr.mono (by decide)) (by rfl) T.g_least_from T.F_least_from.kp T.b_least_from tk (by exact (da_cons (by exact (dv 2)) (da_cons (by exact (de_tup (by exact (da_cons (by exact (dv 4)) (da_cons (by exact (dv 5)) (da_cons de_int da_nil)))))) (da_cons (by exact (dv 6)) da_nil)))) (lenS (lenS (lenS len0))))) (nomark _))) (dss_one (ds_ret de_bl)) dss_nil)
    (dss_cons (ds_if (by exact (dt_cmp (op_neD hr.units) os_ne (by exact (de_call (ok_signs_near T) (hr.mono (by decide)) (by rfl) T.g_signs_near T.F_signs_near.kp T.b_signs_near tk (by exact (da_cons (by exact (dv 8)) (da_cons (by exact (dv 9)) (da_cons de_int da_nil)))) (lenS (lenS (lenS len0))))) (by exact (de_call (ok_signs_near T) (hr.mono (by decide)) (by rfl) T.g_signs_near T.F_signs_near.kp T.b_signs_near tk (by exact (da_cons (by exact (dv 2)) (da_cons (by exact (de_tup (by exact (da_cons (by exact (dv 4)) (da_cons (by exact (dv 5)) (da_cons de_int da_nil)))))) (da_cons de_int da_nil)))) (lenS (lenS (lenS len0))))) (nomark _))) (dss_one (ds_ret de_bl)) dss_nil)
    (dss_cons (ds_set (i := 10) sc_law_k39.nd rfl (by first | exact .inl rfl | exact .inr rfl) (by exact (de_dsub2 (hu_of hr) (by exact (de_str (by decide +kernel) (by decide +kernel))) (by exact (de_str (by decide +kernel) (by decide +kernel))) (by exact (de_str (by decide +kernel) (by decide +kernel))) (by exact (de_str (by decide +kernel) (by decide +kernel))) (by exact (dv 5)) (fun _ _ => rfl))))
    (dss_cons (ds_set (i := 11) sc_law_k39.nd rfl (by first | exact .inl rfl | exact .inr rfl) (by exact (de_call (ok_law_stand T) (hr.mono (by decide)) (by rfl) T.g_law_stand T.F_law_stand.kp T.b_law_stand tk (by exact (da_cons (by exact (dv 0)) (da_cons (by exact (dv 1)) (da_cons (by exact (dv 2)) da_nil)))) (lenS (lenS (lenS len0))))))
    (dss_cons (ds_set (i := 12) sc_law_k39.nd rfl (by first | exact .inl rfl | exact .inr rfl) (by exact (de_tup (by exact (da_cons (by exact (de_ix ix_seq os_get (by exact (dv 11)) de_int (fun _ _ => rfl))) (da_cons (by exact (de_dsub2 (hu_of hr) (by exact (de_str (by decide +kernel) (by decide +kernel))) (by exact (de_str (by decide +kernel) (by decide +kernel))) (by exact (de_str (by decide +kernel) (by decide +kernel))) (by exact (de_str (by decide +kernel) (by decide +kernel))) (by exact (de_ix ix_seq os_get (by exact (dv 11)) de_int (fun _ _ => rfl))) (fun _ _ => rfl))) (da_cons (by exact (de_ix ix_seq os_get (by exact (dv 11)) de_int (fun _ _ => rfl))) da_nil)))))))
    (dss_cons (ds_if (by exact (dt_cmp (op_neD hr.units) os_ne (by exact (de_call (ok_least_from T) (hr.mono (by decide)) (by rfl) T.g_least_from T.F_least_from.kp T.b_least_from tk (by exact (da_cons (by exact (de_call (ok_swapped T) (hr.mono (by decide)) (by rfl) T.g_swapped T.F_swapped.kp T.b_swapped tk (by exact (da_cons (by exact (dv 2)) da_nil)) (lenS len0))) (da_cons (by exact (dv 12)) (da_cons (by exact (dv 6)) da_nil)))) (lenS (lenS (lenS len0))))) (by exact (de_call (ok_least_from T) (hr.mono (by decide)) (by rfl) T.g_least_from T.F_least_from.kp T.b_least_from tk (by exact (da_cons (by exact (dv 2)) (da_cons (by exact (dv 11)) (da_cons (by exact (dv 6)) da_nil)))) (lenS (lenS (lenS len0))))) (nomark _))) (dss_one (ds_ret de_bl)) dss_nil)
    (dss_cons (ds_if (by exact (dt_cmp (op_neD hr.units) os_ne (by exact (de_call (ok_signs_near T) (hr.mono (by decide)) (by rfl) T.g_signs_near T.F_signs_near.kp T.b_signs_near tk (by exact (da_cons (by exact (de_call (ok_swapped T) (hr.mono (by decide)) (by rfl) T.g_swapped T.F_swapped.kp T.b_swapped tk (by exact (da_cons (by exact (dv 2)) da_nil)) (lenS len0))) (da_cons (by exact (dv 12)) (da_cons de_int da_nil)))) (lenS (lenS (lenS len0))))) (by exact (de_call (ok_signs_near T) (hr.mono (by decide)) (by rfl) T.g_signs_near T.F_signs_near.kp T.b_signs_near tk (by exact (da_cons (by exact (dv 2)) (da_cons (by exact (dv 11)) (da_cons de_int da_nil)))) (lenS (lenS (lenS len0))))) (nomark _))) (dss_one (ds_ret de_bl)) dss_nil)
    (dss_cons (ds_set (i := 13) sc_law_k39.nd rfl (by first | exact .inl rfl | exact .inr rfl) (by exact (de_call (ok_best_stand T) (hr.mono (by decide)) (by rfl) T.g_best_stand T.F_best_stand.kp T.b_best_stand tk (by exact (da_cons (by exact (dv 2)) (da_cons (by exact (dv 6)) da_nil))) (lenS (lenS len0)))))
    (dss_cons (ds_if (by exact (dt_cmp (op_neD hr.units) os_ne (by exact (de_call (ok_least_from T) (hr.mono (by decide)) (by rfl) T.g_least_from T.F_least_from.kp T.b_least_from tk (by exact (da_cons (by exact (de_call (ok_swapped T) (hr.mono (by decide)) (by rfl) T.g_swapped T.F_swapped.kp T.b_swapped tk (by exact (da_cons (by exact (dv 2)) da_nil)) (lenS len0))) (da_cons (by exact (de_call (ok_best_stand T) (hr.mono (by decide)) (by rfl) T.g_best_stand T.F_best_stand.kp T.b_best_stand tk (by exact (da_cons (by exact (de_call (ok_swapped T) (hr.mono (by decide)) (by rfl) T.g_swapped T.F_swapped.kp T.b_swapped tk (by exact (da_cons (by exact (dv 2)) da_nil)) (lenS len0))) (da_cons (by exact (dv 6)) da_nil))) (lenS (lenS len0)))) (da_cons (by exact (dv 6)) da_nil)))) (lenS (lenS (lenS len0))))) (by exact (de_call (ok_least_from T) (hr.mono (by decide)) (by rfl) T.g_least_from T.F_least_from.kp T.b_least_from tk (by exact (da_cons (by exact (dv 2)) (da_cons (by exact (dv 13)) (da_cons (by exact (dv 6)) da_nil)))) (lenS (lenS (lenS len0))))) (nomark _))) (dss_one (ds_ret de_bl)) dss_nil)
    (dss_cons (ds_if (by exact (dt_cmp (op_neD hr.units) os_ne (by exact (de_call (ok_least_from T) (hr.mono (by decide)) (by rfl) T.g_least_from T.F_least_from.kp T.b_least_from tk (by exact (da_cons (by exact (dv 8)) (da_cons (by exact (de_call (ok_best_stand T) (hr.mono (by decide)) (by rfl) T.g_best_stand T.F_best_stand.kp T.b_best_stand tk (by exact (da_cons (by exact (dv 8)) (da_cons (by exact (dv 6)) da_nil))) (lenS (lenS len0)))) (da_cons (by exact (dv 6)) da_nil)))) (lenS (lenS (lenS len0))))) (by exact (de_call (ok_least_from T) (hr.mono (by decide)) (by rfl) T.g_least_from T.F_least_from.kp T.b_least_from tk (by exact (da_cons (by exact (dv 2)) (da_cons (by exact (dv 13)) (da_cons (by exact (dv 6)) da_nil)))) (lenS (lenS (lenS len0))))) (nomark _))) (dss_one (ds_ret de_bl)) dss_nil)
    (dss_cons (ds_set (i := 14) sc_law_k39.nd rfl (by first | exact .inl rfl | exact .inr rfl) (by exact (de_call (ok_row_from T) (hr.mono (by decide)) (by rfl) T.g_row_from T.F_row_from.kp T.b_row_from tk (by exact (da_cons (by exact (dv 8)) (da_cons (by exact (dv 9)) (da_cons (by exact (dv 6)) da_nil)))) (lenS (lenS (lenS len0))))))
    (dss_one (ds_ret (by exact (de_cmp (op_eqD hr.units) os_eq (by exact (de_callB call_len bs_len (by rfl) T.z_len PySem.boot_len (by exact (da_cons (by exact (dv 14)) da_nil)))) (by exact (de_call (ok_least_from T) (hr.mono (by decide)) (by rfl) T.g_least_from T.F_least_from.kp T.b_least_from tk (by exact (da_cons (by exact (de_call (ok_swapped T) (hr.mono (by decide)) (by rfl) T.g_swapped T.F_swapped.kp T.b_swapped tk (by exact (da_cons (by exact (dv 8)) da_nil)) (lenS len0))) (da_cons (by exact (de_tup (by exact (da_cons (by exact (de_ix ix_seq os_get (by exact (dv 9)) de_int (fun _ _ => rfl))) (da_cons (by exact (dv 10)) (da_cons de_int da_nil)))))) (da_cons (by exact (dv 6)) da_nil)))) (lenS (lenS (lenS len0))))) (nomark _))))))))))))))))))))))))
end
end LW.K39
namespace LW
@[simp ↓] theorem bind_match {α β : Type} {r : R α} {f : α → Mem → R β} : r.bind f = match r with | .ok a m => f a m | .exc c m => .exc c m | .bad => .bad := rfl
@[simp] theorem inR_nat {n : Nat} (h : n < 10000000000) : inR (n : Int) = true := inR_of (by omega) (by omega)
/-! ### loops over plain data -/
theorem forL_nil {t : Tg} {b : Sm} {g : Env} {m : Mem} : forL t b [] g m = .ok (.nx g) m := rfl
theorem forL_cons {t : Tg} {b : Sm} {d : D} {ds : List D} {g : Env} {m : Mem} : forL t b (d :: ds) g m = (t d g m).bind fun g1 m1 => (b g1 m1).bind fun o m2 => match o with
    | .nx g2 => forL t b ds g2 m2
    | .ct g2 => forL t b ds g2 m2
    | .bk g2 => .ok (.nx g2) m2
    | .rt d => .ok (.rt d) m2 := rfl
/-- a loop that runs through -/
theorem forL_inv {t : Tg} {b : Sm} {ds : List D} (I : Nat → Env → Mem → Prop)
    (step : ∀ i d g m, ds[i]? = some d → I i g m → ∃ g1 m1, t d g m = .ok g1 m1 ∧ ∃ o m2, b g1 m1 = .ok o m2 ∧ ∃ g2, (o = .nx g2 ∨ o = .ct g2) ∧ I (i + 1) g2 m2) {g : Env} {m : Mem} (h0 : I 0 g m) : ∃ g' m', forL t b ds g m = .ok (.nx g') m' ∧ I ds.length g' m' := by
  suffices H : ∀ (es : List D) (i : Nat) (g : Env) (m : Mem), ds.drop i = es → i ≤ ds.length → I i g m → ∃ g' m', forL t b es g m = .ok (.nx g') m' ∧ I ds.length g' m' from H ds 0 g m rfl (Nat.zero_le _) h0
  intro es
  induction es with
  | nil =>
    intro i g m e hi h
    have : i = ds.length := by
      have := congrArg List.length e
      simp at this
      omega
    subst this
    exact ⟨g, m, rfl, h⟩
  | cons d es ih =>
    intro i g m e hi h
    have hlt : i < ds.length := by
      have := congrArg List.length e
      simp at this
      omega
    have hd : ds[i]? = some d := by
      have := List.getElem?_drop (xs := ds) (i := i) (j := 0)
      rw [e] at this
      simpa using this.symm
    obtain ⟨g1, m1, e1, o, m2, e2, g2, ho, h2⟩ := step i d g m hd h
    have e3 : ds.drop (i + 1) = es := by
      rw [← List.drop_drop, e]
      rfl
    obtain ⟨g', m', e4, h4⟩ := ih (i + 1) g2 m2 e3 hlt h2
    refine ⟨g', m', ?_, h4⟩
    rw [forL_cons, e1, R.bind_ok, e2, R.bind_ok]
    rcases ho with rfl | rfl <;> exact e4
/-- a comprehension without a draw -/
theorem lcL_map {t : Tg} {e : Ex} {g : Env} {m : Mem} {f : D → D} : ∀ {ds : List D}, (∀ d ∈ ds, ∃ g1, t d g m = .ok g1 m ∧ e g1 m = .ok (f d) m) → lcL t yesT e g ds m = .ok (ds.map f) m
  | [], _ => rfl
  | d :: ds, h => by
    obtain ⟨g1, e1, e2⟩ := h d (by simp)
    simp only [lcL, e1, R.bind_ok, yesT, if_true, e2]
    rw [lcL_map fun d' hd' => h d' (List.mem_cons_of_mem _ hd')]
    rfl
/-- with a filter -/
theorem lcL_filter {t : Tg} {c : Ts} {e : Ex} {g : Env} {m : Mem} {p : D → Bool} {f : D → D} : ∀ {ds : List D}, (∀ d ∈ ds, ∃ g1, t d g m = .ok g1 m ∧ c g1 m = .ok (p d) m ∧ (p d = true → e g1 m = .ok (f d) m)) → lcL t c e g ds m = .ok ((ds.filter p).map f) m
  | [], _ => rfl
  | d :: ds, h => by
    obtain ⟨g1, e1, e2, e3⟩ := h d (by simp)
    have ih := lcL_filter (ds := ds) (t := t) (c := c) (e := e) (g := g) (m := m) (p := p) (f := f) fun d' hd' => h d' (List.mem_cons_of_mem _ hd')
    simp only [lcL, e1, R.bind_ok, e2]
    cases q : p d with
    | true => simp [q, e3 q, ih]
    | false => simp [q, ih]
/-- with draws -/
theorem lcL_inv {t : Tg} {e : Ex} {g : Env} {ds : List D} (I : Nat → List D → Mem → Prop)
    (step : ∀ i d acc m, ds[i]? = some d → I i acc m → ∃ g1 m1, t d g m = .ok g1 m1 ∧ ∃ y m2, e g1 m1 = .ok y m2 ∧ I (i + 1) (acc ++ [y]) m2) {m : Mem} (h0 : I 0 [] m) : ∃ ys m', lcL t yesT e g ds m = .ok ys m' ∧ I ds.length ys m' := by
  suffices H : ∀ (es : List D) (i : Nat) (acc : List D) (m : Mem), ds.drop i = es → i ≤ ds.length → I i acc m → ∃ ys m', lcL t yesT e g es m = .ok ys m' ∧ I ds.length (acc ++ ys) m' by
    obtain ⟨ys, m', e1, h1⟩ := H ds 0 [] m rfl (Nat.zero_le _) h0
    exact ⟨ys, m', e1, h1⟩
  intro es
  induction es with
  | nil =>
    intro i acc m e hi h
    have : i = ds.length := by
      have := congrArg List.length e
      simp at this
      omega
    subst this
    exact ⟨[], m, rfl, by simpa using h⟩
  | cons d es ih =>
    intro i acc m eq hi h
    have hlt : i < ds.length := by
      have := congrArg List.length eq
      simp at this
      omega
    have hd : ds[i]? = some d := by
      have := List.getElem?_drop (xs := ds) (i := i) (j := 0)
      rw [eq] at this
      simpa using this.symm
    obtain ⟨g1, m1, e1, y, m2, e2, h2⟩ := step i d acc m hd h
    have e3 : ds.drop (i + 1) = es := by
      rw [← List.drop_drop, eq]
      rfl
    obtain ⟨ys, m', e4, h4⟩ := ih (i + 1) (acc ++ [y]) m2 e3 hlt h2
    refine ⟨y :: ys, m', ?_, by simpa using h4⟩
    simp only [lcL, e1, R.bind_ok, yesT, if_true, e2, e4]

/-! ### shapes -/
@[simp] theorem shL_ints (k : Nat) : ∀ ns : List Int, D.shL k (ns.map D.int) = true
  | [] => rfl
  | n :: ns => by cases k <;> simp [D.shL, D.sh, shL_ints]
@[simp] theorem shL_map_int {α : Type} (k : Nat) (f : α → Int) : ∀ l : List α, D.shL k (l.map fun x => D.int (f x)) = true
  | [] => rfl
  | n :: ns => by cases k <;> simp [D.shL, D.sh, shL_map_int]
@[simp] theorem shL_map_str {α : Type} (k : Nat) (f : α → List Nat) : ∀ l : List α, D.shL k (l.map fun x => D.str (f x)) = true
  | [] => rfl
  | n :: ns => by cases k <;> simp [D.shL, D.sh, shL_map_str]
@[simp] theorem sh_non (k : Nat) : D.sh k .non = true := by cases k <;> rfl
@[simp] theorem sh_bl (k : Nat) (b : Bool) : D.sh k (.bl b) = true := by cases k <;> rfl
@[simp] theorem sh_int (k : Nat) (i : Int) : D.sh k (.int i) = true := by cases k <;> rfl
@[simp] theorem sh_str (k : Nat) (s : List Nat) : D.sh k (.str s) = true := by cases k <;> rfl
@[simp] theorem sh_tup (k : Nat) (ds : List D) : D.sh (k + 1) (.tup ds) = D.shL k ds := rfl
@[simp] theorem sh_lst (k : Nat) (ds : List D) : D.sh (k + 1) (.lst ds) = D.shL k ds := rfl
@[simp] theorem sh_tup9 (ds : List D) : D.sh 9 (.tup ds) = D.shL 8 ds := rfl
@[simp] theorem sh_lst9 (ds : List D) : D.sh 9 (.lst ds) = D.shL 8 ds := rfl
@[simp] theorem shL_nil (k : Nat) : D.shL k [] = true := by cases k <;> rfl
@[simp] theorem shL_cons (k : Nat) (d : D) (ds : List D) : D.shL k (d :: ds) = (D.sh k d && D.shL k ds) := by cases k <;> rfl
@[simp] theorem eqv_non : D.eqv .non .non = true := by simp [D.eqv]
@[simp] theorem eqv_int (i j : Int) : D.eqv (.int i) (.int j) = (i == j) := by simp [D.eqv]
@[simp] theorem eqv_str (i j : List Nat) : D.eqv (.str i) (.str j) = (i == j) := by simp [D.eqv]
@[simp] theorem eqv_tup (i j : List D) : D.eqv (.tup i) (.tup j) = D.eqvL i j := by simp [D.eqv]
@[simp] theorem eqv_lst (i j : List D) : D.eqv (.lst i) (.lst j) = D.eqvL i j := by simp [D.eqv]
@[simp] theorem eqvL_nil : D.eqvL [] [] = true := by simp [D.eqvL]
@[simp] theorem eqvL_cons (x y : D) (xs ys : List D) : D.eqvL (x :: xs) (y :: ys) = (D.eqv x y && D.eqvL xs ys) := by simp [D.eqvL]
mutual
theorem eqv_self : ∀ d : D, ∀ k, D.sh k d = true → D.eqv d d = true
  | .non, _, _ => by simp [D.eqv]
  | .bl _, _, _ => by simp [D.eqv]
  | .int _, _, _ => by simp [D.eqv]
  | .str _, _, _ => by simp [D.eqv]
  | .tup ds, k, h => by
    cases k with
    | zero => simp [D.sh] at h
    | succ k => simp only [sh_tup] at h; simp [eqvL_self ds k h]
  | .lst ds, k, h => by
    cases k with
    | zero => simp [D.sh] at h
    | succ k => simp only [sh_lst] at h; simp [eqvL_self ds k h]
  | .dct _ _, k, h => by cases k <;> simp [D.sh] at h
  | .gdz _ _, k, h => by cases k <;> simp [D.sh] at h
  | .scr _, k, h => by cases k <;> simp [D.sh] at h
  | .ref _, k, h => by cases k <;> simp [D.sh] at h
  | .ty _, k, h => by cases k <;> simp [D.sh] at h
  | .fn _, k, h => by cases k <;> simp [D.sh] at h
  | .exc _, k, h => by cases k <;> simp [D.sh] at h
theorem eqvL_self : ∀ ds : List D, ∀ k, D.shL k ds = true → D.eqvL ds ds = true
  | [], _, _ => by simp
  | d :: ds, k, h => by
    simp only [shL_cons, Bool.and_eq_true] at h
    simp [eqv_self d k h.1, eqvL_self ds k h.2]
end

/-! ### the script, draws -/
def twn (t : Nat) : MO := .lst (List.replicate t (.int 0))
theorem twn_more (t : Nat) : MO.lst (List.replicate t (D.int 0) ++ [.int 0]) = twn (t + 1) := by
  unfold twn
  rw [List.replicate_succ', ]
def cellN (ns : List Int) (k : Nat) : Int := if k < ns.length then ns.getD k 0 else if ns = [] then 0 else ns.getD (k % ns.length) 0 * 31 + k
def dr (ns : List Int) (k : Nat) (many : Int) : Int := ((cellN ns k * 1103515245 + 7919 * k + 12345) % 2147483647) ^ 5 % 2147483647 % 999983 % many
theorem dr_lo (ns : List Int) (k : Nat) {many : Int} (h : 0 < many) : 0 ≤ dr ns k many := Int.emod_nonneg _ (by omega)
theorem dr_hi (ns : List Int) (k : Nat) {many : Int} (h : 0 < many) : dr ns k many < many := Int.emod_lt_of_pos _ h
theorem ixD_nat {n k : Nat} (h : k < n) : ixD n (k : Int) = some k := by
  unfold ixD
  rw [if_pos (by omega), if_pos (by omega)]
  simp
theorem ixD_int {n : Nat} {i : Int} (h0 : 0 ≤ i) (h : i < n) : ixD n i = some i.toNat := by
  unfold ixD
  rw [if_pos h0, if_pos h]
theorem cell_spec (ns : List Int) (k : Nat) (m : Mem) : m_law_cell_at [.scr ns, .int k] m = .ok (.int (cellN ns k)) m := by
  by_cases h : k < ns.length
  · have h' : (k : Int) < (ns.length : Int) := by omega
    simp [m_law_cell_at, b_law_cell_at, fnS, gcR, h', cellN, h, ixD_nat]
  · have h' : ¬ (k : Int) < (ns.length : Int) := by omega
    by_cases hne : ns = []
    · subst hne
      have h2 : ¬ (k : Int) < 0 := by omega
      simp [m_law_cell_at, b_law_cell_at, fnS, gcR, cellN, lim, h2]
    · have hz : 0 < ns.length := by cases ns <;> simp_all
      have hp : (0 : Int) < (ns.length : Int) := by omega
      have hlt : k % ns.length < ns.length := Nat.mod_lt _ hz
      have e1 : ixD ns.length ((k : Int) % (ns.length : Int)) = some (k % ns.length) := by rw [show (k : Int) % (ns.length : Int) = ((k % ns.length : Nat) : Int) by simp]; exact ixD_nat hlt
      have hne2 : D.eqvL (ns.map D.int) [] = false := by cases ns <;> simp_all [D.eqvL]
      simp [m_law_cell_at, b_law_cell_at, fnS, gcR, h', cellN, h, lim, hne, hne2, hz, e1, big_of (show -10000000000 < (31 : Int) by decide) (by decide), hlt]
theorem mixed_spec (ns : List Int) (k : Nat) (many : Int) (h : 0 < many) (m : Mem) : m_law_mixed [.scr ns, .int k, .int many] m = .ok (.int (dr ns k many)) m := by
  have b1 : (0 : Int) ≤ (cellN ns k * 1103515245 + 7919 * k + 12345) % 2147483647 := Int.emod_nonneg _ (by decide)
  have b2 : (cellN ns k * 1103515245 + 7919 * k + 12345) % 2147483647 < 2147483647 := Int.emod_lt_of_pos _ (by decide)
  have b3 : ((cellN ns k * 1103515245 + 7919 * k + 12345) % 2147483647).natAbs < 10000000000 := by omega
  simp [m_law_mixed, b_law_mixed, fnS, cell_spec, big_of (show -10000000000 < (1103515245 : Int) by decide) (by decide), big_of (show -10000000000 < (7919 : Int) by decide) (by decide), gcR, h, powOk_of (show (0 : Int) ≤ 5 by decide) (by decide) b3, dr]
/-! ### statement by statement -/
def Rt (s : Sm) (g : Env) (m : Mem) (d : D) : Prop := ∃ m1, s g m = .ok (.rt d) m1
theorem Rt_seq {a b : Sm} {g g1 : Env} {m m1 : Mem} {d : D} (h : a g m = .ok (.nx g1) m1) (h2 : Rt b g1 m1 d) : Rt (seqS a b) g m d := by
  obtain ⟨m2, e⟩ := h2
  exact ⟨m2, by rw [seqS_eq, h, R.bind_ok]; exact e⟩
theorem Rt_end {s : Sm} {g : Env} {m m1 : Mem} {d : D} (h : s g m = .ok (.rt d) m1) : Rt s g m d := ⟨m1, h⟩
theorem law_end {k : Nat} {b : Sm} {ns : List Int} (h : Rt b (some (.scr ns) :: List.replicate (k - 1) none) [] (.bl true)) : ∃ m', fnS k b [.scr ns] [] = .ok (.bl true) m' := by
  obtain ⟨m1, e⟩ := h
  simp only [fnS, List.map_cons, List.map_nil, List.length_cons, List.length_nil, List.cons_append, List.nil_append, Nat.zero_add]
  rw [e]
  simp only [gcR, List.length_nil, List.take_zero, List.all_nil, Bool.and_true, D.cl]
  by_cases h0 : m1.length ≤ 0
  · exact ⟨m1, by rw [if_pos h0]⟩
  · exact ⟨[], by rw [if_neg h0]; rfl⟩
/-- for over concrete data: through -/
theorem for_nx {it : Ar} {t : Tg} {b : Sm} {g g' : Env} {m m1 m' : Mem} {ds : List D} (h : it g m = .ok ds m1) (h2 : forL t b ds g m1 = .ok (.nx g') m') : forS it t b g m = .ok (.nx g') m' := by
  simp only [forS, h, R.bind_ok, h2]
end LW
namespace LW
@[simp] theorem clL_ints (n : Nat) : ∀ k, D.clL n (List.replicate k (D.int 0)) = true
  | 0 => rfl
  | k + 1 => by simp [List.replicate_succ, D.clL, D.cl, clL_ints]
@[simp] theorem cl_twn (n t : Nat) : MO.cl n (twn t) = true := by simp [MO.cl, twn]
/-- what lies behind the town: closed -/
def Cl (r : Mem) : Prop := ∀ x ∈ r, MO.cl (r.length + 1) x = true
@[simp] theorem Cl_nil : Cl [] := fun x h => by simp at h
theorem draw_spec {ns : List Int} {t : Nat} {r : Mem} {many : Int} (h : 0 < many) (ht : t < 1000000) : m_law_draw [.scr ns, .ref 0, .int many] (twn t :: r) = .ok (.int (dr ns (t + 1) many)) (twn (t + 1) :: r) := by
  have e : ((List.replicate t (D.int 0) ++ [D.int 0]).length : Int) = ((t + 1 : Nat) : Int) := by simp
  have l : t < lim := by unfold lim; omega
  have hm := mixed_spec ns (t + 1) many h (twn (t + 1) :: r)
  have e2 : MO.lst (List.replicate t (D.int 0) ++ [D.int 0]) = twn (t + 1) := twn_more t
  simp only [m_law_draw, b_law_draw, fnS]
  simp [twn, l] 
  rw [show ((t : Int) + 1) = ((t + 1 : Nat) : Int) by omega, e2, hm]
  simp [gcR, twn]
theorem pick_spec {ns : List Int} {t : Nat} {r : Mem} {xs : List D} (h : xs ≠ []) (ht : t < 1000000) : ∃ x ∈ xs, m_law_pick [.scr ns, .ref 0, .lst xs] (twn t :: r) = .ok x (twn (t + 1) :: r) := by
  have hp : (0 : Int) < (xs.length : Int) := by cases xs <;> simp_all <;> omega
  have l := dr_lo ns (t + 1) hp
  have u := dr_hi ns (t + 1) hp
  have hd := draw_spec (ns := ns) (r := r) hp ht
  have hlt : (dr ns (t + 1) xs.length).toNat < xs.length := by omega
  have ix := ixD_int l u
  refine ⟨xs[(dr ns (t + 1) xs.length).toNat], List.getElem_mem _, ?_⟩
  simp [m_law_pick, b_law_pick, fnS, hd, ix, gcR, hlt]
/-- the law's own signs -/
def sg13 : List Nat := [97, 98, 99, 120, 121, 122, 48, 49, 57, 32, 46, 44, 45]
theorem eraseIdx_map {α β : Type} (f : α → β) : ∀ (l : List α) (i : Nat), (l.map f).eraseIdx i = (l.eraseIdx i).map f
  | [], i => by simp
  | a :: l, 0 => by simp
  | a :: l, i + 1 => by simp [eraseIdx_map f l i]
theorem erase_perm {α : Type} : ∀ {l : List α} {i : Nat} (h : i < l.length), (l[i] :: l.eraseIdx i).Perm l
  | [], i, h => by simp at h
  | a :: l, 0, h => by simp
  | a :: l, i + 1, h => by
    have ih := erase_perm (l := l) (i := i) (by simpa using h)
    simp only [List.getElem_cons_succ, List.eraseIdx_cons_succ]
    exact (List.Perm.swap a _ _).trans (ih.cons a)
theorem wheel_spec {ns : List Int} {t many : Nat} {r : Mem} (hk : many ≤ 13) (ht : t < 900000) (hc : Cl r) :
    ∃ w, m_law_wheel [.scr ns, .ref 0, .int many] (twn t :: r) = .ok (.str w) (twn (t + many) :: r) ∧ w.length = many ∧ w.Nodup ∧ ∀ c ∈ w, c ∈ sg13 := by
  let I : Nat → Env → Mem → Prop := fun i g m => ∃ (k : Option D) (made left : List Nat), made.length = i ∧ (made ++ left).Perm sg13 ∧ g = [some (.scr ns), some (.ref 0), some (.int many), some (.ref (r.length + 1)), some (.str made), k] ∧ m = twn (t + i) :: (r ++ [.lst (left.map fun c => .str [c])])
  have loop := forL_inv (t := nmG 5) (b := asgS (nmG 4) (opE addD (vE 4) (mtE popAtM (vE 3) (consA (callE m_law_draw (consA (vE 0) (consA (vE 1) (consA (bE lenB (consA (vE 3) nilA)) nilA)))) nilA))))
    (ds := (List.range many).map fun (k : Nat) => D.int k) I ?step (g := [some (.scr ns), some (.ref 0), some (.int many), some (.ref (r.length + 1)), some (.str []), none]) (m := twn t :: (r ++ [.lst (sg13.map fun c => .str [c])])) ⟨none, [], sg13, rfl, by simp, rfl, rfl⟩
  case step =>
    rintro i d g m hd ⟨k, made, left, hl, hp, rfl, rfl⟩
    have hi : i < many := by
      have := (List.getElem?_eq_some_iff.mp hd).1
      simpa using this
    have hlen : made.length + left.length = 13 := by have := hp.length_eq; simpa [sg13] using this
    have hpos : (0 : Int) < ((left.map fun c => D.str [c]).length : Int) := by simp; omega
    have lo := dr_lo ns (t + i + 1) hpos
    have hi2 := dr_hi ns (t + i + 1) hpos
    generalize hj : (dr ns (t + i + 1) ((left.map fun c => D.str [c]).length : Int)) = j at *
    have hlt : j.toNat < left.length := by simp at hi2; omega
    have hdr := draw_spec (ns := ns) (r := r ++ [.lst (left.map fun c => .str [c])]) (t := t + i) hpos (by omega)
    rw [hj] at hdr
    have ix : ixD left.length j = some j.toNat := ixD_int lo (by simpa using hi2)
    refine ⟨_, _, rfl, .nx [some (.scr ns), some (.ref 0), some (.int many), some (.ref (r.length + 1)), some (.str (made ++ [left[j.toNat]])), some d], twn (t + i + 1) :: (r ++ [.lst ((left.eraseIdx j.toNat).map fun c => .str [c])]), ?_, _, .inl rfl, some d, made ++ [left[j.toNat]], left.eraseIdx j.toNat, by simp [hl], ?_, rfl, rfl⟩
    · have lm : made.length + 1 ≤ lim := by unfold lim; omega
      have ll : left.length ≤ lim := by unfold lim; omega
      simp at hdr
      simp [hdr, ix, hlt, lm, ll, eraseIdx_map]
    · have p1 : (left[j.toNat] :: left.eraseIdx j.toNat).Perm left := erase_perm hlt
      have p2 : (made ++ [left[j.toNat]] ++ left.eraseIdx j.toNat).Perm (made ++ left) := by
        rw [List.append_assoc]
        exact List.Perm.append_left made (by simpa using p1)
      exact p2.trans hp
  obtain ⟨g', m', e, k, made, left, hl, hp, rfl, rfl⟩ := loop
  simp only [List.length_map, List.length_range] at hl e
  have nd : (made ++ left).Nodup := hp.nodup_iff.mpr (by decide)
  refine ⟨made, ?_, hl, (List.nodup_append.mp nd).1, fun c hc => hp.mem_iff.mp (List.mem_append_left _ hc)⟩
  have e' : sg13.map (fun c => D.str [c]) = [D.str [97], D.str [98], D.str [99], D.str [120], D.str [121], D.str [122], D.str [48], D.str [49], D.str [57], D.str [32], D.str [46], D.str [44], D.str [45]] := rfl
  have hin : inR (many : Int) = true := inR_nat (by omega)
  have hcl : ∀ x ∈ r, MO.cl (r.length + 1) x = true := hc
  rw [e'] at e
  simp only [m_law_wheel, b_law_wheel, fnS]
  simp [hin, e, gcR, D.cl]
  rw [if_neg (by omega), if_pos hcl]
theorem wheels_spec {ns : List Int} {t most : Nat} {r : Mem} (h2 : 2 ≤ most) (hk : most ≤ 12) (ht : t < 800000) (hc : Cl r) :
    ∃ (a b : List Nat) (n : Int) (t' : Nat), m_law_wheels [.scr ns, .ref 0, .int most] (twn t :: r) = .ok (.tup [.str a, .str b, .int n]) (twn t' :: r) ∧ t' ≤ t + 30 ∧
      2 ≤ a.length ∧ a.length ≤ most ∧ b.length = a.length ∧ a.Nodup ∧ b.Nodup ∧ (∀ c ∈ a, c ∈ sg13) ∧ (∀ c ∈ b, c ∈ sg13) ∧ 1 ≤ n ∧ n ≤ 3 := by
  have hp : (0 : Int) < (most : Int) - 1 := by omega
  have d1 := draw_spec (ns := ns) (t := t) (r := r) hp (by omega)
  have lo := dr_lo ns (t + 1) hp
  have hi := dr_hi ns (t + 1) hp
  generalize dr ns (t + 1) ((most : Int) - 1) = j at *
  obtain ⟨k, hk2⟩ : ∃ k : Nat, 2 + j = (k : Int) := ⟨(2 + j).toNat, by omega⟩
  obtain ⟨a, e1, l1, n1, s1⟩ := wheel_spec (ns := ns) (t := t + 1) (many := k) (r := r) (by omega) (by omega) hc
  obtain ⟨b, e2, l2, n2, s2⟩ := wheel_spec (ns := ns) (t := t + 1 + k) (many := k) (r := r) (by omega) (by omega) hc
  have d2 := draw_spec (ns := ns) (t := t + 1 + k + k) (r := r) (show (0 : Int) < 3 by decide) (by omega)
  have lo2 := dr_lo ns (t + 1 + k + k + 1) (show (0 : Int) < 3 by decide)
  have hi2 := dr_hi ns (t + 1 + k + k + 1) (show (0 : Int) < 3 by decide)
  refine ⟨a, b, 1 + dr ns (t + 1 + k + k + 1) 3, t + 1 + k + k + 1, ?_, by omega, by omega, by omega, by omega, n1, n2, s1, s2, by omega, by omega⟩
  simp [m_law_wheels, b_law_wheels, fnS, d1, hk2, e1, e2, d2, gcR, lim]
end LW
namespace LW
abbrev SGN : List Nat := c_SIGNS
theorem sg13_sub {c : Nat} (h : c ∈ sg13) : c ∈ SGN := by
  have : ∀ c ∈ sg13, c ∈ SGN := by decide
  exact this c h
structure Whl (a b : List Nat) (n : Int) : Prop where
  lo : 2 ≤ a.length
  hi : a.length ≤ 30
  same : b.length = a.length
  na : a.Nodup
  nb : b.Nodup
  sa : ∀ c ∈ a, c ∈ SGN
  sb : ∀ c ∈ b, c ∈ SGN
  n1 : 1 ≤ n
  n3 : n ≤ 3
abbrev whD (a b : List Nat) (n : Int) : D := .tup [.str a, .str b, .int n]
@[simp] theorem is_whole_spec (i lo hi : Int) (m : Mem) : m_is_whole [.int i, .int lo, .int hi] m = .ok (.bl (decide (lo ≤ i) && decide (i ≤ hi))) m := by
  by_cases h : lo ≤ i
  · simp [m_is_whole, b_is_whole, fnS, gcR, h]
  · simp [m_is_whole, b_is_whole, fnS, gcR, h]
theorem dedup_nodup {l : List Nat} (h : l.Nodup) : dedup l = l := by
  induction l with
  | nil => rfl
  | cons x r ih =>
    obtain ⟨h1, h2⟩ := List.nodup_cons.mp h
    rw [dedup, ih h2]
    congr 1
    exact List.filter_eq_self.mpr fun y hy => by simp; intro e; subst e; exact h1 hy
theorem all_signs {s : List Nat} (h : ∀ c ∈ s, c ∈ SGN) : (s.map fun c => D.bl (decide (c ∈ SGN))).all (fun d => match d with | .bl b => b | _ => false) = true := by
  simp only [List.all_eq_true, List.mem_map]
  rintro d ⟨c, hc, rfl⟩
  simpa using h c hc
theorem are_signs_spec {s : List Nat} {lo hi : Int} (h1 : lo ≤ s.length) (h2 : (s.length : Int) ≤ hi) (h3 : s.length ≤ 1000) (hs : ∀ c ∈ s, c ∈ SGN) (m : Mem) : m_are_signs [.str s, .int lo, .int hi] m = .ok (.bl true) m := by
  have hl : s.length ≤ lim := by unfold lim; omega
  have e : ∀ g : Env, g.length = 4 → lcL (nmG 3) yesT (noX (opE inD (vE 3) (cE (.str SGN)))) g (s.map fun c => .str [c]) m = .ok ((s.map fun c => D.str [c]).map fun d => match d with | .str [c] => D.bl (decide (c ∈ SGN)) | _ => .non) m := by
    intro g hg
    refine lcL_map fun d hd => ?_
    obtain ⟨c, hc, rfl⟩ := List.mem_map.mp hd
    refine ⟨_, rfl, ?_⟩
    have : (g.set 3 (some (D.str [c])))[3]? = some (some (.str [c])) := by rw [List.getElem?_set_self (by omega)]
    simp [this]
  have e2 : ((s.map fun c => D.str [c]).map fun d => match d with | .str [c] => D.bl (decide (c ∈ SGN)) | _ => .non) = s.map fun c => D.bl (decide (c ∈ SGN)) := by rw [List.map_map]; rfl
  have a1 := all_signs hs
  have a2 : (s.map fun c => D.bl (decide (c ∈ SGN))).all (fun d => match d with | .bl _ => true | _ => false) = true := by
    simp only [List.all_eq_true, List.mem_map]
    rintro d ⟨c, hc, rfl⟩
    rfl
  have e' := e [some (.str s), some (.int lo), some (.int hi), none] rfl
  rw [e2] at e'
  simp only [SGN] at e' a1 a2 hs
  simp [m_are_signs, b_are_signs, fnS, h1, h2, hl, gcR, e', a1, a2]
  try exact hs
theorem is_wheel_spec {s : List Nat} (h1 : 2 ≤ s.length) (h2 : s.length ≤ 30) (hn : s.Nodup) (hs : ∀ c ∈ s, c ∈ SGN) (m : Mem) : m_is_wheel [.str s] m = .ok (.bl true) m := by
  have e := are_signs_spec (s := s) (lo := 2) (hi := 30) (by omega) (by omega) (by omega) hs m
  have h4 : s.length < 4000 := by omega
  simp [m_is_wheel, b_is_wheel, fnS, e, h4, dedup_nodup hn, gcR]
theorem is_wheels_spec {a b : List Nat} {n : Int} (h : Whl a b n) (m : Mem) : m_is_wheels [whD a b n] m = .ok (.bl true) m := by
  have e1 := is_wheel_spec h.lo h.hi h.na h.sa m
  have e2 := is_wheel_spec (s := b) (by rw [h.same]; exact h.lo) (by rw [h.same]; exact h.hi) h.nb h.sb m
  simp [m_is_wheels, b_is_wheels, fnS, e1, e2, gcR, ixD, h.same, h.n1, h.n3]
theorem need_wheels_spec {a b : List Nat} {n : Int} (h : Whl a b n) (m : Mem) : m_need_wheels [whD a b n] m = .ok .non m := by
  simp [m_need_wheels, b_need_wheels, fnS, is_wheels_spec h m, gcR]
@[simp] theorem places_of_spec (a b : List Nat) (n : Int) (m : Mem) : m_places_of [whD a b n] m = .ok (.int a.length) m := by
  simp [m_places_of, b_places_of, fnS, gcR, ixD]
end LW
namespace LW
@[simp] theorem cutD_from {α : Type} (xs : List α) (p : Nat) : cutD xs (some (p : Int)) none = xs.drop p := by
  unfold cutD sIxD
  have h : ¬ ((p : Int) < 0) := by omega
  simp only [h, if_false, Int.toNat_natCast]
  by_cases hp : p ≤ xs.length
  · rw [Nat.min_eq_left hp, List.take_of_length_le (by simp)]
  · rw [Nat.min_eq_right (by omega)]
    simp
    omega
@[simp] theorem cutD_to {α : Type} (xs : List α) (p : Nat) : cutD xs none (some (p : Int)) = xs.take p := by
  unfold cutD sIxD
  have h : ¬ ((p : Int) < 0) := by omega
  simp only [h, if_false, Int.toNat_natCast, List.drop_zero, Nat.sub_zero]
  by_cases hp : p ≤ xs.length
  · rw [Nat.min_eq_left hp]
  · rw [Nat.min_eq_right (by omega), List.take_of_length_le (Nat.le_refl _), List.take_of_length_le (by omega)]
@[simp] theorem cut3_to2 {α : Type} (x y z : α) : cutD [x, y, z] none (some 2) = [x, y] := rfl
@[simp] theorem cut3_from2 {α : Type} (x y z : α) : cutD [x, y, z] (some 2) none = [z] := rfl
theorem turned_spec {a b : List Nat} {n : Int} (h : Whl a b n) {p : Nat} (hp : p < a.length) (m : Mem) : m_turned [whD a b n, .int p] m = .ok (whD (a.drop p ++ a.take p) (b.drop p ++ b.take p) n) m := by
  have l1 : a.length - p + min p a.length ≤ lim := by have := h.hi; unfold lim; omega
  have l2 : b.length - p + min p b.length ≤ lim := by have := h.hi; have := h.same; unfold lim; omega
  have c1 : (p : Int) ≤ (a.length : Int) - 1 := by omega
  have c0 : (2 : Nat) ≤ lim := by unfold lim; omega
  have c3 : (3 : Nat) ≤ lim := by unfold lim; omega
  simp [m_turned, b_turned, fnS, need_wheels_spec h m, c1, lcL, l1, l2, c0, c3, gcR]
theorem swapped_spec {a b : List Nat} {n : Int} (h : Whl a b n) (m : Mem) : m_swapped [whD a b n] m = .ok (whD b a n) m := by
  simp [m_swapped, b_swapped, fnS, need_wheels_spec h m, ixD, gcR, lim]
theorem with_turns_spec {a b : List Nat} {n k : Int} (h : Whl a b n) (h1 : 1 ≤ k) (h3 : k ≤ 3) (m : Mem) : m_with_turns [whD a b n, .int k] m = .ok (whD a b k) m := by
  simp [m_with_turns, b_with_turns, fnS, need_wheels_spec h m, h1, h3, gcR, lim]
/-! ### sorted signs -/
theorem mem_dedup {c : Nat} : ∀ {l : List Nat}, c ∈ dedup l ↔ c ∈ l
  | [] => by simp [dedup]
  | x :: r => by
    rw [dedup, List.mem_cons, List.mem_filter, mem_dedup (l := r), List.mem_cons]
    by_cases h : c = x
    · simp [h]
    · simp [h]
theorem dedup_len : ∀ l : List Nat, (dedup l).length ≤ l.length
  | [] => by simp [dedup]
  | x :: r => by
    have h1 := dedup_len r
    have h2 := List.length_filter_le (fun y => decide (y ≠ x)) (dedup r)
    rw [dedup, List.length_cons, List.length_cons]
    omega
theorem insN_perm (x : Nat) : ∀ l : List Nat, (insN x l).Perm (x :: l)
  | [] => by simp [insN]
  | y :: r => by
    unfold insN
    split
    · exact List.Perm.refl _
    · exact ((insN_perm x r).cons y).trans (List.Perm.swap x y r)
theorem sortN_perm : ∀ l : List Nat, (sortN l).Perm l
  | [] => by simp [sortN]
  | x :: r => by
    rw [sortN]
    exact (insN_perm x _).trans ((sortN_perm r).cons x)
/-- the signs on both wheels, in their order -/
def sgs (a b : List Nat) : List Nat := sortN (dedup (a ++ b))
theorem mem_sgs {a b : List Nat} {c : Nat} : c ∈ sgs a b ↔ c ∈ a ∨ c ∈ b := by
  unfold sgs
  rw [(sortN_perm _).mem_iff, mem_dedup, List.mem_append]
theorem sgs_len (a b : List Nat) : (sgs a b).length ≤ a.length + b.length := by
  unfold sgs
  rw [(sortN_perm _).length_eq]
  have := dedup_len (a ++ b)
  simpa using this
@[simp] theorem strsOf_map {α : Type} (f : α → List Nat) : ∀ l : List α, strsOf (l.map fun c => D.str (f c)) = some (l.map f)
  | [] => rfl
  | x :: r => by simp [strsOf_map f r]
@[simp] theorem joinL_one {α : Type} (f : α → Nat) : ∀ l : List α, joinL [] (l.map fun c => [f c]) = l.map f
  | [] => rfl
  | [x] => rfl
  | x :: y :: r => by
    have := joinL_one f (y :: r)
    simp only [List.map_cons] at this ⊢
    simp [joinL, this]
@[simp] theorem sum_ones {α : Type} (f : α → Nat) : ∀ l : List α, ((l.map fun c => [f c]).map List.length).sum = l.length
  | [] => rfl
  | x :: r => by
    have := sum_ones f r
    simp only [List.map_cons, List.sum_cons, List.length_cons, List.length_nil] at this ⊢
    omega
theorem join_ones {α : Type} (f : α → Nat) (l : List α) (m : Mem) (hl : l.length ≤ lim) : joinD m (.str []) (.lst (l.map fun c => .str [f c])) = some (.str (l.map f)) := by
  unfold joinD
  have s1 := strsOf_map (fun c : α => [f c]) l
  have s3 := sum_ones f l
  simp only [seqOf, lstOf, s1, joinL_one]
  rw [if_pos]
  rw [s3]
  simpa using hl
theorem sorted_sgs {a b : List Nat} (m : Mem) (h : a.length + b.length < 64) : sortedSetD m (.str (a ++ b)) = some (.lst ((sgs a b).map fun c => .str [c])) := by
  have l2 := dedup_len (a ++ b)
  rw [List.length_append] at l2
  unfold sortedSetD
  simp only
  rw [if_pos]
  · rfl
  · rw [List.length_append]
    omega
theorem signs_of_spec {a b : List Nat} {n : Int} (h : Whl a b n) (m : Mem) : m_signs_of [whD a b n] m = .ok (.str (sgs a b)) m := by
  have h1 := h.hi
  have h2 := h.same
  have l1 : a.length + b.length ≤ lim := by unfold lim; omega
  have e1 := sorted_sgs (a := a) (b := b) m (by omega)
  have l4 : (sgs a b).length ≤ lim := by have := sgs_len a b; unfold lim; omega
  have e2 := join_ones (fun c : Nat => c) (sgs a b) m l4
  simp only [List.map_id'] at e2
  simp [m_signs_of, b_signs_of, fnS, need_wheels_spec h m, ixD, l1, e1, e2, gcR]
/-! ### two signs exchanged -/
def exg (o p c : Nat) : Nat := if c = p then o else if c = o then p else c
theorem exg_inj {o p c d : Nat} (h : exg o p c = exg o p d) : c = d := by
  unfold exg at h
  repeat' split at h
  all_goals omega
theorem exg_back (o p c : Nat) : exg p o (exg o p c) = c := by
  unfold exg
  repeat' split
  all_goals omega
theorem exg_comm (o p c : Nat) : exg o p c = if c = o then p else if c = p then o else c := by
  unfold exg
  repeat' split
  all_goals omega
theorem exg_nodup {o p : Nat} {l : List Nat} (h : l.Nodup) : (l.map (exg o p)).Nodup := by
  rw [List.nodup_iff_pairwise_ne] at h ⊢
  rw [List.pairwise_map]
  exact h.imp fun hab e => hab (exg_inj e)
theorem exg_sgn {o p : Nat} {l : List Nat} (ho : o ∈ SGN) (hp : p ∈ SGN) (h : ∀ c ∈ l, c ∈ SGN) : ∀ c ∈ l.map (exg o p), c ∈ SGN := by
  intro c hc
  obtain ⟨d, hd, rfl⟩ := List.mem_map.mp hc
  unfold exg
  repeat' split
  · exact ho
  · exact hp
  · exact h d hd
theorem exg_whl {a b : List Nat} {n : Int} (h : Whl a b n) {o p : Nat} (ho : o ∈ SGN) (hp : p ∈ SGN) : Whl (a.map (exg o p)) (b.map (exg o p)) n :=
  ⟨by simpa using h.lo, by simpa using h.hi, by simpa using h.same, exg_nodup h.na, exg_nodup h.nb, exg_sgn ho hp h.sa, exg_sgn ho hp h.sb, h.n1, h.n3⟩
/-- one wheel with two signs exchanged, as the program joins it -/
theorem exg_join {g : Env} {m : Mem} {o p : Nat} (s : List Nat) (hg : g.length = 6) (h1 : g[1]? = some (some (.str [o]))) (h2 : g[2]? = some (some (.str [p]))) (hs : s.length ≤ 1000) (h5 : g[5]? = some (some (.str s))) :
    sopE joinD (cE (.str [])) (lcE (itA (vE 5)) [3] (nmG 3) yesT (noX (dget2E (vE 1) (vE 2) (vE 2) (vE 1) (vE 3) (vE 3)))) g m = .ok (.str (s.map (exg o p))) m := by
  have e : lcL (nmG 3) yesT (noX (dget2E (vE 1) (vE 2) (vE 2) (vE 1) (vE 3) (vE 3))) (wipeD g [3]) (s.map fun c => .str [c]) m = .ok ((s.map fun c => D.str [c]).map fun d => match d with | .str [c] => D.str [exg o p c] | _ => .non) m := by
    refine lcL_map fun d hd => ?_
    obtain ⟨c, hc, rfl⟩ := List.mem_map.mp hd
    refine ⟨_, rfl, ?_⟩
    have q1 : ((wipeD g [3]).set 3 (some (D.str [c])))[1]? = some (some (.str [o])) := by simp [h1]
    have q2 : ((wipeD g [3]).set 3 (some (D.str [c])))[2]? = some (some (.str [p])) := by simp [h2]
    have q3 : ((wipeD g [3]).set 3 (some (D.str [c])))[3]? = some (some (.str [c])) := by simp [hg]
    simp only [noX, dget2E, vE, q1, q2, q3, R.bind_ok]
    congr 1
    unfold exg
    by_cases c1 : c = p
    · simp [c1]
    · by_cases c2 : c = o
      · subst c2; simp [c1]
      · simp [c1, c2]
  have e2 : ((s.map fun c => D.str [c]).map fun d => match d with | .str [c] => D.str [exg o p c] | _ => .non) = s.map fun c => D.str [exg o p c] := by rw [List.map_map]; rfl
  rw [e2] at e
  have l : s.length ≤ lim := by unfold lim; omega
  have s1 := join_ones (exg o p) s m l
  simp only [sopE, cE, R.bind_ok, lcE, itA, vE, h5]
  rw [if_pos (by simpa using l), e]
  simp only [R.bind_ok, s1, opt_some]
theorem with_signs_spec {a b : List Nat} {n : Int} (h : Whl a b n) {o p : Nat} (ho : o ∈ a ∨ o ∈ b) (hp : p ∈ a ∨ p ∈ b) {r : Mem} (hr : ∀ x ∈ r, MO.cl r.length x = true) : m_with_signs [whD a b n, .str [o], .str [p]] r = .ok (whD (a.map (exg o p)) (b.map (exg o p)) n) r := by
  have mo : o ∈ sgs a b := mem_sgs.mpr ho
  have mp : p ∈ sgs a b := mem_sgs.mpr hp
  have hi := h.hi
  have hsm := h.same
  have j1 := fun (g : Env) (m : Mem) (hg : g.length = 6) (h1 : g[1]? = some (some (.str [o]))) (h2 : g[2]? = some (some (.str [p]))) (h5 : g[5]? = some (some (.str a))) => exg_join (m := m) a hg h1 h2 (by omega) h5
  have j2 := fun (g : Env) (m : Mem) (hg : g.length = 6) (h1 : g[1]? = some (some (.str [o]))) (h2 : g[2]? = some (some (.str [p]))) (h5 : g[5]? = some (some (.str b))) => exg_join (m := m) b hg h1 h2 (by omega) h5
  have k1 := j1 [some (whD a b n), some (.str [o]), some (.str [p]), some (.str [p]), some (.ref r.length), some (.str a)] (r ++ [.lst []]) rfl rfl rfl rfl
  have k2 := j2 [some (whD a b n), some (.str [o]), some (.str [p]), some (.str [p]), some (.ref r.length), some (.str b)] (r ++ [.lst [.str (a.map (exg o p))]]) rfl rfl rfl rfl
  have c0 : 0 < lim := by unfold lim; omega
  have c1 : 1 < lim := by unfold lim; omega
  have c2 : 2 ≤ lim := by unfold lim; omega
  have c3 : 3 ≤ lim := by unfold lim; omega
  have l1 : ∀ x : MO, (r ++ [x])[r.length]? = some x := fun x => by simp
  have l2 : ∀ x y : MO, (r ++ [x]).set r.length y = r ++ [y] := fun x y => by simp
  have n1 := need_wheels_spec h r
  have n2 := signs_of_spec h r
  simp only [m_with_signs, b_with_signs, fnS]
  simp [n1, n2, mo, mp, forL, c2, k1, k2, c0, c1, c3, ixD, gcR, D.cl, D.clL, -sopE, -lcE]
  rw [if_neg (by omega), if_pos hr]
end LW
namespace LW
@[simp] theorem ix_1_0 : ixD 1 0 = some 0 := rfl
@[simp] theorem ix_2_0 : ixD 2 0 = some 0 := rfl
@[simp] theorem ix_2_1 : ixD 2 1 = some 1 := rfl
@[simp] theorem ix_3_0 : ixD 3 0 = some 0 := rfl
@[simp] theorem ix_3_1 : ixD 3 1 = some 1 := rfl
@[simp] theorem ix_3_2 : ixD 3 2 = some 2 := rfl
@[simp] theorem ix_4_0 : ixD 4 0 = some 0 := rfl
@[simp] theorem ix_4_1 : ixD 4 1 = some 1 := rfl
@[simp] theorem ix_4_2 : ixD 4 2 = some 2 := rfl
@[simp] theorem ix_4_3 : ixD 4 3 = some 3 := rfl
/-- a stand: place, whether the figures' wheel, idle -/
structure Std where
  p : Nat
  f : Bool
  i : Nat
deriving DecidableEq
@[simp] def wc (f : Bool) : Nat := if f then 102 else 108
abbrev stD (s : Std) : D := .tup [.int s.p, .str [wc s.f], .int s.i]
/-- one pulse -/
def pul (a b : List Nat) (n : Int) (s : Std) (c : Nat) : Std × List Nat :=
  if c = 115 then (if s.p = 0 ∧ (a.length : Int) * n ≤ s.i then (s, []) else (⟨(s.p + 1) % a.length, s.f, s.i + 1⟩, []))
  else if c = 112 then (⟨s.p, s.f, 0⟩, [(if s.f then b else a).getD s.p 0])
  else (⟨s.p, decide (c = 102), 0⟩, [])
def IsPul (c : Nat) : Prop := c = 115 ∨ c = 112 ∨ c = 108 ∨ c = 102
theorem pul_lt {a b : List Nat} {n : Int} {s : Std} {c : Nat} (h : s.p < a.length) : (pul a b n s c).1.p < a.length := by
  unfold pul
  split
  · split
    · exact h
    · exact Nat.mod_lt _ (by omega)
  · split
    · exact h
    · exact h
theorem pul_len {a b : List Nat} {n : Int} {s : Std} {c : Nat} : (pul a b n s c).2.length ≤ 1 := by
  unfold pul
  split
  · split <;> simp
  · split <;> simp
theorem is_caught_spec {a b : List Nat} {n : Int} (h : Whl a b n) (s : Std) (m : Mem) : m_is_caught [whD a b n, stD s] m = .ok (.bl (decide (s.p = 0 ∧ (a.length : Int) * n ≤ s.i))) m := by
  have g1 := big_of (i := (a.length : Int)) (by omega) (by have := h.hi; omega)
  by_cases h0 : s.p = 0
  · simp [m_is_caught, b_is_caught, fnS, h0, g1, gcR]
  · have hq : ((s.p : Int) == 0) = false := by simp; omega
    simp [m_is_caught, b_is_caught, fnS, h0, hq, gcR]
theorem get_sign {x : List Nat} {p : Nat} (h : p < x.length) (m : Mem) : LW.getD m (.str x) (.int p) = some (.str [x.getD p 0]) := by
  simp [ixD_nat h, List.getElem?_eq_getElem h]
theorem pulsed_spec {a b : List Nat} {n : Int} (h : Whl a b n) {s : Std} (hp : s.p < a.length) {c : Nat} (hc : IsPul c) (m : Mem) : m_pulsed [whD a b n, stD s, .str [c]] m = .ok (.tup [stD (pul a b n s c).1, .str (pul a b n s c).2]) m := by
  have l2 : 2 ≤ lim := by unfold lim; omega
  have l3 : 3 ≤ lim := by unfold lim; omega
  have la : (0 : Int) < (a.length : Int) := by omega
  have la' : 0 < a.length := by omega
  have hb : s.p < b.length := by rw [h.same]; exact hp
  have e1 := is_caught_spec h s m
  have g0 := get_sign hp m
  have g1 := get_sign hb m
  rcases hc with rfl | rfl | rfl | rfl
  · by_cases q : s.p = 0 ∧ (a.length : Int) * n ≤ s.i
    · simp [m_pulsed, b_pulsed, fnS, e1, q, pul, l2, gcR]
    · simp [m_pulsed, b_pulsed, fnS, e1, q, pul, l2, l3, gcR, la']
  · cases hf : s.f
    · simp [m_pulsed, b_pulsed, fnS, pul, l2, l3, gcR, hf, ixD_nat hp, List.getElem?_eq_getElem hp]
    · simp [m_pulsed, b_pulsed, fnS, pul, l2, l3, gcR, hf, ixD_nat hb, List.getElem?_eq_getElem hb]
  · simp [m_pulsed, b_pulsed, fnS, pul, l2, l3, gcR]
  · simp [m_pulsed, b_pulsed, fnS, pul, l2, l3, gcR]
theorem law_pulse_spec {a b : List Nat} {n : Int} (h : Whl a b n) {s : Std} (hp : s.p < a.length) {c : Nat} (hc : IsPul c) (m : Mem) : m_law_pulse [whD a b n, stD s, .str [c]] m = .ok (.tup [stD (pul a b n s c).1, .str (pul a b n s c).2]) m := by
  have l2 : 2 ≤ lim := by unfold lim; omega
  have l3 : 3 ≤ lim := by unfold lim; omega
  have la' : 0 < a.length := by omega
  have hb : s.p < b.length := by rw [h.same]; exact hp
  have g1 := big_of (i := (a.length : Int)) (by omega) (by have := h.hi; omega)
  rcases hc with rfl | rfl | rfl | rfl
  · by_cases h0 : s.p = 0
    · by_cases q : (a.length : Int) * n ≤ s.i
      · simp [m_law_pulse, b_law_pulse, fnS, h0, q, g1, pul, l2, gcR]
      · simp [m_law_pulse, b_law_pulse, fnS, h0, q, g1, pul, l2, l3, gcR, la']
    · have hq : ((s.p : Int) == 0) = false := by simp; omega
      simp [m_law_pulse, b_law_pulse, fnS, h0, hq, pul, l2, l3, gcR, la']
  · cases hf : s.f
    · simp [m_law_pulse, b_law_pulse, fnS, pul, l2, l3, gcR, hf, ixD_nat hp, List.getElem?_eq_getElem hp]
    · simp [m_law_pulse, b_law_pulse, fnS, pul, l2, l3, gcR, hf, ixD_nat hb, List.getElem?_eq_getElem hb]
  · simp [m_law_pulse, b_law_pulse, fnS, pul, l2, l3, gcR]
  · simp [m_law_pulse, b_law_pulse, fnS, pul, l2, l3, gcR]
/-- a row -/
def run (a b : List Nat) (n : Int) : Std → List Nat → Std × List Nat
  | s, [] => (s, [])
  | s, c :: r => ((run a b n (pul a b n s c).1 r).1, (pul a b n s c).2 ++ (run a b n (pul a b n s c).1 r).2)
theorem run_len {a b : List Nat} {n : Int} : ∀ (r : List Nat) (s : Std), (run a b n s r).2.length ≤ r.length
  | [], s => by simp [run]
  | c :: r, s => by
    have h1 := run_len (a := a) (b := b) (n := n) r (pul a b n s c).1
    have h2 := pul_len (a := a) (b := b) (n := n) (s := s) (c := c)
    simp only [run, List.length_append, List.length_cons]
    omega
theorem run_lt {a b : List Nat} {n : Int} : ∀ (r : List Nat) (s : Std), s.p < a.length → (run a b n s r).1.p < a.length
  | [], s, h => h
  | c :: r, s, h => run_lt r _ (pul_lt h)
theorem run_append {a b : List Nat} {n : Int} : ∀ (r q : List Nat) (s : Std), run a b n s (r ++ q) = ((run a b n (run a b n s r).1 q).1, (run a b n s r).2 ++ (run a b n (run a b n s r).1 q).2)
  | [], q, s => by simp [run]
  | c :: r, q, s => by simp [run, run_append r q]
theorem rowed_loop {a b : List Nat} {n : Int} (h : Whl a b n) {m : Mem} {r2 : Option D} : ∀ (row : List Nat) (s : Std) (t : List Nat) (x y : Option D), s.p < a.length → (∀ c ∈ row, IsPul c) → t.length + row.length ≤ 10000 →
    ∃ x' y', forL (nmG 4) (seqS (asgS (tupG (consG (nmG 1) (consG (nmG 5) nilG))) (callE m_pulsed (consA (vE 0) (consA (vE 1) (consA (vE 4) nilA))))) (asgS (nmG 3) (opE addD (vE 3) (vE 5)))) (row.map fun c => .str [c]) [some (whD a b n), some (stD s), r2, some (.str t), x, y] m
      = .ok (.nx [some (whD a b n), some (stD (run a b n s row).1), r2, some (.str (t ++ (run a b n s row).2)), x', y']) m
  | [], s, t, x, y, _, _, _ => ⟨x, y, by simp [forL, run]⟩
  | c :: row, s, t, x, y, hp, hc, hl => by
    simp only [List.length_cons] at hl
    have pl := pul_len (a := a) (b := b) (n := n) (s := s) (c := c)
    obtain ⟨x', y', e⟩ := rowed_loop h (m := m) (r2 := r2) row (pul a b n s c).1 (t ++ (pul a b n s c).2) (some (.str [c])) (some (.str (pul a b n s c).2)) (pul_lt hp) (fun d hd => hc d (List.mem_cons_of_mem _ hd)) (by simp; omega)
    refine ⟨x', y', ?_⟩
    have l : t.length + (pul a b n s c).2.length ≤ lim := by unfold lim; omega
    have pe := pulsed_spec h hp (hc c (by simp)) m
    rw [List.map_cons, forL_cons]
    simp [pe, l]
    rw [e]
    simp [run]
theorem rowed_spec {a b : List Nat} {n : Int} (h : Whl a b n) {s : Std} (hp : s.p < a.length) {row : List Nat} (hr : ∀ c ∈ row, IsPul c) (hl : row.length ≤ 10000) (m : Mem) : m_rowed [whD a b n, stD s, .str row] m = .ok (.tup [stD (run a b n s row).1, .str (run a b n s row).2]) m := by
  obtain ⟨x, y, e⟩ := rowed_loop h (m := m) (r2 := some (.str row)) row s [] none none hp hr (by simpa using hl)
  have l2 : 2 ≤ lim := by unfold lim; omega
  simp only [List.nil_append] at e
  simp [m_rowed, b_rowed, fnS, e, gcR, l2]
theorem law_run_loop {a b : List Nat} {n : Int} (h : Whl a b n) {m : Mem} {r2 : Option D} : ∀ (row : List Nat) (s : Std) (t : List Nat) (x y : Option D), s.p < a.length → (∀ c ∈ row, IsPul c) → t.length + row.length ≤ 10000 →
    ∃ x' y', forL (nmG 4) (seqS (asgS (tupG (consG (nmG 1) (consG (nmG 5) nilG))) (callE m_law_pulse (consA (vE 0) (consA (vE 1) (consA (vE 4) nilA))))) (asgS (nmG 3) (opE addD (vE 3) (vE 5)))) (row.map fun c => .str [c]) [some (whD a b n), some (stD s), r2, some (.str t), x, y] m
      = .ok (.nx [some (whD a b n), some (stD (run a b n s row).1), r2, some (.str (t ++ (run a b n s row).2)), x', y']) m
  | [], s, t, x, y, _, _, _ => ⟨x, y, by simp [forL, run]⟩
  | c :: row, s, t, x, y, hp, hc, hl => by
    simp only [List.length_cons] at hl
    have pl := pul_len (a := a) (b := b) (n := n) (s := s) (c := c)
    obtain ⟨x', y', e⟩ := law_run_loop h (m := m) (r2 := r2) row (pul a b n s c).1 (t ++ (pul a b n s c).2) (some (.str [c])) (some (.str (pul a b n s c).2)) (pul_lt hp) (fun d hd => hc d (List.mem_cons_of_mem _ hd)) (by simp; omega)
    refine ⟨x', y', ?_⟩
    have l : t.length + (pul a b n s c).2.length ≤ lim := by unfold lim; omega
    have pe := law_pulse_spec h hp (hc c (by simp)) m
    rw [List.map_cons, forL_cons]
    simp [pe, l]
    rw [e]
    simp [run]
theorem law_run_spec {a b : List Nat} {n : Int} (h : Whl a b n) {s : Std} (hp : s.p < a.length) {row : List Nat} (hr : ∀ c ∈ row, IsPul c) (hl : row.length ≤ 10000) (m : Mem) : m_law_run [whD a b n, stD s, .str row] m = .ok (.tup [stD (run a b n s row).1, .str (run a b n s row).2]) m := by
  obtain ⟨x, y, e⟩ := law_run_loop h (m := m) (r2 := some (.str row)) row s [] none none hp hr (by simpa using hl)
  have l2 : 2 ≤ lim := by unfold lim; omega
  simp only [List.nil_append] at e
  simp [m_law_run, b_law_run, fnS, e, gcR, l2]
end LW
namespace LW
theorem pul_mem {c : Nat} (h : IsPul c) : c ∈ c_PULSES := by
  rcases h with rfl | rfl | rfl | rfl <;> decide
theorem is_row_spec {s : List Nat} {hi : Int} (h2 : (s.length : Int) ≤ hi) (h3 : s.length ≤ 10000) (hs : ∀ c ∈ s, IsPul c) (m : Mem) : m_is_row [.str s, .int hi] m = .ok (.bl true) m := by
  have hl : s.length ≤ lim := by unfold lim; omega
  have e : ∀ g : Env, g.length = 3 → lcL (nmG 2) yesT (noX (opE inD (vE 2) (cE (.str c_PULSES)))) g (s.map fun c => .str [c]) m = .ok ((s.map fun c => D.str [c]).map fun d => match d with | .str [c] => D.bl (decide (c ∈ c_PULSES)) | _ => .non) m := by
    intro g hg
    refine lcL_map fun d hd => ?_
    obtain ⟨c, hc, rfl⟩ := List.mem_map.mp hd
    refine ⟨_, rfl, ?_⟩
    have : (g.set 2 (some (D.str [c])))[2]? = some (some (.str [c])) := by rw [List.getElem?_set_self (by omega)]
    simp [this]
  have e2 : ((s.map fun c => D.str [c]).map fun d => match d with | .str [c] => D.bl (decide (c ∈ c_PULSES)) | _ => .non) = s.map fun c => D.bl (decide (c ∈ c_PULSES)) := by rw [List.map_map]; rfl
  have a1 : (s.map fun c => D.bl (decide (c ∈ c_PULSES))).all (fun d => match d with | .bl b => b | _ => false) = true := by
    simp only [List.all_eq_true, List.mem_map]
    rintro d ⟨c, hc, rfl⟩
    simpa using pul_mem (hs c hc)
  have a2 : (s.map fun c => D.bl (decide (c ∈ c_PULSES))).all (fun d => match d with | .bl _ => true | _ => false) = true := by
    simp only [List.all_eq_true, List.mem_map]
    rintro d ⟨c, hc, rfl⟩
    rfl
  have e' := e [some (.str s), some (.int hi), none] rfl
  rw [e2] at e'
  have a1' : ∀ c ∈ s, c ∈ c_PULSES := fun c hc => pul_mem (hs c hc)
  simp [m_is_row, b_is_row, fnS, h2, hl, gcR, e', a1, a2]
  try exact a1'
theorem need_row_spec {s : List Nat} {hi : Int} (h2 : (s.length : Int) ≤ hi) (h3 : s.length ≤ 10000) (hs : ∀ c ∈ s, IsPul c) (m : Mem) : m_need_row [.str s, .int hi] m = .ok .non m := by
  simp [m_need_row, b_need_row, fnS, is_row_spec h2 h3 hs m, gcR]
theorem need_both_spec {a b : List Nat} {n : Int} (h : Whl a b n) {s : List Nat} (h2 : s.length ≤ 60) (hs : ∀ c ∈ s, IsPul c) (m : Mem) : m_need_both [whD a b n, .str s] m = .ok .non m := by
  have e := need_row_spec (s := s) (hi := 60) (by omega) (by omega) hs m
  simp [m_need_both, b_need_both, fnS, need_wheels_spec h m, e, gcR]
def st0 : Std := ⟨0, false, 0⟩
abbrev shw (a b : List Nat) (n : Int) (row : List Nat) : List Nat := (run a b n st0 row).2
theorem st0_lt {a b : List Nat} {n : Int} (h : Whl a b n) : st0.p < a.length := by have := h.lo; show 0 < _; omega
theorem shown_by_spec {a b : List Nat} {n : Int} (h : Whl a b n) {row : List Nat} (hr : ∀ c ∈ row, IsPul c) (hl : row.length ≤ 10000) (m : Mem) : m_shown_by [whD a b n, .str row] m = .ok (.str (shw a b n row)) m := by
  have e : m_rowed [whD a b n, .tup [.int 0, .str [108], .int 0], .str row] m = .ok (.tup [stD (run a b n st0 row).1, .str (run a b n st0 row).2]) m := rowed_spec h (s := st0) (st0_lt h) hr hl m
  simp [m_shown_by, b_shown_by, fnS, e, gcR]
theorem law_shown_spec {a b : List Nat} {n : Int} (h : Whl a b n) {row : List Nat} (hr : ∀ c ∈ row, IsPul c) (hl : row.length ≤ 10000) (m : Mem) : m_law_shown [whD a b n, .str row] m = .ok (.str (shw a b n row)) m := by
  have e : m_law_run [whD a b n, .tup [.int 0, .str [108], .int 0], .str row] m = .ok (.tup [stD (run a b n st0 row).1, .str (run a b n st0 row).2]) m := law_run_spec h (s := st0) (st0_lt h) hr hl m
  have l3 : 3 ≤ lim := by unfold lim; omega
  simp [m_law_shown, b_law_shown, fnS, e, gcR, l3]
theorem law_row_spec {ns : List Int} {t most : Nat} {r : Mem} (hm : most ≤ 1000) (ht : t < 900000) : ∃ (row : List Nat) (t' : Nat), m_law_row [.scr ns, .ref 0, .int most] (twn t :: r) = .ok (.str row) (twn t' :: r) ∧ t' ≤ t + most + 1 ∧ row.length ≤ most ∧ ∀ c ∈ row, IsPul c := by
  have hp : (0 : Int) < (most : Int) + 1 := by omega
  have d1 := draw_spec (ns := ns) (t := t) (r := r) hp (by omega)
  have lo := dr_lo ns (t + 1) hp
  have hi := dr_hi ns (t + 1) hp
  generalize dr ns (t + 1) ((most : Int) + 1) = j at *
  obtain ⟨k, hk⟩ : ∃ k : Nat, j = (k : Int) := ⟨j.toNat, by omega⟩
  subst hk
  have loop := lcL_inv (t := nmG 3) (e := noX (callE m_law_pick (consA (vE 0) (consA (vE 1) (consA (bE listB (consA (cE (.str [115, 115, 115, 115, 112, 112, 108, 102])) nilA)) nilA)))))
    (g := [some (.scr ns), some (.ref 0), some (.int most), none]) (ds := (List.range k).map fun (i : Nat) => D.int i) (fun i acc m => ∃ row : List Nat, acc = row.map (fun c => D.str [c]) ∧ row.length = i ∧ (∀ c ∈ row, IsPul c) ∧ m = twn (t + 1 + i) :: r) ?step (m := twn (t + 1) :: r) ⟨[], rfl, rfl, by simp, rfl⟩
  case step =>
    rintro i d acc m hd ⟨row, rfl, hl, hr, rfl⟩
    have hi : i < k := by
      have := (List.getElem?_eq_some_iff.mp hd).1
      simpa using this
    obtain ⟨x, hx, p1⟩ := pick_spec (ns := ns) (t := t + 1 + i) (r := r) (xs := [D.str [115], D.str [115], D.str [115], D.str [115], D.str [112], D.str [112], D.str [108], D.str [102]]) (by simp) (by omega)
    obtain ⟨c, hc, rfl⟩ : ∃ c, IsPul c ∧ x = .str [c] := by
      simp only [List.mem_cons, List.not_mem_nil, or_false] at hx
      rcases hx with rfl | rfl | rfl | rfl | rfl | rfl | rfl | rfl
      · exact ⟨115, .inl rfl, rfl⟩
      · exact ⟨115, .inl rfl, rfl⟩
      · exact ⟨115, .inl rfl, rfl⟩
      · exact ⟨115, .inl rfl, rfl⟩
      · exact ⟨112, .inr (.inl rfl), rfl⟩
      · exact ⟨112, .inr (.inl rfl), rfl⟩
      · exact ⟨108, .inr (.inr (.inl rfl)), rfl⟩
      · exact ⟨102, .inr (.inr (.inr rfl)), rfl⟩
    refine ⟨_, _, rfl, .str [c], twn (t + 1 + i + 1) :: r, ?_, row ++ [c], by simp, by simp [hl], ?_, rfl⟩
    · simp [p1]
    · intro d' hd'
      rcases List.mem_append.mp hd' with h | h
      · exact hr d' h
      · rw [List.mem_singleton.mp h]; exact hc
  obtain ⟨ys, m', e, row, rfl, hl, hr, rfl⟩ := loop
  simp only [List.length_map, List.length_range] at hl e
  refine ⟨row, t + 1 + k, ?_, by omega, by omega, hr⟩
  have hin : inR (k : Int) = true := inR_nat (by omega)
  have hlm : k ≤ lim := by unfold lim; omega
  have hj := join_ones (fun c : Nat => c) row (twn (t + 1 + k) :: r) (by rw [hl]; exact hlm)
  simp only [List.map_id'] at hj
  simp [m_law_row, b_law_row, fnS, d1, hin, hlm, e, hj, gcR]
end LW
namespace LW
@[simp] theorem cutD_from1 {α : Type} (xs : List α) (p : Nat) : cutD xs (some ((p : Int) + 1)) none = xs.drop (p + 1) := cutD_from xs (p + 1)
@[simp] theorem cutD_to1 {α : Type} (xs : List α) (p : Nat) : cutD xs none (some ((p : Int) + 1)) = xs.take (p + 1) := cutD_to xs (p + 1)
/-- one pulse left out -/
abbrev cutAt (row : List Nat) (k : Nat) : List Nat := row.take k ++ row.drop (k + 1)
theorem cutAt_pul {row : List Nat} {k : Nat} (h : ∀ c ∈ row, IsPul c) : ∀ c ∈ cutAt row k, IsPul c := fun c hc => by
  rcases List.mem_append.mp hc with q | q
  · exact h c (List.mem_of_mem_take q)
  · exact h c (List.mem_of_mem_drop q)
theorem cutAt_len {row : List Nat} {k : Nat} : (cutAt row k).length ≤ row.length := by simp; omega
theorem cutAt_lt {row : List Nat} {k : Nat} (h : k < row.length) : (cutAt row k).length = row.length - 1 := by simp; omega
/-- the pulses that can be left out alone -/
def ndl (a b : List Nat) (n : Int) (row : List Nat) : List Nat := (List.range row.length).filter fun k => shw a b n (cutAt row k) == shw a b n row
theorem filter_ints (p : Nat → Bool) (l : List Nat) (q : D → Bool) (hq : ∀ k ∈ l, q (.int (k : Int)) = p k) : ((l.map fun (k : Nat) => D.int k).filter q).map (fun d => d) = (l.filter p).map fun (k : Nat) => D.int k := by
  induction l with
  | nil => rfl
  | cons x r ih =>
    have ih := ih fun k hk => hq k (List.mem_cons_of_mem _ hk)
    have h1 := hq x (by simp)
    simp only [List.map_id'] at ih ⊢
    simp only [List.map_cons, List.filter_cons, h1]
    cases p x <;> simp [ih]
theorem needless_spec {a b : List Nat} {n : Int} (h : Whl a b n) {row : List Nat} (hr : ∀ c ∈ row, IsPul c) (hl : row.length ≤ 60) (m : Mem) : m_needless [whD a b n, .str row] m = .ok (.lst ((ndl a b n row).map fun (k : Nat) => .int k)) m := by
  have e1 := need_both_spec h hl hr m
  have e2 := shown_by_spec h hr (by omega) m
  have lm : row.length ≤ lim := by unfold lim; omega
  have loop := lcL_filter (t := nmG 3) (c := noXT (tE (opE eqD (callE m_shown_by (consA (vE 0) (consA (opE addD (slE slD (vE 1) noO (someO (vE 3))) (slE slD (vE 1) (someO (opE addD (vE 3) (cE (.int 1)))) noO)) nilA))) (vE 2)))) (e := noX (vE 3))
    (g := [some (whD a b n), some (.str row), some (.str (shw a b n row)), none]) (m := m) (ds := (List.range row.length).map fun (k : Nat) => D.int k)
    (p := fun d => match d with | .int i => shw a b n (cutAt row i.toNat) == shw a b n row | _ => false) (f := fun d => d) fun d hd => by
      obtain ⟨k, hk, rfl⟩ := List.mem_map.mp hd
      have hk := List.mem_range.mp hk
      have e3 := shown_by_spec h (row := cutAt row k) (cutAt_pul hr) (by have := cutAt_len (row := row) (k := k); omega) m
      have l2 : min k row.length + (row.length - (k + 1)) ≤ lim := by unfold lim; omega
      refine ⟨_, rfl, ?_, fun _ => by simp⟩
      simp [l2, e3]
  rw [filter_ints (fun k => shw a b n (cutAt row k) == shw a b n row) (List.range row.length) _ fun k _ => by simp] at loop
  have hin : inR (row.length : Int) = true := inR_nat (by omega)
  simp [m_needless, b_needless, fnS, e1, e2, hin, lm, loop, gcR, ndl]
/-- thinning from a place on -/
def thin (a b : List Nat) (n : Int) (text : List Nat) : Nat → List Nat → Nat → List Nat
  | 0, made, _ => made
  | f + 1, made, k => if k < made.length then (if shw a b n (cutAt made k) = text then thin a b n text f (cutAt made k) k else thin a b n text f made (k + 1)) else made
theorem thinned_loop {a b : List Nat} {n : Int} (h : Whl a b n) {m : Mem} {r1 : Option D} {text : List Nat} : ∀ (f N : Nat) (made : List Nat) (k : Nat), made.length - k < f → f ≤ N → made.length ≤ 60 → (∀ c ∈ made, IsPul c) → ∃ k',
    whileL (tE (opE ltD (vE 4) (bE lenB (consA (vE 3) nilA)))) (ifS (tE (opE eqD (callE m_shown_by (consA (vE 0) (consA (opE addD (slE slD (vE 3) noO (someO (vE 4))) (slE slD (vE 3) (someO (opE addD (vE 4) (cE (.int 1)))) noO)) nilA))) (vE 2))) (asgS (nmG 3) (opE addD (slE slD (vE 3) noO (someO (vE 4))) (slE slD (vE 3) (someO (opE addD (vE 4) (cE (.int 1)))) noO))) (asgS (nmG 4) (opE addD (vE 4) (cE (.int 1)))))
      N [some (whD a b n), r1, some (.str text), some (.str made), some (.int k)] m = .ok (.nx [some (whD a b n), r1, some (.str text), some (.str (thin a b n text f made k)), k']) m
  | 0, N, made, k, hf, _, _, _ => by omega
  | f + 1, 0, made, k, _, hN, _, _ => by omega
  | f + 1, N + 1, made, k, hf, hN, hl, hr => by
    by_cases hk : k < made.length
    · have hk' : (k : Int) < (made.length : Int) := by omega
      have e3 := shown_by_spec h (row := cutAt made k) (cutAt_pul hr) (by have := cutAt_len (row := made) (k := k); omega) m
      have l2 : min k made.length + (made.length - (k + 1)) ≤ lim := by unfold lim; omega
      by_cases hq : shw a b n (cutAt made k) = text
      · obtain ⟨k', e⟩ := thinned_loop h (m := m) (r1 := r1) (text := text) f N (cutAt made k) k (by rw [cutAt_lt hk]; omega) (by omega) (by have := cutAt_len (row := made) (k := k); omega) (cutAt_pul hr)
        refine ⟨k', ?_⟩
        simp [whileL, thin, hk, hk', e3, hq, l2]
        exact e
      · obtain ⟨k', e⟩ := thinned_loop h (m := m) (r1 := r1) (text := text) f N made (k + 1) (by omega) (by omega) hl hr
        refine ⟨k', ?_⟩
        simp [whileL, thin, hk, hk', e3, hq, l2]
        exact e
    · have hk' : ¬ (k : Int) < (made.length : Int) := by omega
      exact ⟨some (.int k), by simp [whileL, thin, hk, hk']⟩
/-- the thinned row -/
def thn (a b : List Nat) (n : Int) (row : List Nat) : List Nat := thin a b n (shw a b n row) 61 row 0
theorem thinned_spec {a b : List Nat} {n : Int} (h : Whl a b n) {row : List Nat} (hr : ∀ c ∈ row, IsPul c) (hl : row.length ≤ 60) (m : Mem) : m_thinned [whD a b n, .str row] m = .ok (.str (thn a b n row)) m := by
  have e1 := need_both_spec h hl hr m
  have e2 := shown_by_spec h hr (by omega) m
  obtain ⟨k', e⟩ := thinned_loop h (m := m) (r1 := some (.str row)) (text := shw a b n row) 61 100000 row 0 (by omega) (by omega) hl hr
  simp only [m_thinned, b_thinned, fnS]
  simp [e1, e2]
  rw [show ((0 : Nat) : Int) = 0 from rfl] at e
  rw [e]
  simp [gcR, thn]
end LW
namespace LW
/-! ### slips -/
def wd (w : Bool) : List Nat := if w then [116, 119, 105, 99, 101] else [108, 111, 115, 116]
abbrev slD1 (p : Nat × Bool) : D := .tup [.int p.1, .str (wd p.2)]
abbrev slpD (l : List (Nat × Bool)) : D := .tpx (l.map slD1)
/-- how often a pulse comes -/
def oft (l : List (Nat × Bool)) (i : Nat) : Nat := match l.find? (fun p => decide (p.1 = i)) with | none => 1 | some p => if p.2 then 2 else 0
theorem oft_le (l : List (Nat × Bool)) (i : Nat) : oft l i ≤ 2 := by
  unfold oft
  split
  · omega
  · split <;> omega
theorem pairsOf_slips : ∀ l : List (Nat × Bool), pairsOf (l.map slD1) = some (l.map fun p => ((p.1 : Int), D.str (wd p.2)))
  | [] => rfl
  | p :: l => by simp [pairsOf, pairsOf_slips l]
theorem dfind_slips (i : Nat) : ∀ l : List (Nat × Bool), dfind (i : Int) (l.map fun p => D.int p.1) (l.map fun p => D.str (wd p.2)) = (l.find? fun p => decide (p.1 = i)).map fun p => D.str (wd p.2)
  | [] => rfl
  | p :: l => by
    simp only [List.map_cons, dfind]
    by_cases h : p.1 = i
    · simp [h]
    · have h' : ¬ (p.1 : Int) = (i : Int) := by omega
      simp [h, h', dfind_slips i l]
/-- the row as it comes -/
def slp (row : List Nat) (l : List (Nat × Bool)) : List Nat := ((List.range row.length).map fun i => List.replicate (oft l i) (row.getD i 0)).flatten
theorem joinL_flat : ∀ ps : List (List Nat), joinL [] ps = ps.flatten
  | [] => rfl
  | [p] => by simp [joinL]
  | p :: q :: r => by
    have := joinL_flat (q :: r)
    simp only [joinL, this, List.append_nil, List.flatten_cons]
theorem flat_rep1 (c k : Nat) : (List.replicate k [c]).flatten = List.replicate k c := by
  induction k with
  | zero => rfl
  | succ k ih => simp [List.replicate_succ, ih]
theorem zip_row (row : List Nat) (f : Nat → D) : zipD (row.map fun c => D.str [c]) ((List.range row.length).map f) = (List.range row.length).map fun i => D.tup [.str [row.getD i 0], f i] := by
  apply List.ext_getElem?
  intro i
  unfold zipD
  rw [List.getElem?_zipWith, List.getElem?_map, List.getElem?_map, List.getElem?_map]
  by_cases h : i < row.length
  · rw [List.getElem?_range h, List.getElem?_eq_getElem h]
    simp [h]
  · rw [List.getElem?_eq_none (by omega), List.getElem?_eq_none (by simp; omega)]
    rfl
theorem slipped_spec {row : List Nat} {l : List (Nat × Bool)} (hl : row.length ≤ 1000) (hn : (l.map (·.1)).Nodup) (m : Mem) : m_slipped [.str row, slpD l] m = .ok (.str (slp row l)) m := by
  have lm : row.length ≤ lim := by unfold lim; omega
  have nd : ((l.map fun p => ((p.1 : Int), D.str (wd p.2))).map (·.1)).Nodup := by
    have e : (l.map fun p => ((p.1 : Int), D.str (wd p.2))).map (·.1) = (l.map (·.1)).map fun (k : Nat) => (k : Int) := by rw [List.map_map, List.map_map]; rfl
    rw [e, List.nodup_iff_pairwise_ne, List.pairwise_map]
    exact (List.nodup_iff_pairwise_ne.mp hn).imp fun hab e => hab (by omega)
  have e1 : dictB m [slpD l] = some (.dct (l.map fun p => .int p.1) (l.map fun p => .str (wd p.2))) := by
    unfold dictB slpD
    simp only [pairsOf_slips]
    rw [if_pos nd]
    simp [List.map_map, Function.comp_def]
  have e2 : lcL (nmG 4) yesT (noX (dget2E (cE (.str [108, 111, 115, 116])) (cE (.int 0)) (cE (.str [116, 119, 105, 99, 101])) (cE (.int 2)) (dopE get1D (vE 2) (vE 4)) (cE (.int 1)))) [some (.str row), some (slpD l), some (.dct (l.map fun p => .int p.1) (l.map fun p => .str (wd p.2))), none, none, none, none] ((List.range row.length).map fun (k : Nat) => D.int k) m
      = .ok (((List.range row.length).map fun (k : Nat) => D.int k).map fun d => match d with | .int i => .int (oft l i.toNat) | _ => .non) m := by
    refine lcL_map fun d hd => ?_
    obtain ⟨k, hk, rfl⟩ := List.mem_map.mp hd
    refine ⟨_, rfl, ?_⟩
    have hd2 := dfind_slips k l
    cases q : l.find? (fun p => decide (p.1 = k)) with
    | none => simp [get1D, hd2, q, oft]
    | some p =>
      cases hp : p.2
      · have hw : wd p.2 = [108, 111, 115, 116] := by rw [hp]; rfl
        simp [get1D, hd2, q, oft, hp, hw]
        try simp [wd]
      · have hw : wd p.2 = [116, 119, 105, 99, 101] := by rw [hp]; rfl
        simp [get1D, hd2, q, oft, hp, hw]
        try simp [wd]
  rw [List.map_map] at e2
  have e3 : ∀ x4, lcL (tupG (consG (nmG 5) (consG (nmG 6) nilG))) yesT (noX (opE mulD (vE 5) (vE 6))) [some (.str row), some (slpD l), some (.dct (l.map fun p => .int p.1) (l.map fun p => .str (wd p.2))), some (.lst ((List.range row.length).map fun (k : Nat) => D.int (oft l k))), x4, none, none]
      ((List.range row.length).map fun i => D.tup [.str [row.getD i 0], .int (oft l i)]) m = .ok (((List.range row.length).map fun i => D.tup [.str [row.getD i 0], .int (oft l i)]).map fun d => match d with | .tup [.str [c], .int j] => .str (List.replicate j.toNat c) | _ => .non) m := by
    intro x4
    refine lcL_map fun d hd => ?_
    obtain ⟨k, hk, rfl⟩ := List.mem_map.mp hd
    refine ⟨_, rfl, ?_⟩
    have ho := oft_le l k
    have rp := repOk_of (n := 1) (j := (oft l k : Int)) (by omega) (by omega) (by omega)
    simp [rp, flat_rep1]
  have e4 : ((List.range row.length).map fun i => D.tup [.str [row.getD i 0], .int (oft l i)]).map (fun d => match d with | .tup [.str [c], .int j] => D.str (List.replicate j.toNat c) | _ => .non) = (List.range row.length).map fun i => D.str (List.replicate (oft l i) (row.getD i 0)) := by
    rw [List.map_map]
    rfl
  have hin : inR (row.length : Int) = true := inR_nat (by omega)
  have ez := zip_row row (fun i => D.int (oft l i))
  have ej : joinD m (.str []) (.lst ((List.range row.length).map fun i => D.str (List.replicate (oft l i) (row.getD i 0)))) = some (.str (slp row l)) := by
    unfold joinD
    have s1 := strsOf_map (fun i : Nat => List.replicate (oft l i) (row.getD i 0)) (List.range row.length)
    simp only [seqOf, lstOf, s1, joinL_flat]
    rw [if_pos]
    · rfl
    · have hb : ∀ is : List Nat, ((is.map fun i => List.replicate (oft l i) (row.getD i 0)).map List.length).sum ≤ 2 * is.length := fun is => by
        induction is with
        | nil => simp
        | cons x r ih =>
          have ho := oft_le l x
          simp only [List.map_cons, List.sum_cons, List.length_cons, List.length_replicate] at ih ⊢
          omega
      have := hb (List.range row.length)
      simp only [List.length_map, List.length_range, List.length_nil, Nat.mul_zero, Nat.add_zero] at this ⊢
      unfold lim
      omega
  have e5 : (List.range row.length).map ((fun d => match d with | .int i => D.int (oft l i.toNat) | _ => .non) ∘ fun (k : Nat) => D.int k) = (List.range row.length).map fun (k : Nat) => D.int (oft l k) := rfl
  rw [e5] at e2
  have e3' := e3 none
  rw [e4] at e3'
  simp only [m_slipped, b_slipped, fnS]
  simp [e1, hin, lm, e2, ez, e3', ej, gcR, -List.getD_eq_getElem?_getD]
end LW
namespace LW
theorem need_slips0_spec {row : List Nat} (m : Mem) : m_need_slips [.str row, .tpx []] m = .ok .non m := by
  have l0 : 0 ≤ lim := by unfold lim; omega
  simp [m_need_slips, b_need_slips, fnS, lcL, cutD, zipD, gcR, l0]
theorem flat_ones : ∀ row : List Nat, (row.map fun c => [c]).flatten = row
  | [] => rfl
  | c :: r => by
    have := flat_ones r
    simp only [List.map_cons, List.flatten_cons, this]
    rfl
theorem slp_nil (row : List Nat) : slp row [] = row := by
  unfold slp oft
  simp only [List.find?_nil]
  have : ((List.range row.length).map fun i => List.replicate 1 (row.getD i 0)) = row.map fun c => [c] := by
    apply List.ext_getElem?
    intro i
    rw [List.getElem?_map, List.getElem?_map]
    by_cases h : i < row.length
    · rw [List.getElem?_range h, List.getElem?_eq_getElem h]
      simp [h]
    · rw [List.getElem?_eq_none (by simp; omega), List.getElem?_eq_none (by omega)]
      rfl
  rw [this]
  exact flat_ones row
theorem tape0_spec {a b : List Nat} {n : Int} (h : Whl a b n) {row : List Nat} (hr : ∀ c ∈ row, IsPul c) (hl : row.length ≤ 400) (m : Mem) : m_tape [whD a b n, .str row, .tpx []] m = .ok (.str (shw a b n row)) m := by
  have e1 := need_row_spec (s := row) (hi := 400) (by omega) (by omega) hr m
  have e2 : m_slipped [.str row, .tpx []] m = .ok (.str row) m := by
    have := slipped_spec (row := row) (l := []) (by omega) (by simp) m
    rw [slp_nil] at this
    exact this
  have e3 : m_rowed [whD a b n, .tup [.int 0, .str [108], .int 0], .str row] m = .ok (.tup [stD (run a b n st0 row).1, .str (run a b n st0 row).2]) m := rowed_spec h (s := st0) (st0_lt h) hr (by omega) m
  simp [m_tape, b_tape, fnS, need_wheels_spec h m, e1, need_slips0_spec, e2, e3, gcR]
/-! ### prints -/
/-- the stand ahead of the k-th pulse -/
abbrev std (a b : List Nat) (n : Int) (row : List Nat) (k : Nat) : Std := (run a b n st0 (row.take k)).1
/-- what is told of a print -/
def prt (a b : List Nat) (n : Int) (row : List Nat) (k : Nat) : D := .tup [.int k, .int (std a b n row k).p, .str [wc (std a b n row k).f], .str [(if (std a b n row k).f then b else a).getD (std a b n row k).p 0]]
def prs (a b : List Nat) (n : Int) (row : List Nat) (k : Nat) : List D := ((List.range k).filter fun i => row.getD i 0 == 112).map (prt a b n row)
theorem take_succ' {row : List Nat} {k : Nat} (h : k < row.length) : row.take (k + 1) = row.take k ++ [row.getD k 0] := by
  rw [List.take_add_one, List.getElem?_eq_getElem h, List.getD_eq_getElem?_getD, List.getElem?_eq_getElem h]
  rfl
theorem shw_succ {a b : List Nat} {n : Int} {row : List Nat} {k : Nat} (h : k < row.length) : shw a b n (row.take (k + 1)) = shw a b n (row.take k) ++ (pul a b n (std a b n row k) (row.getD k 0)).2 := by
  unfold shw
  rw [take_succ' h, run_append]
  simp [run]
theorem std_succ {a b : List Nat} {n : Int} {row : List Nat} {k : Nat} (h : k < row.length) : std a b n row (k + 1) = (pul a b n (std a b n row k) (row.getD k 0)).1 := by
  unfold std
  rw [take_succ' h, run_append]
  simp [run]
theorem prs_succ {a b : List Nat} {n : Int} {row : List Nat} {k : Nat} : prs a b n row (k + 1) = prs a b n row k ++ (if row.getD k 0 == 112 then [prt a b n row k] else []) := by
  unfold prs
  rw [List.range_succ, List.filter_append, List.map_append]
  congr 1
  by_cases h : row.getD k 0 == 112
  · simp [h, -List.getD_eq_getElem?_getD]
  · simp [h, -List.getD_eq_getElem?_getD]
theorem get_last (t : List Nat) (c : Nat) (m : Mem) : LW.getD m (.str (t ++ [c])) (.int (-1)) = some (.str [c]) := by
  have e : ixD (t ++ [c]).length (-1) = some t.length := by
    unfold ixD
    rw [if_neg (by omega), if_pos (by simp; omega)]
    congr 1
    simp
    omega
  simp only [LW.getD, e, Option.bind_some]
  simp
theorem row_pul {row : List Nat} (hr : ∀ c ∈ row, IsPul c) {i : Nat} (hi : i < row.length) : IsPul (row.getD i 0) := hr _ (by rw [List.getD_eq_getElem?_getD, List.getElem?_eq_getElem hi]; exact List.getElem_mem hi)
theorem take_pul {row : List Nat} (hr : ∀ c ∈ row, IsPul c) (i : Nat) : ∀ c ∈ row.take i, IsPul c := fun c hc => hr c (List.mem_of_mem_take hc)
theorem rowed_first {a b : List Nat} {n : Int} (h : Whl a b n) {row : List Nat} (hr : ∀ c ∈ row, IsPul c) (hl : row.length ≤ 10000) (m : Mem) : m_rowed [whD a b n, .tup [.int 0, .str [108], .int 0], .str row] m = .ok (.tup [stD (run a b n st0 row).1, .str (run a b n st0 row).2]) m := rowed_spec h (s := st0) (st0_lt h) hr hl m
theorem prs_len {a b : List Nat} {n : Int} {row : List Nat} (k : Nat) : (prs a b n row k).length ≤ k := by
  unfold prs
  rw [List.length_map]
  exact Nat.le_trans (List.length_filter_le _ _) (by simp)
theorem tg2_0 (m : Mem) (x y : D) : LW.getD m (.tup [x, y]) (.int 0) = some x := by simp
theorem tg2_1 (m : Mem) (x y : D) : LW.getD m (.tup [x, y]) (.int 1) = some y := by simp
theorem tg3_0 (m : Mem) (x y z : D) : LW.getD m (.tup [x, y, z]) (.int 0) = some x := by simp
theorem tg3_1 (m : Mem) (x y z : D) : LW.getD m (.tup [x, y, z]) (.int 1) = some y := by simp
theorem tg3_2 (m : Mem) (x y z : D) : LW.getD m (.tup [x, y, z]) (.int 2) = some z := by simp
theorem clL_all {n : Nat} : ∀ {ds : List D}, (∀ d ∈ ds, D.cl n d = true) → D.clL n ds = true
  | [], _ => rfl
  | d :: ds, h => by simp [D.clL, h d (by simp), clL_all fun e he => h e (List.mem_cons_of_mem _ he)]
theorem prs_cl {a b : List Nat} {n : Int} {row : List Nat} (k q : Nat) : D.clL q (prs a b n row k) = true := clL_all fun d hd => by
  unfold prs at hd
  obtain ⟨i, _, rfl⟩ := List.mem_map.mp hd
  simp [prt, D.cl, D.clL]
theorem gc_frozen {r : Mem} {d : D} {o : MO} (hd : d.cl r.length = true) (hc : ∀ x ∈ r, MO.cl r.length x = true) : gcR r.length d (r ++ [o]) = .ok d r := by
  unfold gcR
  rw [if_neg (by simp), if_pos]
  · simp
  · simp only [hd, Bool.true_and, List.take_left', List.all_eq_true]
    simpa using hc
theorem prints_spec {a b : List Nat} {n : Int} (h : Whl a b n) {row : List Nat} (hr : ∀ c ∈ row, IsPul c) (hl : row.length ≤ 60) {r : Mem} (hc : ∀ x ∈ r, MO.cl r.length x = true) : m_prints [whD a b n, .str row] r = .ok (.lst (prs a b n row row.length)) r := by
  have e1 := need_both_spec h hl hr r
  have c4 : 4 ≤ lim := by unfold lim; omega
  let I : Nat → Env → Mem → Prop := fun i g m => ∃ x3 x4, g = [some (whD a b n), some (.str row), some (.ref r.length), x3, x4] ∧ m = r ++ [.lst (prs a b n row i)]
  have loop := forL_inv (t := nmG 3) (b := ifS (tE (opE eqD (opE LW.getD (vE 1) (vE 3)) (cE (.str [112])))) (seqS (asgS (nmG 4) (opE LW.getD (callE m_rowed (consA (vE 0) (consA (cE (.tup [(.int 0), (.str [108]), (.int 0)])) (consA (slE slD (vE 1) noO (someO (vE 3))) nilA)))) (cE (.int 0))))
    (exS (mtE appM (vE 2) (consA (tupE (consA (vE 3) (consA (opE LW.getD (vE 4) (cE (.int 0))) (consA (opE LW.getD (vE 4) (cE (.int 1))) (consA (opE LW.getD (callE m_shown_by (consA (vE 0) (consA (slE slD (vE 1) noO (someO (opE addD (vE 3) (cE (.int 1))))) nilA))) (unE negD (cE (.int 1)))) nilA))))) nilA)))) nxS)
    (ds := (List.range row.length).map fun (k : Nat) => D.int k) I ?step (g := [some (whD a b n), some (.str row), some (.ref r.length), none, none]) (m := r ++ [.lst []]) ⟨none, none, rfl, rfl⟩
  case step =>
    rintro i d g m hd ⟨x3, x4, rfl, rfl⟩
    have hi : i < row.length := by
      have := (List.getElem?_eq_some_iff.mp hd).1
      simpa using this
    have hde : d = .int i := by
      rw [List.getElem?_map, List.getElem?_range hi] at hd
      exact (Option.some.inj hd).symm
    subst hde
    have gs := get_sign hi (r ++ [.lst (prs a b n row i)])
    have m0 : (r ++ [MO.lst (prs a b n row i)])[r.length]? = some (.lst (prs a b n row i)) := by simp
    have hgl : (prs a b n row i).length < lim := by have := prs_len (a := a) (b := b) (n := n) (row := row) i; unfold lim; omega
    have e2 := rowed_first h (take_pul hr i) (by simp; omega) (r ++ [.lst (prs a b n row i)])
    have e3 := shown_by_spec h (take_pul hr (i + 1)) (by simp; omega) (r ++ [.lst (prs a b n row i)])
    rw [shw_succ hi] at e3
    by_cases hq : row.getD i 0 = 112
    · have ep : (pul a b n (std a b n row i) (row.getD i 0)).2 = [(if (std a b n row i).f then b else a).getD (std a b n row i).p 0] := by rw [hq]; simp [pul]
      rw [ep] at e3
      have gl := get_last (shw a b n (row.take i)) ((if (std a b n row i).f then b else a).getD (std a b n row i).p 0) (r ++ [.lst (prs a b n row i)])
      have ps : prs a b n row (i + 1) = prs a b n row i ++ [prt a b n row i] := by rw [prs_succ, hq]; simp
      refine ⟨_, _, rfl, .nx [some (whD a b n), some (.str row), some (.ref r.length), some (.int i), some (stD (std a b n row i))], r ++ [.lst (prs a b n row (i + 1))], ?_, _, .inl rfl, some (.int i), some (stD (std a b n row i)), rfl, rfl⟩
      rw [ps]
      rw [hq] at gs
      simp only [ifS, tE, opE, vE, cE, nmG, List.set_cons_succ, List.set_cons_zero, List.getElem?_cons_succ, List.getElem?_cons_zero, R.bind_ok, gs, opt_some, eqD, D.now, sh_str, Bool.and_self, if_true, eqv_str, beq_self_eq_true, asB]
      simp [e2, e3, gl, c4, hgl, prt, tg2_0, tg2_1, tg3_0, tg3_1, -List.getD_eq_getElem?_getD, -LW.getD]
    · have ps : prs a b n row (i + 1) = prs a b n row i := by rw [prs_succ]; simp [hq, -List.getD_eq_getElem?_getD]
      refine ⟨_, _, rfl, .nx [some (whD a b n), some (.str row), some (.ref r.length), some (.int i), x4], r ++ [.lst (prs a b n row (i + 1))], ?_, _, .inl rfl, some (.int i), x4, rfl, rfl⟩
      rw [ps]
      have hq' : ([row.getD i 0] == [112]) = false := by simp [hq, -List.getD_eq_getElem?_getD]
      simp only [ifS, tE, opE, vE, cE, nmG, List.set_cons_succ, List.set_cons_zero, List.getElem?_cons_succ, List.getElem?_cons_zero, R.bind_ok, gs, opt_some, eqD, D.now, sh_str, Bool.and_self, if_true, eqv_str, hq', asB]
      simp
  obtain ⟨g', m', e, x3, x4, rfl, rfl⟩ := loop
  simp only [List.length_map, List.length_range] at e
  have hin : inR (row.length : Int) = true := inR_nat (by omega)
  have l0 : 0 ≤ lim := by unfold lim; omega
  simp only [m_prints, b_prints, fnS]
  simp [e1, hin, e, l0]
  exact gc_frozen (by simp [D.cl, prs_cl]) hc
end LW
namespace LW
/-- a step that does nothing -/
def isC (a b : List Nat) (n : Int) (row : List Nat) (i : Nat) : Bool := (row.getD i 0 == 115) && D.eqv (stD (std a b n row (i + 1))) (stD (std a b n row i))
def cts (a b : List Nat) (n : Int) (row : List Nat) (k : Nat) : List D := ((List.range k).filter (isC a b n row)).map fun (i : Nat) => D.int i
theorem cts_succ {a b : List Nat} {n : Int} {row : List Nat} {k : Nat} : cts a b n row (k + 1) = cts a b n row k ++ (if isC a b n row k then [.int k] else []) := by
  unfold cts
  rw [List.range_succ, List.filter_append, List.map_append]
  congr 1
  cases h : isC a b n row k <;> simp [h]
theorem cts_len {a b : List Nat} {n : Int} {row : List Nat} (k : Nat) : (cts a b n row k).length ≤ k := by
  unfold cts
  rw [List.length_map]
  exact Nat.le_trans (List.length_filter_le _ _) (by simp)
theorem cts_cl {a b : List Nat} {n : Int} {row : List Nat} (k q : Nat) : D.clL q (cts a b n row k) = true := clL_all fun d hd => by
  unfold cts at hd
  obtain ⟨i, _, rfl⟩ := List.mem_map.mp hd
  simp [D.cl]
theorem caught_at_spec {a b : List Nat} {n : Int} (h : Whl a b n) {row : List Nat} (hr : ∀ c ∈ row, IsPul c) (hl : row.length ≤ 60) {r : Mem} (hc : ∀ x ∈ r, MO.cl r.length x = true) : m_caught_at [whD a b n, .str row] r = .ok (.lst (cts a b n row row.length)) r := by
  have e1 := need_both_spec h hl hr r
  let I : Nat → Env → Mem → Prop := fun i g m => ∃ x3 x4, g = [some (whD a b n), some (.str row), some (.ref r.length), x3, x4] ∧ m = r ++ [.lst (cts a b n row i)]
  have loop := forL_inv (t := nmG 3) (b := seqS (asgS (nmG 4) (opE LW.getD (callE m_rowed (consA (vE 0) (consA (cE (.tup [(.int 0), (.str [108]), (.int 0)])) (consA (slE slD (vE 1) noO (someO (vE 3))) nilA)))) (cE (.int 0))))
    (ifS (andT (tE (opE eqD (opE LW.getD (vE 1) (vE 3)) (cE (.str [115])))) (tE (opE eqD (opE LW.getD (callE m_rowed (consA (vE 0) (consA (cE (.tup [(.int 0), (.str [108]), (.int 0)])) (consA (slE slD (vE 1) noO (someO (opE addD (vE 3) (cE (.int 1))))) nilA)))) (cE (.int 0))) (vE 4)))) (exS (mtE appM (vE 2) (consA (vE 3) nilA))) nxS))
    (ds := (List.range row.length).map fun (k : Nat) => D.int k) I ?step (g := [some (whD a b n), some (.str row), some (.ref r.length), none, none]) (m := r ++ [.lst []]) ⟨none, none, rfl, rfl⟩
  case step =>
    rintro i d g m hd ⟨x3, x4, rfl, rfl⟩
    have hi : i < row.length := by
      have := (List.getElem?_eq_some_iff.mp hd).1
      simpa using this
    have hde : d = .int i := by
      rw [List.getElem?_map, List.getElem?_range hi] at hd
      exact (Option.some.inj hd).symm
    subst hde
    have gs := get_sign hi (r ++ [.lst (cts a b n row i)])
    have m0 : (r ++ [MO.lst (cts a b n row i)])[r.length]? = some (.lst (cts a b n row i)) := by simp
    have hgl : (cts a b n row i).length < lim := by have := cts_len (a := a) (b := b) (n := n) (row := row) i; unfold lim; omega
    have e2 := rowed_first h (take_pul hr i) (by simp; omega) (r ++ [.lst (cts a b n row i)])
    have e3 := rowed_first h (take_pul hr (i + 1)) (by simp; omega) (r ++ [.lst (cts a b n row i)])
    refine ⟨_, _, rfl, .nx [some (whD a b n), some (.str row), some (.ref r.length), some (.int i), some (stD (std a b n row i))], r ++ [.lst (cts a b n row (i + 1))], ?_, _, .inl rfl, some (.int i), some (stD (std a b n row i)), rfl, rfl⟩
    rw [cts_succ]
    by_cases hq : row.getD i 0 = 115
    · rw [hq] at gs
      have hC : isC a b n row i = D.eqv (stD (std a b n row (i + 1))) (stD (std a b n row i)) := by unfold isC; rw [hq]; simp
      cases hE : D.eqv (stD (std a b n row (i + 1))) (stD (std a b n row i))
      · rw [hC, hE]
        simp [e2, e3, gs, tg2_0, -List.getD_eq_getElem?_getD, -LW.getD, -eqv_tup, hE]
      · rw [hC, hE]
        simp [e2, e3, gs, tg2_0, -List.getD_eq_getElem?_getD, -LW.getD, -eqv_tup, hE, hgl]
    · have hC : isC a b n row i = false := by unfold isC; simp [hq, -List.getD_eq_getElem?_getD]
      have hq' : ([row.getD i 0] == [115]) = false := by simp [hq, -List.getD_eq_getElem?_getD]
      rw [hC]
      simp [e2, gs, tg2_0, hq', -List.getD_eq_getElem?_getD, -LW.getD]
      try simp [hq]
  obtain ⟨g', m', e, x3, x4, rfl, rfl⟩ := loop
  simp only [List.length_map, List.length_range] at e
  have hin : inR (row.length : Int) = true := inR_nat (by omega)
  have l0 : 0 ≤ lim := by unfold lim; omega
  simp only [m_caught_at, b_caught_at, fnS]
  simp [e1, hin, e, l0]
  exact gc_frozen (by simp [D.cl, cts_cl]) hc
end LW
namespace LW
def isS (a b : List Nat) (n : Int) (row : List Nat) (i : Nat) (w : Bool) : Bool := shw a b n (slp row [(i, w)]) == shw a b n row
def sf1 (a b : List Nat) (n : Int) (row : List Nat) (i : Nat) : List D := (if isS a b n row i false then [slD1 (i, false)] else []) ++ (if isS a b n row i true then [slD1 (i, true)] else [])
def sfs (a b : List Nat) (n : Int) (row : List Nat) : Nat → List D
  | 0 => []
  | k + 1 => sfs a b n row k ++ sf1 a b n row k
theorem sf1_len {a b : List Nat} {n : Int} {row : List Nat} (i : Nat) : (sf1 a b n row i).length ≤ 2 := by
  unfold sf1
  split <;> split <;> simp
theorem sfs_len {a b : List Nat} {n : Int} {row : List Nat} : ∀ k, (sfs a b n row k).length ≤ 2 * k
  | 0 => by simp [sfs]
  | k + 1 => by
    have h1 := sfs_len (a := a) (b := b) (n := n) (row := row) k
    have h2 := sf1_len (a := a) (b := b) (n := n) (row := row) k
    simp only [sfs, List.length_append]
    omega
theorem sfs_cl {a b : List Nat} {n : Int} {row : List Nat} (q : Nat) : ∀ k, D.clL q (sfs a b n row k) = true := fun k => clL_all fun d hd => by
  induction k with
  | zero => simp [sfs] at hd
  | succ k ih =>
    simp only [sfs, List.mem_append] at hd
    rcases hd with hd | hd
    · exact ih hd
    · unfold sf1 at hd
      rcases List.mem_append.mp hd with hd | hd
      · split at hd
        · rw [List.mem_singleton.mp hd]; simp [D.cl, D.clL]
        · simp at hd
      · split at hd
        · rw [List.mem_singleton.mp hd]; simp [D.cl, D.clL]
        · simp at hd
theorem slp_pul {row : List Nat} (hr : ∀ c ∈ row, IsPul c) (l : List (Nat × Bool)) : ∀ c ∈ slp row l, IsPul c := fun c hc => by
  unfold slp at hc
  obtain ⟨x, hx, hc⟩ := List.mem_flatten.mp hc
  obtain ⟨i, hi, rfl⟩ := List.mem_map.mp hx
  rw [List.eq_of_mem_replicate hc]
  exact row_pul hr (List.mem_range.mp hi)
theorem slp_len (row : List Nat) (l : List (Nat × Bool)) : (slp row l).length ≤ 2 * row.length := by
  unfold slp
  have hb : ∀ is : List Nat, ((is.map fun i => List.replicate (oft l i) (row.getD i 0)).flatten).length ≤ 2 * is.length := fun is => by
    induction is with
    | nil => simp
    | cons x r ih =>
      have ho := oft_le l x
      simp only [List.map_cons, List.flatten_cons, List.length_append, List.length_replicate, List.length_cons] at ih ⊢
      omega
  have := hb (List.range row.length)
  simpa using this
theorem safe_slips_spec {a b : List Nat} {n : Int} (h : Whl a b n) {row : List Nat} (hr : ∀ c ∈ row, IsPul c) (hl : row.length ≤ 60) {r : Mem} (hc : ∀ x ∈ r, MO.cl r.length x = true) : m_safe_slips [whD a b n, .str row] r = .ok (.lst (sfs a b n row row.length)) r := by
  have e1 := need_both_spec h hl hr r
  have e0 := shown_by_spec h hr (by omega) r
  have c1 : 1 ≤ lim := by unfold lim; omega
  have c2 : 2 ≤ lim := by unfold lim; omega
  let I : Nat → Env → Mem → Prop := fun i g m => ∃ x4 x5, g = [some (whD a b n), some (.str row), some (.str (shw a b n row)), some (.ref r.length), x4, x5, none, none] ∧ m = r ++ [.lst (sfs a b n row i)]
  have loop := forL_inv (t := nmG 4) (b := seqS (asgS (nmG 5) (lcE (itA (cE (.tup [(.str [108, 111, 115, 116]), (.str [116, 119, 105, 99, 101])]))) [6] (nmG 6) yesT (noX (tupE (consA (vE 4) (consA (vE 6) nilA))))))
    (exS (mtE extM (vE 3) (consA (lcE (itA (vE 5)) [7] (nmG 7) (noXT (tE (opE eqD (callE m_shown_by (consA (vE 0) (consA (callE m_slipped (consA (vE 1) (consA (tpxE (consA (vE 7) nilA)) nilA))) nilA))) (vE 2)))) (noX (vE 7))) nilA))))
    (ds := (List.range row.length).map fun (k : Nat) => D.int k) I ?step (g := [some (whD a b n), some (.str row), some (.str (shw a b n row)), some (.ref r.length), none, none, none, none]) (m := r ++ [.lst []]) ⟨none, none, rfl, rfl⟩
  case step =>
    rintro i d g m hd ⟨x4, x5, rfl, rfl⟩
    have hi : i < row.length := by
      have := (List.getElem?_eq_some_iff.mp hd).1
      simpa using this
    have hde : d = .int i := by
      rw [List.getElem?_map, List.getElem?_range hi] at hd
      exact (Option.some.inj hd).symm
    subst hde
    have hgl : (sfs a b n row i).length + (sf1 a b n row i).length ≤ lim := by
      have h1 := sfs_len (a := a) (b := b) (n := n) (row := row) i
      have h2 := sf1_len (a := a) (b := b) (n := n) (row := row) i
      unfold lim; omega
    have s0 : m_slipped [.str row, .tpx [.tup [.int i, .str [108, 111, 115, 116]]]] (r ++ [.lst (sfs a b n row i)]) = .ok (.str (slp row [(i, false)])) (r ++ [.lst (sfs a b n row i)]) := slipped_spec (l := [(i, false)]) (by omega) (by simp) _
    have s1 : m_slipped [.str row, .tpx [.tup [.int i, .str [116, 119, 105, 99, 101]]]] (r ++ [.lst (sfs a b n row i)]) = .ok (.str (slp row [(i, true)])) (r ++ [.lst (sfs a b n row i)]) := slipped_spec (l := [(i, true)]) (by omega) (by simp) _
    have t0 := shown_by_spec h (slp_pul hr [(i, false)]) (by have := slp_len row [(i, false)]; omega) (r ++ [.lst (sfs a b n row i)])
    have t1 := shown_by_spec h (slp_pul hr [(i, true)]) (by have := slp_len row [(i, true)]; omega) (r ++ [.lst (sfs a b n row i)])
    refine ⟨_, _, rfl, .nx [some (whD a b n), some (.str row), some (.str (shw a b n row)), some (.ref r.length), some (.int i), some (.lst [.tup [.int i, .str [108, 111, 115, 116]], .tup [.int i, .str [116, 119, 105, 99, 101]]]), none, none], r ++ [.lst (sfs a b n row (i + 1))], ?_, _, .inl rfl, some (.int i), _, rfl, rfl⟩
    unfold sf1 at hgl
    cases q0 : isS a b n row i false <;> cases q1 : isS a b n row i true <;> rw [q0, q1] at hgl <;> unfold isS at q0 q1 <;> simp at hgl <;> simp [lcL, s0, s1, t0, t1, q0, q1, c1, c2, sfs, sf1, isS, hgl, wd]
  obtain ⟨g', m', e, x4, x5, rfl, rfl⟩ := loop
  simp only [List.length_map, List.length_range] at e
  have hin : inR (row.length : Int) = true := inR_nat (by omega)
  have l0 : 0 ≤ lim := by unfold lim; omega
  simp only [m_safe_slips, b_safe_slips, fnS]
  simp [e1, e0, hin, e, l0]
  exact gc_frozen (by simp [D.cl, sfs_cl]) hc
end LW
namespace LW
/-! ### k29's own reckoning -/
/-- what the law keeps -/
def kpt (a b : List Nat) (n : Int) (row : List Nat) : Nat → List Nat
  | 0 => []
  | k + 1 => if shw a b n (kpt a b n row k ++ row.drop (k + 1)) = shw a b n row then kpt a b n row k else kpt a b n row k ++ [row.getD k 0]
theorem kpt_len {a b : List Nat} {n : Int} {row : List Nat} : ∀ k, (kpt a b n row k).length ≤ k
  | 0 => by simp [kpt]
  | k + 1 => by
    have := kpt_len (a := a) (b := b) (n := n) (row := row) k
    unfold kpt
    split
    · omega
    · simp; omega
theorem kpt_pul {a b : List Nat} {n : Int} {row : List Nat} (hr : ∀ c ∈ row, IsPul c) : ∀ k, k ≤ row.length → ∀ c ∈ kpt a b n row k, IsPul c
  | 0, _, c, hc => by simp [kpt] at hc
  | k + 1, hk, c, hc => by
    unfold kpt at hc
    split at hc
    · exact kpt_pul hr k (by omega) c hc
    · rcases List.mem_append.mp hc with q | q
      · exact kpt_pul hr k (by omega) c q
      · rw [List.mem_singleton.mp q]; exact row_pul hr (by omega)
theorem drop_cons' {row : List Nat} {k : Nat} (h : k < row.length) : row.drop k = row.getD k 0 :: row.drop (k + 1) := by
  rw [List.drop_eq_getElem_cons h, List.getD_eq_getElem?_getD, List.getElem?_eq_getElem h]
  rfl
theorem cut_kpt {K row : List Nat} {k : Nat} (h : k < row.length) : cutAt (K ++ row.drop k) K.length = K ++ row.drop (k + 1) := by
  unfold cutAt
  rw [List.take_left, drop_cons' h, List.drop_append]
  simp
theorem thin_kpt {a b : List Nat} {n : Int} {row : List Nat} : ∀ (f k : Nat), k ≤ row.length → row.length - k < f → thin a b n (shw a b n row) f (kpt a b n row k ++ row.drop k) (kpt a b n row k).length = kpt a b n row row.length
  | 0, k, _, hf => by omega
  | f + 1, k, hk, hf => by
    unfold thin
    by_cases h : k < row.length
    · rw [if_pos (by simp; omega), cut_kpt h]
      by_cases q : shw a b n (kpt a b n row k ++ row.drop (k + 1)) = shw a b n row
      · rw [if_pos q]
        have ih := thin_kpt (a := a) (b := b) (n := n) (row := row) f (k + 1) h (by omega)
        rw [show kpt a b n row (k + 1) = kpt a b n row k by rw [kpt, if_pos q]] at ih
        exact ih
      · rw [if_neg q]
        have ih := thin_kpt (a := a) (b := b) (n := n) (row := row) f (k + 1) h (by omega)
        rw [show kpt a b n row (k + 1) = kpt a b n row k ++ [row.getD k 0] by rw [kpt, if_neg q]] at ih
        rw [drop_cons' h]
        simpa using ih
    · have e : k = row.length := by omega
      rw [if_neg (by simp; omega), e]
      simp
theorem thn_kpt {a b : List Nat} {n : Int} {row : List Nat} (hl : row.length ≤ 60) : thn a b n row = kpt a b n row row.length := thin_kpt (a := a) (b := b) (n := n) (row := row) 61 0 (Nat.zero_le _) (by omega)
theorem thin_shw {a b : List Nat} {n : Int} {text : List Nat} : ∀ (f : Nat) (made : List Nat) (k : Nat), shw a b n made = text → shw a b n (thin a b n text f made k) = text
  | 0, made, k, h => h
  | f + 1, made, k, h => by
    unfold thin
    split
    · split
      · rename_i q; exact thin_shw f _ _ q
      · exact thin_shw f _ _ h
    · exact h
theorem thin_len {a b : List Nat} {n : Int} {text : List Nat} : ∀ (f : Nat) (made : List Nat) (k : Nat), (thin a b n text f made k).length ≤ made.length
  | 0, made, k => Nat.le_refl _
  | f + 1, made, k => by
    unfold thin
    split
    · split
      · exact Nat.le_trans (thin_len f _ _) cutAt_len
      · exact thin_len f _ _
    · exact Nat.le_refl _
end LW
namespace LW
/-- one slip, put into the row -/
theorem slp_one {row : List Nat} {k : Nat} {w : Bool} (h : k < row.length) : slp row [(k, w)] = row.take k ++ List.replicate (if w then 2 else 0) (row.getD k 0) ++ row.drop (k + 1) := by
  have key : ∀ (r : List Nat) (off : Nat) (g : Nat → Nat), (∀ i, i < r.length → g (off + i) = r.getD i 0) → ∀ j, (((List.range r.length).map fun i => List.replicate (oft [(j, w)] (off + i)) (g (off + i))).flatten) = if off ≤ j ∧ j < off + r.length then r.take (j - off) ++ List.replicate (if w then 2 else 0) (g j) ++ r.drop (j - off + 1) else r := by
    intro r
    induction r with
    | nil => intro off g _ j; simp; intro h1 h2; omega
    | cons c r ih =>
      intro off g hg j
      have hg' : ∀ i, i < r.length → g (off + 1 + i) = r.getD i 0 := fun i hi => by
        have := hg (i + 1) (by simp; omega)
        rw [show off + 1 + i = off + (i + 1) by omega, this]
        simp
      have hc : g off = c := by have := hg 0 (by simp); simpa using this
      have ih := ih (off + 1) g hg' j
      rw [List.length_cons, List.range_succ_eq_map, List.map_cons, List.flatten_cons, List.map_map]
      have e : ((fun i => List.replicate (oft [(j, w)] (off + i)) (g (off + i))) ∘ Nat.succ) = fun i => List.replicate (oft [(j, w)] (off + 1 + i)) (g (off + 1 + i)) := by
        funext i
        simp only [Function.comp, Nat.succ_eq_add_one]
        rw [show off + (i + 1) = off + 1 + i by omega]
      rw [e, ih]
      simp only [Nat.add_zero, hc]
      by_cases hj : j = off
      · subst hj
        have h1 : oft [(j, w)] j = if w then 2 else 0 := by simp [oft]
        have c1 : ¬ (j + 1 ≤ j ∧ j < j + 1 + r.length) := by omega
        have c2 : j ≤ j ∧ j < j + (r.length + 1) := by omega
        rw [h1, if_neg c1, if_pos c2]
        simp [hc]
      · have h1 : oft [(j, w)] off = 1 := by
          unfold oft
          rw [List.find?_cons]
          simp [hj]
        rw [h1]
        by_cases hin : off ≤ j ∧ j < off + (r.length + 1)
        · have c1 : off + 1 ≤ j ∧ j < off + 1 + r.length := by omega
          rw [if_pos hin, if_pos c1]
          obtain ⟨q, hq⟩ : ∃ q, j - off = q + 1 := ⟨j - off - 1, by omega⟩
          rw [hq, show j - (off + 1) = q by omega]
          simp
        · have c1 : ¬ (off + 1 ≤ j ∧ j < off + 1 + r.length) := by omega
          rw [if_neg hin, if_neg c1]
          simp
  have := key row 0 (fun i => row.getD i 0) (fun i _ => by simp) k
  simp only [Nat.zero_add, Nat.zero_le, true_and, h, if_true, Nat.sub_zero] at this
  unfold slp
  exact this
/-- the signs of all prints are the tape -/
def sgn (d : D) : D := match d with | .tup [_, _, _, s] => s | _ => .non
theorem signs_shw {a b : List Nat} {n : Int} {row : List Nat} (hr : ∀ c ∈ row, IsPul c) : ∀ k, k ≤ row.length → (prs a b n row k).map sgn = (shw a b n (row.take k)).map fun c => D.str [c]
  | 0, _ => by simp [prs, shw, run]
  | k + 1, hk => by
    have ih := signs_shw (a := a) (b := b) (n := n) hr k (by omega)
    rw [prs_succ, shw_succ (by omega), List.map_append, List.map_append, ih]
    congr 1
    by_cases hq : row.getD k 0 = 112
    · rw [hq]
      simp [pul, prt, sgn]
    · have hp := row_pul hr (show k < row.length by omega)
      have e : (pul a b n (std a b n row k) (row.getD k 0)).2 = [] := by
        unfold pul
        split
        · split <;> rfl
        · rfl
      rw [e]
      simp [hq, -List.getD_eq_getElem?_getD]
end LW
namespace LW
@[simp] theorem eqv_bl (a b : Bool) : D.eqv (.bl a) (.bl b) = (a == b) := by simp [D.eqv]
/-! ### loops and blocks, by what they are for -/
/-- a block that ends with a value or runs through -/
def Wp (s : Sm) (g : Env) (m : Mem) (Q : Out → Mem → Prop) : Prop := ∃ o m1, s g m = .ok o m1 ∧ Q o m1
theorem Wp_of {s : Sm} {g : Env} {m m1 : Mem} {o : Out} {Q : Out → Mem → Prop} (h : s g m = .ok o m1) (q : Q o m1) : Wp s g m Q := ⟨o, m1, h, q⟩
theorem Wp_seq {a b : Sm} {g g1 : Env} {m m1 : Mem} {Q : Out → Mem → Prop} (h : a g m = .ok (.nx g1) m1) (h2 : Wp b g1 m1 Q) : Wp (seqS a b) g m Q := by
  obtain ⟨o, m2, e, q⟩ := h2
  exact ⟨o, m2, by rw [seqS_eq, h, R.bind_ok]; exact e, q⟩
/-- a loop: each turn goes on, or ends the block -/
theorem forL_wp {t : Tg} {b : Sm} {ds : List D} {Q : Out → Mem → Prop} (I : Nat → Env → Mem → Prop)
    (step : ∀ i d g m, ds[i]? = some d → I i g m → ∃ g1 m1, t d g m = .ok g1 m1 ∧ ∃ o m2, b g1 m1 = .ok o m2 ∧ match o with | .nx g2 => I (i + 1) g2 m2 | .ct g2 => I (i + 1) g2 m2 | .bk g2 => Q (.nx g2) m2 | .rt d => Q (.rt d) m2)
    (fin : ∀ g m, I ds.length g m → Q (.nx g) m) {g : Env} {m : Mem} (h0 : I 0 g m) : ∃ o m', forL t b ds g m = .ok o m' ∧ Q o m' := by
  suffices H : ∀ (es : List D) (i : Nat) (g : Env) (m : Mem), ds.drop i = es → i ≤ ds.length → I i g m → ∃ o m', forL t b es g m = .ok o m' ∧ Q o m' from H ds 0 g m rfl (Nat.zero_le _) h0
  intro es
  induction es with
  | nil =>
    intro i g m e hi h
    have : i = ds.length := by
      have := congrArg List.length e
      simp at this
      omega
    subst this
    exact ⟨.nx g, m, rfl, fin g m h⟩
  | cons d es ih =>
    intro i g m e hi h
    have hlt : i < ds.length := by
      have := congrArg List.length e
      simp at this
      omega
    have hd : ds[i]? = some d := by
      have := List.getElem?_drop (xs := ds) (i := i) (j := 0)
      rw [e] at this
      simpa using this.symm
    obtain ⟨g1, m1, e1, o, m2, e2, ho⟩ := step i d g m hd h
    have e3 : ds.drop (i + 1) = es := by
      rw [← List.drop_drop, e]
      rfl
    cases o with
    | nx g2 =>
      obtain ⟨o', m', e4, h4⟩ := ih (i + 1) g2 m2 e3 hlt ho
      exact ⟨o', m', by rw [forL_cons, e1, R.bind_ok, e2, R.bind_ok]; exact e4, h4⟩
    | ct g2 =>
      obtain ⟨o', m', e4, h4⟩ := ih (i + 1) g2 m2 e3 hlt ho
      exact ⟨o', m', by rw [forL_cons, e1, R.bind_ok, e2, R.bind_ok]; exact e4, h4⟩
    | bk g2 => exact ⟨.nx g2, m2, by rw [forL_cons, e1, R.bind_ok, e2, R.bind_ok], ho⟩
    | rt x => exact ⟨.rt x, m2, by rw [forL_cons, e1, R.bind_ok, e2, R.bind_ok], ho⟩
/-- for, then the rest; no turn ends the block -/
theorem Rt_for {it : Ar} {t : Tg} {b c : Sm} {g : Env} {m m1 : Mem} {ds : List D} {d : D} (I : Nat → Env → Mem → Prop) (hit : it g m = .ok ds m1) (h0 : I 0 g m1)
    (step : ∀ i d g m, ds[i]? = some d → I i g m → ∃ g1 m1, t d g m = .ok g1 m1 ∧ ∃ g2 m2, b g1 m1 = .ok (.nx g2) m2 ∧ I (i + 1) g2 m2) (fin : ∀ g m, I ds.length g m → Rt c g m d) : Rt (seqS (forS it t b) c) g m d := by
  obtain ⟨g', m', e, h⟩ := forL_inv I (fun i d g m hd h => by
    obtain ⟨g1, m1, e1, g2, m2, e2, h2⟩ := step i d g m hd h
    exact ⟨g1, m1, e1, .nx g2, m2, e2, g2, .inl rfl, h2⟩) h0
  exact Rt_seq (for_nx hit e) (fin g' m' h)
/-- what is wanted behind a turn -/
def stQ (J : Env → Mem → Prop) (Q : Out → Mem → Prop) : Out → Mem → Prop := fun o m => match o with | .nx g => J g m | .ct g => J g m | .bk g => Q (.nx g) m | .rt d => Q (.rt d) m
def sqQ (b : Sm) (Q : Out → Mem → Prop) : Out → Mem → Prop := fun o m => match o with | .nx g => Wp b g m Q | o => Q o m
theorem Wp_bind {a b : Sm} {g : Env} {m : Mem} {Q : Out → Mem → Prop} (h : Wp a g m (sqQ b Q)) : Wp (seqS a b) g m Q := by
  obtain ⟨o, m1, e, q⟩ := h
  cases o with
  | nx g1 =>
    obtain ⟨o2, m2, e2, q2⟩ := q
    exact ⟨o2, m2, by rw [seqS_eq, e, R.bind_ok]; exact e2, q2⟩
  | rt d => exact ⟨.rt d, m1, by rw [seqS_eq, e, R.bind_ok], q⟩
  | bk g1 => exact ⟨.bk g1, m1, by rw [seqS_eq, e, R.bind_ok], q⟩
  | ct g1 => exact ⟨.ct g1, m1, by rw [seqS_eq, e, R.bind_ok], q⟩
theorem Wp.imp {s : Sm} {g : Env} {m : Mem} {Q Q' : Out → Mem → Prop} (h : Wp s g m Q) (f : ∀ o m, Q o m → Q' o m) : Wp s g m Q' := by
  obtain ⟨o, m1, e, q⟩ := h
  exact ⟨o, m1, e, f _ _ q⟩
/-- for: each turn goes on, or ends the block -/
theorem Wp_for {it : Ar} {t : Tg} {b : Sm} {g : Env} {m m1 : Mem} {ds : List D} {Q : Out → Mem → Prop} (I : Nat → Env → Mem → Prop) (hit : it g m = .ok ds m1) (h0 : I 0 g m1)
    (step : ∀ i d g m, ds[i]? = some d → I i g m → ∃ g1 m1, t d g m = .ok g1 m1 ∧ Wp b g1 m1 (stQ (I (i + 1)) Q)) (fin : ∀ g m, I ds.length g m → Q (.nx g) m) : Wp (forS it t b) g m Q := by
  obtain ⟨o, m', e, h⟩ := forL_wp (b := b) (t := t) (Q := Q) I (fun i d g m hd h => by
    obtain ⟨g1, m1, e1, o, m2, e2, q⟩ := step i d g m hd h
    refine ⟨g1, m1, e1, o, m2, e2, ?_⟩
    cases o <;> exact q) fin h0
  exact ⟨o, m', by simp only [forS, hit, R.bind_ok]; exact e, h⟩
/-- while, with a measure -/
theorem whileL_wp {c : Ts} {b : Sm} {Q : Out → Mem → Prop} (I : Nat → Env → Mem → Prop)
    (step : ∀ n g m, I n g m → ∃ x m1, c g m = .ok x m1 ∧ if x then Wp b g m1 (stQ (fun g2 m2 => ∃ n', n' < n ∧ I n' g2 m2) Q) else Q (.nx g) m1) : ∀ (n N : Nat) (g : Env) (m : Mem), n < N → I n g m → ∃ o m', whileL c b N g m = .ok o m' ∧ Q o m' := by
  intro n
  induction n using Nat.strongRecOn with
  | ind n ih =>
    intro N g m hN h
    cases N with
    | zero => omega
    | succ N =>
      obtain ⟨x, m1, e, hx⟩ := step n g m h
      cases x with
      | false => exact ⟨.nx g, m1, by simp only [whileL, e, R.bind_ok]; rfl, by simpa using hx⟩
      | true =>
        simp only [if_true] at hx
        obtain ⟨o, m2, e2, q⟩ := hx
        cases o with
        | nx g2 =>
          obtain ⟨n', hn, h2⟩ := q
          obtain ⟨o', m', e3, q3⟩ := ih n' hn N g2 m2 (by omega) h2
          exact ⟨o', m', by simp only [whileL, e, R.bind_ok, e2, if_true]; exact e3, q3⟩
        | ct g2 =>
          obtain ⟨n', hn, h2⟩ := q
          obtain ⟨o', m', e3, q3⟩ := ih n' hn N g2 m2 (by omega) h2
          exact ⟨o', m', by simp only [whileL, e, R.bind_ok, e2, if_true]; exact e3, q3⟩
        | bk g2 => exact ⟨.nx g2, m2, by simp only [whileL, e, R.bind_ok, e2, if_true], q⟩
        | rt d => exact ⟨.rt d, m2, by simp only [whileL, e, R.bind_ok, e2, if_true], q⟩
theorem Wp_while {N : Nat} {c : Ts} {b : Sm} {g : Env} {m : Mem} {Q : Out → Mem → Prop} (I : Nat → Env → Mem → Prop) (n : Nat) (hn : n < N) (h0 : I n g m)
    (step : ∀ n g m, I n g m → ∃ x m1, c g m = .ok x m1 ∧ if x then Wp b g m1 (stQ (fun g2 m2 => ∃ n', n' < n ∧ I n' g2 m2) Q) else Q (.nx g) m1) : Wp (whileS N c b) g m Q := by
  obtain ⟨o, m', e, h⟩ := whileL_wp I step n N g m hn h0
  exact ⟨o, m', e, h⟩
/-- the turns of a comprehension, with draws -/
theorem lcL_wp {t : Tg} {e : Ex} {g : Env} {m : Mem} {ds : List D} {K : List D → Mem → Prop} (I : Nat → List D → Mem → Prop)
    (step : ∀ i d acc m, ds[i]? = some d → I i acc m → ∃ g1 m1, t d g m = .ok g1 m1 ∧ ∃ y m2, e g1 m1 = .ok y m2 ∧ I (i + 1) (acc ++ [y]) m2) (h0 : I 0 [] m) (fin : ∀ ys m, I ds.length ys m → K ys m) : ∃ ys m', lcL t yesT e g ds m = .ok ys m' ∧ K ys m' := by
  obtain ⟨ys, m', e1, h⟩ := lcL_inv I step h0
  exact ⟨ys, m', e1, fin _ _ h⟩
/-- a def by its block -/
theorem fn_wp {k : Nat} {b : Sm} {xs : List D} {m m' : Mem} {d : D} (h : Wp b (xs.map some ++ List.replicate (k - xs.length) none) m fun o m1 => (o = .rt d ∨ (d = .non ∧ ∃ g, o = .nx g)) ∧ gcR m.length d m1 = .ok d m') : fnS k b xs m = .ok d m' := by
  obtain ⟨o, m1, e, q, hg⟩ := h
  unfold fnS
  rw [e]
  rcases q with rfl | ⟨rfl, g, rfl⟩
  · exact hg
  · exact hg
theorem fn_wpE {k : Nat} {b : Sm} {xs : List D} {m : Mem} {K : D → Mem → Prop} (h : Wp b (xs.map some ++ List.replicate (k - xs.length) none) m fun o m1 => ∃ d m', (o = .rt d ∨ (d = .non ∧ ∃ g, o = .nx g)) ∧ gcR m.length d m1 = .ok d m' ∧ K d m') : ∃ d m', fnS k b xs m = .ok d m' ∧ K d m' := by
  obtain ⟨o, m1, e, d, m', q, hg, hk⟩ := h
  refine ⟨d, m', ?_, hk⟩
  unfold fnS
  rw [e]
  rcases q with rfl | ⟨rfl, g, rfl⟩
  · exact hg
  · exact hg
@[simp] theorem gc_same (d : D) (m : Mem) : gcR m.length d m = .ok d m := by unfold gcR; rw [if_pos (Nat.le_refl _)]
@[simp] theorem gcx_same (c : String) (m : Mem) : gcX m.length c m = .exc c m := by unfold gcX; rw [if_pos (Nat.le_refl _)]
/-! ### what are no wheels -/
def oddW : List D := [.non, .int 5, .tup [], .tup [.str [97, 98], .str [97, 98]], .tup [.str [97, 98], .str [97, 98, 99], .int 1], .tup [.str [97, 97], .str [97, 98], .int 1], .tup [.str [97], .str [98], .int 1], .tup [.str [97, 66], .str [97, 98], .int 1],
  .tup [.str [97, 98], .str [97, 98], .int 4], .tup [.str [97, 98], .str [97, 98], .bl true], .lst [.str [97, 98], .str [97, 98], .int 1], .tup [.tup [.str [97], .str [98]], .str [97, 98], .int 1], .str [97, 98], .tup [.str [97, 98], .str [97, 98], .int 0]]
@[simp] theorem ix_3n (i : Nat) (h : i < 3) : ixD 3 (i : Int) = some i := ixD_nat h
theorem is_wheels_odd {d : D} (h : d ∈ oddW) (m : Mem) : m_is_wheels [d] m = .ok (.bl false) m := by
  have l : ∀ k : Nat, k ≤ 10 → k ≤ lim := fun k hk => by unfold lim; omega
  simp only [oddW, List.mem_cons, List.not_mem_nil, or_false] at h
  rcases h with rfl | rfl | rfl | rfl | rfl | rfl | rfl | rfl | rfl | rfl | rfl | rfl | rfl | rfl <;>
    simp [m_is_wheels, b_is_wheels, m_is_wheel, b_is_wheel, m_are_signs, b_are_signs, m_is_whole, b_is_whole, fnS, lcL, gcR, l, c_SIGNS, dedup]
theorem need_wheels_odd {d : D} (h : d ∈ oddW) (m : Mem) : m_need_wheels [d] m = .exc "NoWheels" m := by
  simp [m_need_wheels, b_need_wheels, fnS, is_wheels_odd h m]
theorem odd_wheels_spec {ns : List Int} {t : Nat} {r : Mem} (ht : t < 1000000) : ∃ x ∈ oddW, m_law_odd_wheels [.scr ns, .ref 0] (twn t :: r) = .ok x (twn (t + 1) :: r) := by
  have l : ∀ k : Nat, k ≤ 20 → k ≤ lim := fun k hk => by unfold lim; omega
  obtain ⟨x, hx, e⟩ := pick_spec (ns := ns) (t := t) (r := r) (xs := oddW) (by simp [oddW]) ht
  refine ⟨x, hx, ?_⟩
  unfold oddW at e
  simp [m_law_odd_wheels, b_law_odd_wheels, fnS, l, e, gcR]
/-! ### what are no rows -/
def oddR (most : Nat) : List D := [.non, .int 5, .str [83], .str [115, 112, 120], .str [115, 32, 112], .tup [.str [115]], .lst [.str [115]], .str (List.replicate (most + 1) 115)]
theorem is_row_odd {d : D} {most : Nat} (h : d ∈ oddR most) (h3 : 3 ≤ most) (m : Mem) : m_is_row [d, .int most] m = .ok (.bl false) m := by
  have l : ∀ k : Nat, k ≤ 20 → k ≤ lim := fun k hk => by unfold lim; omega
  have g1 : (1 : Int) ≤ (most : Int) := by omega
  have g3 : (3 : Int) ≤ (most : Int) := by omega
  have g2 : (0 : Int) ≤ (most : Int) := by omega
  have g4 : ¬ ((most : Int) + 1 ≤ (most : Int)) := by omega
  simp only [oddR, List.mem_cons, List.not_mem_nil, or_false] at h
  rcases h with rfl | rfl | rfl | rfl | rfl | rfl | rfl | rfl <;>
    simp [m_is_row, b_is_row, fnS, lcL, gcR, l, c_PULSES, g1, g2, g3, g4]
theorem need_row_odd {d : D} {most : Nat} (h : d ∈ oddR most) (h3 : 3 ≤ most) (m : Mem) : m_need_row [d, .int most] m = .exc "NoRow" m := by
  simp [m_need_row, b_need_row, fnS, is_row_odd h h3 m]
@[simp] theorem rep_flat1 (c k : Nat) : (List.replicate k [c]).flatten = List.replicate k c := flat_rep1 c k
theorem odd_row_spec {ns : List Int} {t most : Nat} {r : Mem} (hm : most ≤ 900) (ht : t < 1000000) : ∃ x ∈ oddR most, m_law_odd_row [.scr ns, .ref 0, .int most] (twn t :: r) = .ok x (twn (t + 1) :: r) := by
  have l : ∀ k : Nat, k ≤ 20 → k ≤ lim := fun k hk => by unfold lim; omega
  obtain ⟨x, hx, e⟩ := pick_spec (ns := ns) (t := t) (r := r) (xs := oddR most) (by simp [oddR]) ht
  refine ⟨x, hx, ?_⟩
  unfold oddR at e
  have rp : repOk 1 ((most : Int) + 1) = true := repOk_of (by omega) (by omega) (by omega)
  have e2 : ((most : Int) + 1).toNat = most + 1 := by omega
  simp [m_law_odd_row, b_law_odd_row, fnS, l, e, gcR, rp, e2]
end LW
namespace LW
/-! ### the other laws' own wheels, stands, rows -/
def sg40 : List Nat := [97, 98, 99, 100, 101, 102, 103, 104, 105, 106, 107, 108, 109, 110, 111, 112, 113, 114, 115, 116, 117, 118, 119, 120, 121, 122, 48, 49, 50, 51, 52, 53, 54, 55, 56, 57, 32, 46, 44, 45]
theorem sg40_eq : sg40 = SGN := rfl
theorem wheels40_spec {ns : List Int} {t most : Nat} (h2 : 2 ≤ most) (hk : most ≤ 30) (ht : t < 800000) :
    ∃ (a b : List Nat) (n : Int) (t' : Nat), m_law_wheels_k01 [.scr ns, .ref 0, .int most] [twn t] = .ok (whD a b n) [twn t'] ∧ t' ≤ t + 70 ∧ a.length ≤ most ∧ Whl a b n := by
  have hp : (0 : Int) < (most : Int) - 1 := by omega
  have d1 := draw_spec (ns := ns) (t := t) (r := []) hp (by omega)
  have lo := dr_lo ns (t + 1) hp
  have hi := dr_hi ns (t + 1) hp
  generalize dr ns (t + 1) ((most : Int) - 1) = j at *
  obtain ⟨k, hk2⟩ : ∃ k : Nat, 2 + j = (k : Int) := ⟨(2 + j).toNat, by omega⟩
  have hk3 : 2 ≤ k ∧ k ≤ most := by omega
  have key : ∃ d m', m_law_wheels_k01 [.scr ns, .ref 0, .int most] [twn t] = .ok d m' ∧ ∃ (a b : List Nat) (n : Int) (t' : Nat), d = whD a b n ∧ m' = [twn t'] ∧ t' ≤ t + 70 ∧ a.length ≤ most ∧ Whl a b n := by
    refine fn_wpE ?_
    have l0 : 0 ≤ lim := Nat.zero_le _
    have i2 : inR 2 = true := inR_of (by decide) (by decide)
    have ik : inR (k : Int) = true := inR_nat (by omega)
    unfold b_law_wheels_k01
    refine Wp_seq (by simp; exact ⟨rfl, rfl⟩) ?_
    refine Wp_seq (by simp [d1, hk2]; exact ⟨rfl, rfl⟩) ?_
    refine Wp_seq (by simp [l0]; exact ⟨rfl, rfl⟩) ?_
    refine Wp_bind (Wp_for (m1 := [twn (t + 1), .lst []]) (ds := [.int 0, .int 1]) (fun i g m => ∃ (x6 x7 x8 x9 : Option D) (ws : List (List Nat)) (t1 : Nat) (rest : Mem), ws.length = i ∧ rest.length = i ∧ t1 ≤ t + 1 + 31 * i ∧ (∀ w ∈ ws, w.length = k ∧ w.Nodup ∧ ∀ c ∈ w, c ∈ SGN) ∧
      g = [some (.scr ns), some (.ref 0), some (.int most), some (.str sg40), some (.int k), some (.ref 1), x6, x7, x8, x9] ∧ m = twn t1 :: .lst (ws.map fun w => .str w) :: rest) (by simp [i2]; rfl) ?h0 ?step ?fin)
    case h0 => exact ⟨none, none, none, none, [], t + 1, [], rfl, rfl, by omega, by simp, rfl, rfl⟩
    case step =>
      rintro i d g m hd ⟨x6, x7, x8, x9, ws, t1, rest, hw, hrest, ht1, hall, rfl, rfl⟩
      have hi : i < 2 := (List.getElem?_eq_some_iff.mp hd).1
      have d2 := draw_spec (ns := ns) (t := t1) (r := .lst (ws.map fun w => .str w) :: rest) (many := 2) (by decide) (by omega)
      refine ⟨_, _, rfl, ?_⟩
      obtain ⟨left, hleft, hll, hls⟩ : ∃ left : List Nat, (if dr ns (t1 + 1) 2 == 0 then sg40 else sg40.take (k + 3)) = left ∧ k ≤ left.length ∧ left.Sublist sg40 := by
        refine ⟨_, rfl, ?_, ?_⟩
        · split
          · simp [sg40]; omega
          · simp [sg40]; omega
        · split
          · exact List.Sublist.refl _
          · exact List.take_sublist _ _
      have hnl : left.Nodup := hls.nodup (by decide)
      have hsl : ∀ c ∈ left, c ∈ SGN := fun c hc => hls.subset hc
      have hlen : left.length ≤ 40 := hls.length_le
      refine Wp_seq (g1 := [some (.scr ns), some (.ref 0), some (.int most), some (.str sg40), some (.int k), some (.ref 1), some d, some (.ref (rest.length + 2)), x8, x9]) (m1 := twn (t1 + 1) :: .lst (ws.map fun w => .str w) :: (rest ++ [MO.lst (left.map fun c => .str [c])])) ?_ ?_
      · have c1 : cutD sg40 none (some ((k : Int) + 3)) = sg40.take (k + 3) := cutD_to sg40 (k + 3)
        rw [← hleft]
        by_cases q : dr ns (t1 + 1) 2 = 0
        · simp [d2, q]
        · simp [d2, q, c1]
      refine Wp_seq (by simp; exact ⟨rfl, rfl⟩) ?_
      refine Wp_bind (Wp_for (m1 := twn (t1 + 1) :: .lst (ws.map fun w => .str w) :: (rest ++ [MO.lst (left.map fun c => .str [c])])) (ds := (List.range k).map fun (k : Nat) => D.int k) (fun i2 g m => ∃ (x9 : Option D) (made lft : List Nat), made.length = i2 ∧ (made ++ lft).Perm left ∧
        g = [some (.scr ns), some (.ref 0), some (.int most), some (.str sg40), some (.int k), some (.ref 1), some d, some (.ref (rest.length + 2)), some (.str made), x9] ∧ m = twn (t1 + 1 + i2) :: .lst (ws.map fun w => .str w) :: (rest ++ [MO.lst (lft.map fun c => .str [c])])) (by simp [ik]) ?h1 ?step1 ?fin1)
      case h1 => exact ⟨x9, [], left, rfl, by simp, rfl, rfl⟩
      case step1 =>
        rintro i2 d2 g m hd2 ⟨x9, made, lft, hl, hpm, rfl, rfl⟩
        have hi3 : i2 < k := by
          have := (List.getElem?_eq_some_iff.mp hd2).1
          simpa using this
        have hlen2 : made.length + lft.length = left.length := by have := hpm.length_eq; simpa using this
        have hpos : (0 : Int) < ((lft.map fun c => D.str [c]).length : Int) := by simp; omega
        have lo := dr_lo ns (t1 + 1 + i2 + 1) hpos
        have hi2 := dr_hi ns (t1 + 1 + i2 + 1) hpos
        have hdr := draw_spec (ns := ns) (r := .lst (ws.map fun w => .str w) :: (rest ++ [MO.lst (lft.map fun c => .str [c])])) (t := t1 + 1 + i2) hpos (by omega)
        generalize hj : (dr ns (t1 + 1 + i2 + 1) ((lft.map fun c => D.str [c]).length : Int)) = j at *
        have hlt : j.toNat < lft.length := by simp at hi2; omega
        have ix : ixD lft.length j = some j.toNat := ixD_int lo (by simpa using hi2)
        refine ⟨_, _, rfl, Wp_of (o := .nx [some (.scr ns), some (.ref 0), some (.int most), some (.str sg40), some (.int k), some (.ref 1), some d, some (.ref (rest.length + 2)), some (.str (made ++ [lft[j.toNat]])), some d2]) (m1 := twn (t1 + 1 + i2 + 1) :: .lst (ws.map fun w => .str w) :: (rest ++ [MO.lst ((lft.eraseIdx j.toNat).map fun c => .str [c])])) ?_ ⟨_, _, _, ?_, ?_, rfl, rfl⟩⟩
        · have lm : made.length + 1 ≤ lim := by unfold lim; omega
          have ll : lft.length ≤ lim := by unfold lim; omega
          simp at hdr
          simp [hdr, ix, hlt, lm, ll, eraseIdx_map]
        · simp [hl]
        · have p1 : (lft[j.toNat] :: lft.eraseIdx j.toNat).Perm lft := erase_perm hlt
          have p2 : (made ++ [lft[j.toNat]] ++ lft.eraseIdx j.toNat).Perm (made ++ lft) := by
            rw [List.append_assoc]
            exact List.Perm.append_left made (by simpa using p1)
          exact p2.trans hpm
      case fin1 =>
        rintro g m ⟨x9, made, lft, hl, hpm, rfl, rfl⟩
        rw [List.length_map, List.length_range] at hl
        have nd : (made ++ lft).Nodup := hpm.nodup_iff.mpr hnl
        have lw : ws.length < lim := by unfold lim; omega
        refine Wp_of (o := .nx [some (.scr ns), some (.ref 0), some (.int most), some (.str sg40), some (.int k), some (.ref 1), some d, some (.ref (rest.length + 2)), some (.str made), x9]) (m1 := twn (t1 + 1 + k) :: .lst ((ws ++ [made]).map fun w => .str w) :: (rest ++ [MO.lst (lft.map fun c => .str [c])])) (by simp [lw]) ⟨_, _, _, _, ws ++ [made], t1 + 1 + k, rest ++ [MO.lst (lft.map fun c => .str [c])], by simp [hw], by simp [hrest], by omega, ?_, rfl, by simp⟩
        intro w hw2
        rcases List.mem_append.mp hw2 with q | q
        · exact hall w q
        · rw [List.mem_singleton.mp q]
          exact ⟨hl, (List.nodup_append.mp nd).1, fun c hc => hsl c (hpm.mem_iff.mp (List.mem_append_left _ hc))⟩
    case fin =>
      rintro g m ⟨x6, x7, x8, x9, ws, t1, rest, hw, hrest, ht1, hall, rfl, rfl⟩
      rcases ws with _ | ⟨a, _ | ⟨b, _ | ⟨_, _⟩⟩⟩ <;> simp at hw
      simp only [List.length_cons, List.length_nil] at ht1 hrest
      have d3 := draw_spec (ns := ns) (t := t1) (r := .lst [.str a, .str b] :: rest) (many := 3) (by decide) (by omega)
      have lo3 := dr_lo ns (t1 + 1) (show (0 : Int) < 3 by decide)
      have hi3 := dr_hi ns (t1 + 1) (show (0 : Int) < 3 by decide)
      have ha := hall a (by simp)
      have hb := hall b (by simp)
      have c3 : 3 ≤ lim := by unfold lim; omega
      refine Wp_of (o := .rt (whD a b (1 + dr ns (t1 + 1) 3))) (m1 := twn (t1 + 1) :: .lst [.str a, .str b] :: rest) (by simp [d3, c3]) ⟨_, [twn (t1 + 1)], .inl rfl, by simp [gcR, D.cl, D.clL], a, b, _, t1 + 1, rfl, rfl, by omega, by omega, ⟨by omega, by omega, by omega, ha.2.1, hb.2.1, ha.2.2, hb.2.2, by omega, by omega⟩⟩
  obtain ⟨d, m', e, a, b, n, t', rfl, rfl, r⟩ := key
  exact ⟨a, b, n, t', e, r⟩
end LW
namespace LW
/-- a pick by its place -/
theorem pick_at {ns : List Int} {t : Nat} {r : Mem} {xs : List D} (h : xs ≠ []) (ht : t < 1000000) : ∃ x ∈ xs, m_law_pick [.scr ns, .ref 0, .lst xs] (twn t :: r) = .ok x (twn (t + 1) :: r) := pick_spec h ht
theorem pick_str {ns : List Int} {t : Nat} {r : Mem} {s : List Nat} (h : s ≠ []) (ht : t < 1000000) : ∃ c ∈ s, m_law_pick [.scr ns, .ref 0, .str s] (twn t :: r) = .ok (.str [c]) (twn (t + 1) :: r) := by
  have hp : (0 : Int) < (s.length : Int) := by cases s <;> simp_all <;> omega
  have l := dr_lo ns (t + 1) hp
  have u := dr_hi ns (t + 1) hp
  have hd := draw_spec (ns := ns) (r := r) hp ht
  have hlt : (dr ns (t + 1) s.length).toNat < s.length := by omega
  have ix := ixD_int l u
  refine ⟨s[(dr ns (t + 1) s.length).toNat], List.getElem_mem _, ?_⟩
  simp [m_law_pick, b_law_pick, fnS, hd, ix, gcR, hlt]
/-- a draw as a number below -/
theorem draw_nat {ns : List Int} {t : Nat} {r : Mem} {many : Nat} (h : 0 < many) (ht : t < 1000000) : ∃ k : Nat, k < many ∧ m_law_draw [.scr ns, .ref 0, .int many] (twn t :: r) = .ok (.int k) (twn (t + 1) :: r) := by
  have hp : (0 : Int) < (many : Int) := by omega
  have l := dr_lo ns (t + 1) hp
  have u := dr_hi ns (t + 1) hp
  have hd := draw_spec (ns := ns) (r := r) hp ht
  refine ⟨(dr ns (t + 1) many).toNat, by omega, ?_⟩
  rw [hd, show (((dr ns (t + 1) many).toNat : Nat) : Int) = dr ns (t + 1) many by omega]
theorem go_loop {a b : List Nat} {n : Int} (h : Whl a b n) {s : Std} (hp : s.p < a.length) {c : Nat} (hc : IsPul c) (m : Mem) : m_law_pulse_k02 [whD a b n, stD s, .str [c]] m = .ok (.tup [stD (pul a b n s c).1, .str (pul a b n s c).2]) m := by
  have l2 : 2 ≤ lim := by unfold lim; omega
  have l3 : 3 ≤ lim := by unfold lim; omega
  have la' : 0 < a.length := by omega
  have hb : s.p < b.length := by rw [h.same]; exact hp
  have g1 := big_of (i := (a.length : Int)) (by omega) (by have := h.hi; omega)
  have gp : (s.p + 1) % a.length = if s.p + 1 < a.length then s.p + 1 else 0 := by
    split
    · rw [Nat.mod_eq_of_lt (by assumption)]
    · rw [show s.p + 1 = a.length by omega, Nat.mod_self]
  rcases hc with rfl | rfl | rfl | rfl
  · by_cases h0 : s.p = 0
    · have q1 : ((1 : Int) < (a.length : Int)) := by have := h.lo; omega
      have q2 : (1 : Nat) % a.length = 1 := Nat.mod_eq_of_lt (by have := h.lo; omega)
      by_cases q : (a.length : Int) * n ≤ s.i
      · simp [m_law_pulse_k02, b_law_pulse_k02, fnS, h0, q, g1, pul, l2, gcR]
      · simp [m_law_pulse_k02, b_law_pulse_k02, fnS, h0, q, g1, pul, l2, l3, gcR, q1, q2]
    · have hq : ((s.p : Int) == 0) = false := by simp; omega
      by_cases q : s.p + 1 < a.length
      · have q' : (s.p : Int) + 1 < (a.length : Int) := by omega
        simp [m_law_pulse_k02, b_law_pulse_k02, fnS, h0, hq, pul, l2, l3, gcR, q', gp, q]
      · have q' : ¬ (s.p : Int) + 1 < (a.length : Int) := by omega
        simp [m_law_pulse_k02, b_law_pulse_k02, fnS, h0, hq, pul, l2, l3, gcR, q', gp, q]
  · cases hf : s.f
    · simp [m_law_pulse_k02, b_law_pulse_k02, fnS, pul, l2, l3, gcR, hf, ixD_nat hp, List.getElem?_eq_getElem hp]
    · simp [m_law_pulse_k02, b_law_pulse_k02, fnS, pul, l2, l3, gcR, hf, ixD_nat hb, List.getElem?_eq_getElem hb]
  · simp [m_law_pulse_k02, b_law_pulse_k02, fnS, pul, l2, l3, gcR]
  · simp [m_law_pulse_k02, b_law_pulse_k02, fnS, pul, l2, l3, gcR]
theorem run_take_succ {a b : List Nat} {n : Int} {s : Std} {row : List Nat} {i : Nat} (h : i < row.length) : run a b n s (row.take (i + 1)) = ((pul a b n (run a b n s (row.take i)).1 (row.getD i 0)).1, (run a b n s (row.take i)).2 ++ (pul a b n (run a b n s (row.take i)).1 (row.getD i 0)).2) := by
  rw [take_succ' h, run_append]
  simp [run]
theorem law_go_spec {a b : List Nat} {n : Int} (h : Whl a b n) {s : Std} (hp : s.p < a.length) {row : List Nat} (hr : ∀ c ∈ row, IsPul c) (hl : row.length ≤ 10000) (m : Mem) : m_law_go [whD a b n, stD s, .str row] m = .ok (.tup [stD (run a b n s row).1, .str (run a b n s row).2]) m := by
  refine fn_wp ?_
  unfold b_law_go
  have l2 : 2 ≤ lim := by unfold lim; omega
  refine Wp_seq (by simp; exact ⟨rfl, rfl⟩) ?_
  refine Wp_bind (Wp_for (m1 := m) (ds := row.map fun c => .str [c]) (fun i g m' => ∃ x4 x5, g = [some (whD a b n), some (stD (run a b n s (row.take i)).1), some (.str row), some (.str (run a b n s (row.take i)).2), x4, x5] ∧ m' = m) (by simp) ⟨none, none, rfl, rfl⟩ ?step ?fin)
  case step =>
    rintro i d g m' hd ⟨x4, x5, rfl, rfl⟩
    have hi : i < row.length := by
      have := (List.getElem?_eq_some_iff.mp hd).1
      simpa using this
    have hde : d = .str [row.getD i 0] := by
      rw [List.getElem?_map, List.getElem?_eq_getElem hi] at hd
      rw [List.getD_eq_getElem?_getD, List.getElem?_eq_getElem hi]
      exact (Option.some.inj hd).symm
    subst hde
    have pe := go_loop h (run_lt (b := b) (n := n) (row.take i) s hp) (row_pul hr hi) m'
    have rl := run_len (a := a) (b := b) (n := n) (row.take i) s
    have pl := pul_len (a := a) (b := b) (n := n) (s := (run a b n s (row.take i)).1) (c := row.getD i 0)
    have l : (run a b n s (row.take i)).2.length + (pul a b n (run a b n s (row.take i)).1 (row.getD i 0)).2.length ≤ lim := by
      rw [List.length_take] at rl
      unfold lim
      omega
    refine ⟨_, _, rfl, Wp_of (o := .nx [some (whD a b n), some (stD (pul a b n (run a b n s (row.take i)).1 (row.getD i 0)).1), some (.str row), some (.str ((run a b n s (row.take i)).2 ++ (pul a b n (run a b n s (row.take i)).1 (row.getD i 0)).2)), some (.str [row.getD i 0]), some (.str (pul a b n (run a b n s (row.take i)).1 (row.getD i 0)).2)]) (m1 := m') ?_ ⟨_, _, by rw [run_take_succ hi], rfl⟩⟩
    simp [pe, l, -List.getD_eq_getElem?_getD]
  case fin =>
    rintro g m' ⟨x4, x5, rfl, rfl⟩
    rw [List.length_map, List.take_length]
    exact Wp_of (o := .rt _) (m1 := m') (by simp [l2]) ⟨.inl rfl, gc_same _ _⟩
/-- a good stand: within what is handed in -/
def Std.ok (a : List Nat) (n : Int) (s : Std) : Prop := s.p < a.length ∧ (s.i : Int) ≤ a.length * (n + 1)
theorem is_stand_spec {a b : List Nat} {n : Int} (h : Whl a b n) (s : Std) (m : Mem) : m_is_stand [whD a b n, stD s] m = .ok (.bl (decide (s.p < a.length ∧ (s.i : Int) ≤ a.length * (n + 1)))) m := by
  have g1 := big_of (i := (a.length : Int)) (by omega) (by have := h.hi; omega)
  have l2 : 2 ≤ lim := by unfold lim; omega
  by_cases h1 : s.p < a.length
  · have h1' : (s.p : Int) ≤ (a.length : Int) - 1 := by omega
    cases hf : s.f <;> simp [m_is_stand, b_is_stand, fnS, h1, h1', g1, l2, hf]
  · have h1' : ¬ (s.p : Int) ≤ (a.length : Int) - 1 := by omega
    simp [m_is_stand, b_is_stand, fnS, h1, h1']
theorem need_stand_spec {a b : List Nat} {n : Int} (h : Whl a b n) {s : Std} (hs : s.ok a n) (m : Mem) : m_need_stand [whD a b n, stD s] m = .ok .non m := by
  have e := is_stand_spec h s m
  rw [decide_eq_true (show s.p < a.length ∧ (s.i : Int) ≤ a.length * (n + 1) from hs)] at e
  simp [m_need_stand, b_need_stand, fnS, need_wheels_spec h m, e]
theorem behind_spec {a b : List Nat} {n : Int} (h : Whl a b n) {s : Std} (hs : s.ok a n) {row : List Nat} (hr : ∀ c ∈ row, IsPul c) (hl : row.length ≤ 400) (m : Mem) : m_behind [whD a b n, stD s, .str row] m = .ok (.tup [stD (run a b n s row).1, .str (run a b n s row).2]) m := by
  have e1 := need_stand_spec h hs m
  have e2 := need_row_spec (s := row) (hi := 400) (by omega) (by omega) hr m
  have e3 := rowed_spec h hs.1 hr (by omega) m
  simp [m_behind, b_behind, fnS, e1, e2, e3]
theorem caught_spec {a b : List Nat} {n : Int} (h : Whl a b n) {s : Std} (hs : s.ok a n) (m : Mem) : m_caught [whD a b n, stD s] m = .ok (.bl (decide (s.p = 0 ∧ (a.length : Int) * n ≤ s.i))) m := by
  simp [m_caught, b_caught, fnS, need_stand_spec h hs m, is_caught_spec h s m]
theorem stand_k02_spec {ns : List Int} {t : Nat} {r : Mem} {a b : List Nat} {n : Int} (h : Whl a b n) (ht : t < 900000) : ∃ s : Std, s.ok a n ∧ m_law_stand_k02 [.scr ns, .ref 0, whD a b n] (twn t :: r) = .ok (stD s) (twn (t + 4) :: r) := by
  have g1 := big_of (i := (a.length : Int)) (by omega) (by have := h.hi; omega)
  have hlo := h.lo
  have hn1 := h.n1
  have c3 : 3 ≤ lim := by unfold lim; omega
  obtain ⟨q, hq⟩ : ∃ q : Nat, (q : Int) = a.length * (n + 1) + 1 := ⟨(a.length * (n + 1) + 1).toNat, by
    have : 0 ≤ (a.length : Int) * (n + 1) := Int.mul_nonneg (by omega) (by omega)
    omega⟩
  have hge : (a.length : Int) * 2 ≤ a.length * (n + 1) := Int.mul_le_mul_of_nonneg_left (by omega) (by omega)
  obtain ⟨x, hx, e1⟩ := pick_spec (ns := ns) (t := t) (r := r) (xs := [.int 1, .int ((a.length : Int) + 1), .int (a.length * (n + 1) + 1)]) (by simp) (by omega)
  obtain ⟨k, rfl, hk0, hk1⟩ : ∃ k : Nat, x = .int k ∧ 0 < k ∧ k ≤ q := by
    simp only [List.mem_cons, List.not_mem_nil, or_false] at hx
    rcases hx with rfl | rfl | rfl
    · exact ⟨1, rfl, by omega, by omega⟩
    · exact ⟨a.length + 1, rfl, by omega, by omega⟩
    · exact ⟨q, by rw [hq], by omega, by omega⟩
  obtain ⟨i, hi, e2⟩ := draw_nat (ns := ns) (t := t + 1) (r := r) hk0 (by omega)
  obtain ⟨p, hp, e3⟩ := draw_nat (ns := ns) (t := t + 1 + 1) (r := r) (many := a.length) (by omega) (by omega)
  obtain ⟨c, hc, e4⟩ := pick_str (ns := ns) (t := t + 1 + 1 + 1) (r := r) (s := [108, 102]) (by simp) (by omega)
  obtain ⟨f, rfl⟩ : ∃ f, c = wc f := by
    simp only [List.mem_cons, List.not_mem_nil, or_false] at hc
    rcases hc with rfl | rfl
    · exact ⟨false, rfl⟩
    · exact ⟨true, rfl⟩
  refine ⟨⟨p, f, i⟩, ⟨hp, by show (i : Int) ≤ _; omega⟩, ?_⟩
  simp only [wc] at e4
  simp [m_law_stand_k02, b_law_stand_k02, fnS, g1, c3, e1, e2, e3, e4, gcR]
end LW
namespace LW
theorem pul_app {x y : List Nat} (hx : ∀ c ∈ x, IsPul c) (hy : ∀ c ∈ y, IsPul c) : ∀ c ∈ x ++ y, IsPul c := fun c hc => (List.mem_append.mp hc).elim (hx c) (hy c)
theorem pul_rep {c : Nat} (hc : IsPul c) (k : Nat) : ∀ d ∈ List.replicate k c, IsPul d := fun d hd => by rw [List.eq_of_mem_replicate hd]; exact hc
theorem law_row_k02_spec {ns : List Int} {t most : Nat} {r : Mem} {a b : List Nat} {n : Int} (h : Whl a b n) (hm : most ≤ 50) (ht : t < 900000) : ∃ (row : List Nat) (t' : Nat), m_law_row_k02 [.scr ns, .ref 0, whD a b n, .int most] (twn t :: r) = .ok (.str row) (twn t' :: r) ∧ t' ≤ t + 3 * most + 2 ∧ row.length ≤ 400 ∧ ∀ c ∈ row, IsPul c := by
  have key : ∃ d m', m_law_row_k02 [.scr ns, .ref 0, whD a b n, .int most] (twn t :: r) = .ok d m' ∧ ∃ (row : List Nat) (t' : Nat), d = .str row ∧ m' = twn t' :: r ∧ t' ≤ t + 3 * most + 2 ∧ row.length ≤ 400 ∧ ∀ c ∈ row, IsPul c := by
    refine fn_wpE ?_
    obtain ⟨k, hk, d1⟩ := draw_nat (ns := ns) (t := t) (r := r) (many := most + 1) (by omega) (by omega)
    have e1 : ((most + 1 : Nat) : Int) = (most : Int) + 1 := by omega
    rw [e1] at d1
    have ik : inR (k : Int) = true := inR_nat (by omega)
    have c3 : 3 ≤ lim := by unfold lim; omega
    have hlo := h.lo
    have hhi := h.hi
    have b3 : big 3 = true := big_of (by decide) (by decide)
    unfold b_law_row_k02
    refine Wp_seq (by simp; exact ⟨rfl, rfl⟩) ?_
    refine Wp_bind (Wp_for (m1 := twn (t + 1) :: r) (ds := (List.range k).map fun (k : Nat) => D.int k) (fun i g m => ∃ (x5 x6 x7 : Option D) (made : List Nat), made.length ≤ 90 * i ∧ (∀ c ∈ made, IsPul c) ∧
      g = [some (.scr ns), some (.ref 0), some (whD a b n), some (.int most), some (.str made), x5, x6, x7] ∧ m = twn (t + 1 + 3 * i) :: r) (by simp [d1, ik]) ⟨none, none, none, [], by simp, by simp, rfl, rfl⟩ ?step ?fin)
    case step =>
      rintro i d g m hd ⟨x5, x6, x7, made, hml, hmp, rfl, rfl⟩
      have hi : i < k := by
        have := (List.getElem?_eq_some_iff.mp hd).1
        simpa using this
      obtain ⟨kind, hkd, d2⟩ := draw_nat (ns := ns) (t := t + 1 + 3 * i) (r := r) (many := 8) (by omega) (by omega)
      obtain ⟨x, hx, d3⟩ := pick_spec (ns := ns) (t := t + 1 + 3 * i + 1) (r := r) (xs := [.int 2, .int (a.length : Int), .int (3 * (a.length : Int))]) (by simp) (by omega)
      obtain ⟨y, rfl, hy0, hy1⟩ : ∃ y : Nat, x = .int y ∧ 0 < y ∧ y ≤ 90 := by
        simp only [List.mem_cons, List.not_mem_nil, or_false] at hx
        rcases hx with rfl | rfl | rfl
        · exact ⟨2, rfl, by omega, by omega⟩
        · exact ⟨a.length, rfl, by omega, by omega⟩
        · exact ⟨3 * a.length, by simp, by omega, by omega⟩
      obtain ⟨z, hz, d4⟩ := draw_nat (ns := ns) (t := t + 1 + 3 * i + 1 + 1) (r := r) hy0 (by omega)
      rw [show ((8 : Nat) : Int) = 8 from rfl] at d2
      have rp : repOk 1 (1 + (z : Int)) = true := repOk_of (by omega) (by omega) (by omega)
      have tz : (1 + (z : Int)).toNat = z + 1 := by omega
      obtain ⟨w, hw⟩ : ∃ w : List Nat, w = if kind < 4 then List.replicate (z + 1) 115 else if kind < 6 then [112] else if kind = 6 then [108] else [102] := ⟨_, rfl⟩
      have hwl : w.length ≤ 90 := by
        rw [hw]
        repeat' split
        all_goals simp
        all_goals omega
      have hwp : ∀ c ∈ w, IsPul c := by
        rw [hw]
        repeat' split
        · exact pul_rep (.inl rfl) _
        · intro c hc; rw [List.mem_singleton.mp hc]; exact .inr (.inl rfl)
        · intro c hc; rw [List.mem_singleton.mp hc]; exact .inr (.inr (.inl rfl))
        · intro c hc; rw [List.mem_singleton.mp hc]; exact .inr (.inr (.inr rfl))
      have lm : made.length + w.length ≤ lim := by unfold lim; omega
      refine ⟨_, _, rfl, Wp_seq (by simp [d2]; exact ⟨rfl, rfl⟩) (Wp_seq (by simp [c3, b3, d3, d4]; exact ⟨rfl, rfl⟩) (Wp_of (o := .nx [some (.scr ns), some (.ref 0), some (whD a b n), some (.int most), some (.str (made ++ w)), some d, some (.int kind), some (.int (1 + (z : Int)))]) (m1 := twn (t + 1 + 3 * i + 1 + 1 + 1) :: r) ?_ ⟨_, _, _, made ++ w, by simp; omega, pul_app hmp hwp, rfl, by rw [show t + 1 + 3 * (i + 1) = t + 1 + 3 * i + 1 + 1 + 1 by omega]⟩))⟩
      rw [hw] at lm ⊢
      by_cases q1 : kind < 4
      · have q1' : (kind : Int) < 4 := by omega
        rw [if_pos q1] at lm
        simp only [List.length_replicate] at lm
        simp [q1, q1', rp, tz, lm]
      · have q1' : ¬ (kind : Int) < 4 := by omega
        by_cases q2 : kind < 6
        · have q2' : (kind : Int) < 6 := by omega
          rw [if_neg q1, if_pos q2] at lm
          simp only [List.length_cons, List.length_nil] at lm
          simp [q1, q1', q2, q2', lm]
        · have q2' : ¬ (kind : Int) < 6 := by omega
          by_cases q3 : kind = 6
          · subst q3
            simp at lm
            simp [lm]
          · have q4 : kind = 7 := by omega
            subst q4
            simp at lm
            simp [lm]
    case fin =>
      rintro g m ⟨x5, x6, x7, made, hml, hmp, rfl, rfl⟩
      rw [List.length_map, List.length_range] at *
      obtain ⟨x, hx, d5⟩ := pick_spec (ns := ns) (t := t + 1 + 3 * k) (r := r) (xs := [.int 20, .int 40, .int 400]) (by simp) (by omega)
      obtain ⟨y, rfl, hy⟩ : ∃ y : Nat, x = .int y ∧ y ≤ 400 := by
        simp only [List.mem_cons, List.not_mem_nil, or_false] at hx
        rcases hx with rfl | rfl | rfl
        · exact ⟨20, rfl, by omega⟩
        · exact ⟨40, rfl, by omega⟩
        · exact ⟨400, rfl, by omega⟩
      exact Wp_of (o := .rt (.str (made.take y))) (m1 := twn (t + 1 + 3 * k + 1) :: r) (by simp [c3, d5]) ⟨_, twn (t + 1 + 3 * k + 1) :: r, .inl rfl, by simp [gcR], made.take y, _, rfl, rfl, by omega, by simp; omega, fun c hc => hmp c (List.mem_of_mem_take hc)⟩
  obtain ⟨d, m', e, row, t', rfl, rfl, r⟩ := key
  exact ⟨row, t', e, r⟩
end LW
/-! PuR: a search level by level, in plain Lean. -/
namespace LW
structure Sea (S : Type) where
  goal : S → Bool
  hit : S → Nat → Bool
  nxt : S → Nat → Option S
def pls : List Nat := [115, 112, 108, 102]
section
variable {S : Type} [DecidableEq S] (B : Sea S)
def bfP (row : List Nat) (s : S) : List Nat → List S → List (List Nat × S) → Sum (List Nat) (List S × List (List Nat × S))
  | [], K, L => .inr (K, L)
  | c :: cs, K, L => if B.hit s c = true then .inl (row ++ [c]) else match B.nxt s c with
    | none => bfP row s cs K L
    | some s' => if s' ∈ K then bfP row s cs K L else bfP row s cs (K ++ [s']) (L ++ [(row ++ [c], s')])
def bfR : List (List Nat × S) → List S → List (List Nat × S) → Sum (List Nat) (List S × List (List Nat × S))
  | [], K, L => .inr (K, L)
  | x :: rs, K, L => if B.goal x.2 = true then .inl x.1 else match bfP B x.1 x.2 pls K L with
    | .inl r => .inl r
    | .inr (K', L') => bfR rs K' L'
def bfs : Nat → List S → List (List Nat × S) → Option (Option (List Nat))
  | 0, _, _ => none
  | f + 1, K, rows => if rows = [] then some none else match bfR B rows K [] with
    | .inl r => some (some r)
    | .inr (K', L') => bfs f K' L'
/-- where a row leads, none where it is hit or can't go on -/
def go : S → List Nat → Option S
  | s, [] => some s
  | s, c :: r => if B.hit s c = true then none else (B.nxt s c).bind fun s' => go s' r
variable {B}
theorem go_append : ∀ (r q : List Nat) (s : S), go B s (r ++ q) = (go B s r).bind fun s' => go B s' q
  | [], q, s => rfl
  | c :: r, q, s => by
    simp only [List.cons_append, go]
    split
    · rfl
    · cases B.nxt s c with
      | none => rfl
      | some s' => exact go_append r q s'
theorem go_last {r : List Nat} {c : Nat} {s t u : S} (h : go B s r = some t) (hh : B.hit t c = false) (hn : B.nxt t c = some u) : go B s (r ++ [c]) = some u := by
  rw [go_append, h]
  simp [go, hh, hn]
theorem go_snoc {r : List Nat} {c : Nat} {s u : S} (h : go B s (r ++ [c]) = some u) : ∃ t, go B s r = some t ∧ B.hit t c = false ∧ B.nxt t c = some u := by
  rw [go_append] at h
  cases q : go B s r with
  | none => rw [q] at h; cases h
  | some t =>
    rw [q] at h
    simp only [Option.bind_some, go] at h
    cases hh : B.hit t c with
    | true => rw [hh] at h; simp at h
    | false =>
      rw [hh] at h
      simp only [Bool.false_eq_true, if_false] at h
      cases hn : B.nxt t c with
      | none => rw [hn] at h; cases h
      | some w =>
        rw [hn] at h
        cases h
        exact ⟨t, rfl, hh, hn⟩
/-- looked at through and through: nothing is found there, all that follows is known -/
def Exp (B : Sea S) (K : List S) (s : S) : Prop := B.goal s = false ∧ ∀ c ∈ pls, B.hit s c = false ∧ ∀ t, B.nxt s c = some t → t ∈ K
theorem Exp.mono {K K' : List S} {s : S} (h : Exp B K s) (hk : ∀ x ∈ K, x ∈ K') : Exp B K' s := ⟨h.1, fun c hc => ⟨(h.2 c hc).1, fun t ht => hk t ((h.2 c hc).2 t ht)⟩⟩
theorem bfP_r {row : List Nat} {s : S} : ∀ (cs : List Nat) (K : List S) (L : List (List Nat × S)) (K' : List S) (L' : List (List Nat × S)), bfP B row s cs K L = .inr (K', L') →
    (∀ x ∈ K, x ∈ K') ∧ (∀ x ∈ L', x ∈ L ∨ ∃ c ∈ cs, x.1 = row ++ [c] ∧ B.hit s c = false ∧ B.nxt s c = some x.2) ∧ (∀ x ∈ L, x ∈ L') ∧ (∀ y ∈ K', y ∈ K ∨ ∃ r, (r, y) ∈ L') ∧ (∀ c ∈ cs, B.hit s c = false ∧ ∀ t, B.nxt s c = some t → t ∈ K') ∧ (K.Nodup → K'.Nodup) ∧ K'.length + L.length = K.length + L'.length
  | [], K, L, K', L', h => by
    cases h
    exact ⟨fun _ h => h, fun _ h => .inl h, fun _ h => h, fun _ h => .inl h, fun c hc => by simp at hc, fun h => h, rfl⟩
  | c :: cs, K, L, K', L', h => by
    rw [bfP] at h
    split at h
    · cases h
    · rename_i hh
      have hh : B.hit s c = false := by simpa using hh
      cases hn : B.nxt s c with
      | none =>
        rw [hn] at h
        obtain ⟨h1, h2, h3, h4, h5, h6, h7⟩ := bfP_r cs K L K' L' h
        refine ⟨h1, fun x hx => (h2 x hx).imp id fun ⟨d, hd, q⟩ => ⟨d, List.mem_cons_of_mem _ hd, q⟩, h3, h4, fun d hd => ?_, h6, h7⟩
        rcases List.mem_cons.mp hd with rfl | hd
        · exact ⟨hh, fun t ht => by rw [hn] at ht; cases ht⟩
        · exact h5 d hd
      | some s' =>
        rw [hn] at h
        dsimp only at h
        split at h
        · rename_i hk
          obtain ⟨h1, h2, h3, h4, h5, h6, h7⟩ := bfP_r cs K L K' L' h
          refine ⟨h1, fun x hx => (h2 x hx).imp id fun ⟨d, hd, q⟩ => ⟨d, List.mem_cons_of_mem _ hd, q⟩, h3, h4, fun d hd => ?_, h6, h7⟩
          rcases List.mem_cons.mp hd with rfl | hd
          · exact ⟨hh, fun t ht => by rw [hn] at ht; cases ht; exact h1 _ hk⟩
          · exact h5 d hd
        · rename_i hk
          obtain ⟨h1, h2, h3, h4, h5, h6, h7⟩ := bfP_r cs (K ++ [s']) (L ++ [(row ++ [c], s')]) K' L' h
          refine ⟨fun x hx => h1 x (List.mem_append_left _ hx), fun x hx => ?_, fun x hx => h3 x (List.mem_append_left _ hx), fun y hy => ?_, fun d hd => ?_, fun nd => h6 ?_, by simp at h7; omega⟩
          · rcases h2 x hx with q | ⟨d, hd, q⟩
            · rcases List.mem_append.mp q with q | q
              · exact .inl q
              · rw [List.mem_singleton.mp q]
                exact .inr ⟨c, List.mem_cons_self, rfl, hh, hn⟩
            · exact .inr ⟨d, List.mem_cons_of_mem _ hd, q⟩
          · rcases h4 y hy with q | q
            · rcases List.mem_append.mp q with q | q
              · exact .inl q
              · rw [List.mem_singleton.mp q]
                exact .inr ⟨row ++ [c], h3 _ (List.mem_append_right _ (List.mem_singleton.mpr rfl))⟩
            · exact .inr q
          · rcases List.mem_cons.mp hd with rfl | hd
            · exact ⟨hh, fun t ht => by rw [hn] at ht; cases ht; exact h1 _ (List.mem_append_right _ (List.mem_singleton.mpr rfl))⟩
            · exact h5 d hd
          · rw [List.nodup_append]
            refine ⟨nd, by simp, fun x hx y hy => ?_⟩
            rw [List.mem_singleton.mp hy]
            exact fun e => hk (e ▸ hx)
theorem bfP_len {row : List Nat} {s : S} : ∀ (cs : List Nat) (K : List S) (L : List (List Nat × S)) (K' : List S) (L' : List (List Nat × S)), bfP B row s cs K L = .inr (K', L') → L'.length ≤ L.length + cs.length
  | [], K, L, K', L', h => by cases h; simp
  | c :: cs, K, L, K', L', h => by
    rw [bfP] at h
    split at h
    · cases h
    · split at h
      · have := bfP_len cs _ _ K' L' h
        simp; omega
      · split at h
        · have := bfP_len cs _ _ K' L' h
          simp; omega
        · have := bfP_len cs _ _ K' L' h
          simp at this ⊢; omega
theorem bfP_l {row : List Nat} {s : S} : ∀ (cs : List Nat) (K : List S) (L : List (List Nat × S)) (r : List Nat), bfP B row s cs K L = .inl r → ∃ c ∈ cs, r = row ++ [c] ∧ B.hit s c = true
  | [], K, L, r, h => by cases h
  | c :: cs, K, L, r, h => by
    rw [bfP] at h
    split at h
    · rename_i hh
      cases h
      exact ⟨c, List.mem_cons_self, rfl, hh⟩
    · have key : ∀ K L, bfP B row s cs K L = .inl r → ∃ d ∈ c :: cs, r = row ++ [d] ∧ B.hit s d = true := fun K L h => by
        obtain ⟨d, hd, q⟩ := bfP_l cs K L r h
        exact ⟨d, List.mem_cons_of_mem _ hd, q⟩
      split at h
      · exact key _ _ h
      · split at h
        · exact key _ _ h
        · exact key _ _ h
theorem bfR_r : ∀ (rows : List (List Nat × S)) (K : List S) (L : List (List Nat × S)) (K' : List S) (L' : List (List Nat × S)), bfR B rows K L = .inr (K', L') →
    (∀ x ∈ K, x ∈ K') ∧ (∀ x ∈ L', x ∈ L ∨ ∃ y ∈ rows, ∃ c ∈ pls, x.1 = y.1 ++ [c] ∧ B.hit y.2 c = false ∧ B.nxt y.2 c = some x.2) ∧ (∀ x ∈ L, x ∈ L') ∧ (∀ y ∈ K', y ∈ K ∨ ∃ r, (r, y) ∈ L') ∧ (∀ y ∈ rows, Exp B K' y.2) ∧ (K.Nodup → K'.Nodup) ∧ K'.length + L.length = K.length + L'.length
  | [], K, L, K', L', h => by
    cases h
    exact ⟨fun _ h => h, fun _ h => .inl h, fun _ h => h, fun _ h => .inl h, fun c hc => by simp at hc, fun h => h, rfl⟩
  | x :: rs, K, L, K', L', h => by
    rw [bfR] at h
    split at h
    · cases h
    · rename_i hg
      have hg : B.goal x.2 = false := by simpa using hg
      split at h
      · cases h
      · rename_i K1 L1 hp
        obtain ⟨a1, a2, a3, a4, a5, a6, a7⟩ := bfP_r pls K L K1 L1 hp
        obtain ⟨b1, b2, b3, b4, b5, b6, b7⟩ := bfR_r rs K1 L1 K' L' h
        refine ⟨fun y hy => b1 y (a1 y hy), fun y hy => ?_, fun y hy => b3 y (a3 y hy), fun y hy => ?_, fun y hy => ?_, fun nd => b6 (a6 nd), by omega⟩
        · rcases b2 y hy with q | ⟨z, hz, q⟩
          · rcases a2 y q with q | ⟨c, hc, q⟩
            · exact .inl q
            · exact .inr ⟨x, List.mem_cons_self, c, hc, q⟩
          · exact .inr ⟨z, List.mem_cons_of_mem _ hz, q⟩
        · rcases b4 y hy with q | q
          · rcases a4 y q with q | ⟨r, q⟩
            · exact .inl q
            · exact .inr ⟨r, b3 _ q⟩
          · exact .inr q
        · rcases List.mem_cons.mp hy with rfl | hy
          · exact ⟨hg, fun c hc => ⟨(a5 c hc).1, fun t ht => b1 t ((a5 c hc).2 t ht)⟩⟩
          · exact b5 y hy
theorem bfR_l : ∀ (rows : List (List Nat × S)) (K : List S) (L : List (List Nat × S)) (r : List Nat), bfR B rows K L = .inl r → ∃ y ∈ rows, (r = y.1 ∧ B.goal y.2 = true) ∨ ∃ c ∈ pls, r = y.1 ++ [c] ∧ B.hit y.2 c = true
  | [], K, L, r, h => by cases h
  | x :: rs, K, L, r, h => by
    rw [bfR] at h
    split at h
    · rename_i hg
      cases h
      exact ⟨x, List.mem_cons_self, .inl ⟨rfl, hg⟩⟩
    · split at h
      · rename_i r' hp
        cases h
        exact ⟨x, List.mem_cons_self, .inr (bfP_l pls K L _ hp)⟩
      · obtain ⟨y, hy, q⟩ := bfR_l rs _ _ r h
        exact ⟨y, List.mem_cons_of_mem _ hy, q⟩
abbrev Pls (r : List Nat) : Prop := ∀ c ∈ r, c ∈ pls
/-- ahead of level n -/
structure BInv (B : Sea S) (s0 : S) (n : Nat) (K : List S) (rows : List (List Nat × S)) : Prop where
  rw : ∀ x ∈ rows, x.1.length = n ∧ Pls x.1 ∧ go B s0 x.1 = some x.2
  ex : ∀ s ∈ K, (∃ r, (r, s) ∈ rows) ∨ Exp B K s
  cv : ∀ r s, Pls r → r.length ≤ n → go B s0 r = some s → s ∈ K
  no : ∀ r s, Pls r → r.length < n → go B s0 r = some s → B.goal s = false ∧ ∀ c ∈ pls, B.hit s c = false
  re : ∀ s ∈ K, ∃ r, Pls r ∧ go B s0 r = some s
  nd : K.Nodup
theorem BInv.start (s0 : S) : BInv B s0 0 [s0] [([], s0)] where
  rw := fun x hx => by rw [List.mem_singleton.mp hx]; exact ⟨rfl, by simp [Pls], rfl⟩
  ex := fun s hs => by rw [List.mem_singleton.mp hs]; exact .inl ⟨[], List.mem_singleton.mpr rfl⟩
  cv := fun r s _ hl h => by
    have : r = [] := List.eq_nil_of_length_eq_zero (by omega)
    subst this
    cases h
    exact List.mem_singleton.mpr rfl
  no := fun r s _ hl _ => by omega
  re := fun s hs => by rw [List.mem_singleton.mp hs]; exact ⟨[], by simp [Pls], rfl⟩
  nd := by simp
theorem snoc_of {r : List Nat} {n : Nat} (h : r.length = n + 1) : ∃ q c, r = q ++ [c] ∧ q.length = n := by
  rcases List.eq_nil_or_concat r with rfl | ⟨q, c, rfl⟩
  · simp at h
  · exact ⟨q, c, by simp, by simpa using h⟩
theorem BInv.step {s0 : S} {n : Nat} {K K' : List S} {rows L' : List (List Nat × S)} (h : BInv B s0 n K rows) (e : bfR B rows K [] = .inr (K', L')) : BInv B s0 (n + 1) K' L' := by
  obtain ⟨a1, a2, a3, a4, a5, a6, a7⟩ := bfR_r rows K [] K' L' e
  have exK : ∀ s ∈ K, Exp B K' s := fun s hs => by
    rcases h.ex s hs with ⟨r, hr⟩ | q
    · exact a5 _ hr
    · exact q.mono a1
  have rw' : ∀ x ∈ L', x.1.length = n + 1 ∧ Pls x.1 ∧ go B s0 x.1 = some x.2 := fun x hx => by
    rcases a2 x hx with q | ⟨y, hy, c, hc, e1, e2, e3⟩
    · simp at q
    · obtain ⟨r1, r2, r3⟩ := h.rw y hy
      rw [e1]
      refine ⟨by simp [r1], fun d hd => ?_, go_last r3 e2 e3⟩
      rcases List.mem_append.mp hd with q | q
      · exact r2 d q
      · rw [List.mem_singleton.mp q]; exact hc
  refine ⟨rw', fun s hs => ?_, fun r s hp hl hg => ?_, fun r s hp hl hg => ?_, fun s hs => ?_, a6 h.nd⟩
  · rcases a4 s hs with q | q
    · exact .inr (exK s q)
    · exact .inl q
  · by_cases hn : r.length ≤ n
    · exact a1 s (h.cv r s hp hn hg)
    · obtain ⟨q, c, rfl, hq⟩ := snoc_of (show r.length = n + 1 by omega)
      obtain ⟨t, g1, g2, g3⟩ := go_snoc hg
      have ht := h.cv q t (fun d hd => hp d (List.mem_append_left _ hd)) (by omega) g1
      exact ((exK t ht).2 c (hp c (List.mem_append_right _ (List.mem_singleton.mpr rfl)))).2 s g3
  · have hs := h.cv r s hp (by omega) hg
    exact ⟨(exK s hs).1, fun c hc => ((exK s hs).2 c hc).1⟩
  · rcases a4 s hs with q | ⟨r, q⟩
    · exact h.re s q
    · exact ⟨r, (rw' _ q).2.1, (rw' _ q).2.2⟩
/-- what is found: by a goal, or by a hit; nothing ahead of it -/
def Fnd (B : Sea S) (s0 : S) (r : List Nat) : Prop := Pls r ∧ ((∃ s, go B s0 r = some s ∧ B.goal s = true ∧ ∀ r' s', Pls r' → r'.length < r.length → go B s0 r' = some s' → B.goal s' = false ∧ ∀ c ∈ pls, B.hit s' c = false) ∨
  ∃ q c s, r = q ++ [c] ∧ go B s0 q = some s ∧ B.hit s c = true ∧ ∀ r' s', Pls r' → r'.length < q.length → go B s0 r' = some s' → B.goal s' = false ∧ ∀ d ∈ pls, B.hit s' d = false)
/-- nothing is to be found -/
def Nof (B : Sea S) (s0 : S) : Prop := ∀ r s, Pls r → go B s0 r = some s → B.goal s = false ∧ ∀ c ∈ pls, B.hit s c = false
theorem bfs_spec {s0 : S} : ∀ (f n : Nat) (K : List S) (rows : List (List Nat × S)), BInv B s0 n K rows → (∀ r, bfs B f K rows = some (some r) → Fnd B s0 r) ∧ (bfs B f K rows = some none → Nof B s0)
  | 0, n, K, rows, h => ⟨(fun r e => by cases e), (fun e => by cases e)⟩
  | f + 1, n, K, rows, h => by
    rw [bfs]
    by_cases hr : rows = []
    · rw [if_pos hr]
      subst hr
      refine ⟨(fun r e => by cases e), fun _ => ?_⟩
      have exK : ∀ s ∈ K, Exp B K s := fun s hs => by
        rcases h.ex s hs with ⟨r, hr⟩ | q
        · simp at hr
        · exact q
      have all : ∀ (k : Nat) (r : List Nat) (s : S), r.length = k → Pls r → go B s0 r = some s → s ∈ K := by
        intro k
        induction k with
        | zero => exact fun r s hk hp hg => h.cv r s hp (by omega) hg
        | succ k ih =>
          intro r s hk hp hg
          obtain ⟨q, c, rfl, hq⟩ := snoc_of hk
          obtain ⟨t, g1, g2, g3⟩ := go_snoc hg
          have ht := ih q t hq (fun d hd => hp d (List.mem_append_left _ hd)) g1
          exact ((exK t ht).2 c (hp c (List.mem_append_right _ (List.mem_singleton.mpr rfl)))).2 s g3
      intro r s hp hg
      have hs := all _ r s rfl hp hg
      exact ⟨(exK s hs).1, fun c hc => ((exK s hs).2 c hc).1⟩
    · rw [if_neg hr]
      cases e : bfR B rows K [] with
      | inl r =>
        refine ⟨fun r' e' => ?_, (fun e' => by cases e')⟩
        cases e'
        obtain ⟨y, hy, q⟩ := bfR_l rows K [] r e
        obtain ⟨r1, r2, r3⟩ := h.rw y hy
        rcases q with ⟨rfl, hg⟩ | ⟨c, hc, rfl, hh⟩
        · exact ⟨r2, .inl ⟨y.2, r3, hg, fun r' s' hp hl hg' => h.no r' s' hp (by omega) hg'⟩⟩
        · refine ⟨fun d hd => ?_, .inr ⟨y.1, c, y.2, rfl, r3, hh, fun r' s' hp hl hg' => h.no r' s' hp (by omega) hg'⟩⟩
          rcases List.mem_append.mp hd with q | q
          · exact r2 d q
          · rw [List.mem_singleton.mp q]; exact hc
      | inr x =>
        obtain ⟨K', L'⟩ := x
        exact bfs_spec f (n + 1) K' L' (h.step e)
theorem nodup_sub_len : ∀ {l m : List S}, l.Nodup → (∀ x ∈ l, x ∈ m) → l.length ≤ m.length
  | [], m, _, _ => Nat.zero_le _
  | x :: l, m, nd, h => by
    obtain ⟨n1, n2⟩ := List.nodup_cons.mp nd
    have hx : x ∈ m := h x (by simp)
    have p := List.perm_cons_erase hx
    have ih := nodup_sub_len (l := l) (m := m.erase x) n2 fun y hy => (List.mem_erase_of_ne (fun (e : y = x) => n1 (e ▸ hy))).mpr (h y (List.mem_cons_of_mem _ hy))
    have := p.length_eq
    simp only [List.length_cons] at this ⊢
    omega
/-- there is fuel enough -/
theorem bfs_fuel {s0 : S} {U : List S} (hU : ∀ r s, Pls r → go B s0 r = some s → s ∈ U) : ∀ (f n : Nat) (K : List S) (rows : List (List Nat × S)), BInv B s0 n K rows → U.length + 2 ≤ f + K.length → bfs B f K rows ≠ none
  | 0, n, K, rows, h, hf => by
    have := nodup_sub_len h.nd fun s hs => let ⟨r, hp, hg⟩ := h.re s hs; hU r s hp hg
    omega
  | f + 1, n, K, rows, h, hf => by
    rw [bfs]
    by_cases hr : rows = []
    · rw [if_pos hr]; exact fun e => by cases e
    · rw [if_neg hr]
      cases e : bfR B rows K [] with
      | inl r => exact fun e => by cases e
      | inr x =>
        obtain ⟨K', L'⟩ := x
        have hs := h.step e
        obtain ⟨a1, a2, a3, a4, a5, a6, a7⟩ := bfR_r rows K [] K' L' e
        dsimp only
        by_cases hL : L' = []
        · subst hL
          simp only [List.length_nil, Nat.add_zero] at a7
          cases f with
          | zero =>
            have := nodup_sub_len hs.nd fun s hq => let ⟨r, hp, hg⟩ := hs.re s hq; hU r s hp hg
            omega
          | succ f =>
            rw [bfs, if_pos rfl]
            exact fun e => by cases e
        · have : 0 < L'.length := List.length_pos_iff.mpr hL
          simp only [List.length_nil, Nat.add_zero] at a7
          exact bfs_fuel hU f (n + 1) K' L' hs (by omega)
end
end LW
/-! PuS: what is known, as a dict; two printers told apart. -/
namespace LW
/-! ### a dict of what is known -/
section
variable {S : Type} [DecidableEq S] {e : S → D}
theorem gfind_map (he : ∀ x y, D.eqv (e x) (e y) = decide (x = y)) (x : S) : ∀ K : List S, gfind (e x) (K.map e) (K.map fun _ => .bl true) = if x ∈ K then some (.bl true) else none
  | [] => rfl
  | y :: K => by
    have ih := gfind_map he x K
    simp only [List.map_cons, gfind, he, ih]
    by_cases h : y = x
    · simp [h]
    · have h' : ¬ x = y := fun z => h z.symm
      simp [h, h']
theorem gputK_map (he : ∀ x y, D.eqv (e x) (e y) = decide (x = y)) {x : S} {K : List S} (h : x ∉ K) : gputK (e x) (K.map e) (K.map fun _ => .bl true) = (K ++ [x]).map e := by
  unfold gputK
  rw [gfind_map he, if_neg h]
  simp
theorem gputV_map (he : ∀ x y, D.eqv (e x) (e y) = decide (x = y)) {x : S} {K : List S} (h : x ∉ K) : gputV (e x) (.bl true) (K.map e) (K.map fun _ => .bl true) = (K ++ [x]).map fun _ => .bl true := by
  unfold gputV
  rw [gfind_map he, if_neg h]
  simp
end
/-- the memory of a search: what lies below, what is known, levels that are gone, the next level -/
def memS {S : Type} (r : Mem) (j : Nat) (e : S → D) (K : List S) (L : List D) : Mem := r ++ .gd (K.map e) (K.map fun _ => .bl true) :: (List.replicate j .gone ++ [.lst L])
section
variable {S : Type} {r : Mem} {j : Nat} {e : S → D} {K K' : List S} {L L' : List D}
@[simp] theorem memS_gd : (memS r j e K L)[r.length]? = some (.gd (K.map e) (K.map fun _ => .bl true)) := by simp [memS]
@[simp] theorem memS_l : (memS r j e K L)[r.length + 1 + j]? = some (.lst L) := by
  unfold memS
  rw [List.getElem?_append_right (by omega), show r.length + 1 + j - r.length = j + 1 by omega, List.getElem?_cons_succ, List.getElem?_append_right (by simp)]
  simp
@[simp] theorem memS_setg : (memS r j e K L).set r.length (.gd (K'.map e) (K'.map fun _ => .bl true)) = memS r j e K' L := by simp [memS]
@[simp] theorem memS_setl : (memS r j e K L).set (r.length + 1 + j) (.lst L') = memS r j e K L' := by
  unfold memS
  rw [List.set_append_right _ _ (by omega), show r.length + 1 + j - r.length = j + 1 by omega, List.set_cons_succ, List.set_append_right _ _ (by simp)]
  simp
theorem memS_next : (memS r j e K L).set (r.length + 1 + j) .gone ++ [.lst []] = memS r (j + 1) e K [] := by
  unfold memS
  rw [List.set_append_right _ _ (by omega), show r.length + 1 + j - r.length = j + 1 by omega, List.set_cons_succ, List.set_append_right _ _ (by simp)]
  simp [List.replicate_succ']
theorem memS_len : ((memS r j e K L).set (r.length + 1 + j) .gone).length = r.length + 1 + (j + 1) := by
  unfold memS
  simp
  omega
end
/-! ### stands -/
theorem wc_inj {f g : Bool} : wc f = wc g ↔ f = g := by cases f <;> cases g <;> simp
theorem eqv_std (s t : Std) : D.eqv (stD s) (stD t) = decide (s = t) := by
  rw [Bool.eq_iff_iff]
  obtain ⟨p, f, i⟩ := s
  obtain ⟨q, g, k⟩ := t
  cases f <;> cases g <;> simp <;> omega
abbrev prD (s : Std × Std) : D := .tup [stD s.1, stD s.2]
theorem eqv_pr (s t : Std × Std) : D.eqv (prD s) (prD t) = decide (s = t) := by
  obtain ⟨s1, s2⟩ := s
  obtain ⟨t1, t2⟩ := t
  have h1 := eqv_std s1 t1
  have h2 := eqv_std s2 t2
  simp only [prD, eqv_tup, eqvL_cons, eqvL_nil, Bool.and_true] at *
  rw [h1, h2, Bool.eq_iff_iff]
  simp
theorem tkey_pr (s : Std × Std) : (prD s).tkey = true := by simp [D.tkey, D.keyL, D.key]
/-- stands that are come to -/
def Std.in_ (a : List Nat) (B : Nat) (s : Std) : Prop := s.p < a.length ∧ s.i ≤ B + (if s.p = 0 then a.length else s.p)
theorem pul_in {a b : List Nat} {n : Int} {B : Nat} {s : Std} {c : Nat} (h2 : 2 ≤ a.length) (hB : (a.length : Int) * n ≤ B) (hs : s.in_ a B) : (pul a b n s c).1.in_ a B := by
  obtain ⟨h1, h3⟩ := hs
  unfold pul
  split
  · split
    · exact ⟨h1, h3⟩
    · rename_i hq
      refine ⟨Nat.mod_lt _ (by omega), ?_⟩
      show s.i + 1 ≤ B + (if (s.p + 1) % a.length = 0 then a.length else (s.p + 1) % a.length)
      by_cases hp : s.p = 0
      · have hi : s.i < B := by
          have : ¬ (a.length : Int) * n ≤ s.i := fun z => hq ⟨hp, z⟩
          omega
        rw [hp, Nat.mod_eq_of_lt (by omega), if_neg (by omega)]
        omega
      · rw [if_neg hp] at h3
        by_cases hl : s.p + 1 = a.length
        · rw [hl, Nat.mod_self, if_pos rfl]
          omega
        · rw [Nat.mod_eq_of_lt (by omega), if_neg (by omega)]
          omega
  · split
    · exact ⟨h1, Nat.zero_le _⟩
    · exact ⟨h1, Nat.zero_le _⟩
/-- all stands that can be come to -/
def allS (l B : Nat) : List Std := (List.range l).flatMap fun p => [false, true].flatMap fun f => (List.range (B + l + 1)).map fun i => ⟨p, f, i⟩
theorem mem_allS {a : List Nat} {B : Nat} {s : Std} (h : s.in_ a B) : s ∈ allS a.length B := by
  obtain ⟨p, f, i⟩ := s
  obtain ⟨h1, h2⟩ := h
  simp only at h1 h2
  unfold allS
  refine List.mem_flatMap.mpr ⟨p, List.mem_range.mpr h1, List.mem_flatMap.mpr ⟨f, by cases f <;> simp, List.mem_map.mpr ⟨i, List.mem_range.mpr ?_, rfl⟩⟩⟩
  split at h2 <;> omega
theorem sum_const (c : Nat) : ∀ l : List Nat, (l.map fun _ => c).sum = l.length * c
  | [] => by simp
  | x :: l => by
    have := sum_const c l
    simp only [List.map_cons, List.sum_cons, List.length_cons, this, Nat.add_mul]
    omega
theorem allS_len (l B : Nat) : (allS l B).length = l * (2 * (B + l + 1)) := by
  unfold allS
  simp only [List.length_flatMap, List.map_cons, List.map_nil, List.sum_cons, List.sum_nil, List.length_map, List.length_range, sum_const]
  congr 1
  omega
/-! ### two printers -/
theorem pul_out {a b : List Nat} {n : Int} (s : Std) (c : Nat) : (pul a b n s c).2.length = if c = 112 then 1 else 0 := by
  unfold pul
  split
  · rename_i h
    subst h
    split <;> simp
  · split
    · rename_i h; simp [h]
    · rename_i h; simp [h]
structure Wl where
  a : List Nat
  b : List Nat
  n : Int
abbrev Wl.pul (w : Wl) (s : Std) (c : Nat) : Std × List Nat := LW.pul w.a w.b w.n s c
abbrev Wl.run (w : Wl) (s : Std) (r : List Nat) : Std × List Nat := LW.run w.a w.b w.n s r
abbrev Wl.D (w : Wl) : D := whD w.a w.b w.n
abbrev Wl.ok (w : Wl) : Prop := Whl w.a w.b w.n
def apS (v w : Wl) : Sea (Std × Std) := { goal := fun _ => false, hit := fun s c => decide ((v.pul s.1 c).2 ≠ (w.pul s.2 c).2), nxt := fun s c => some ((v.pul s.1 c).1, (w.pul s.2 c).1) }
theorem go_ap (v w : Wl) : ∀ (r : List Nat) (s : Std × Std), (v.run s.1 r).2 = (w.run s.2 r).2 → go (apS v w) s r = some ((v.run s.1 r).1, (w.run s.2 r).1)
  | [], s, _ => rfl
  | c :: r, s, h => by
    simp only [Wl.run, run] at h
    have l := congrArg List.length h
    have e1 := pul_out (a := v.a) (b := v.b) (n := v.n) s.1 c
    have e2 := pul_out (a := w.a) (b := w.b) (n := w.n) s.2 c
    obtain ⟨h1, h2⟩ := List.append_inj h (by rw [e1, e2])
    have hh : (apS v w).hit s c = false := by simp [apS, h1]
    rw [go, hh]
    simp only [Bool.false_eq_true, if_false]
    exact go_ap v w r ((v.pul s.1 c).1, (w.pul s.2 c).1) h2
theorem ap_go (v w : Wl) : ∀ (r : List Nat) (s t : Std × Std), go (apS v w) s r = some t → (v.run s.1 r).2 = (w.run s.2 r).2 ∧ t = ((v.run s.1 r).1, (w.run s.2 r).1)
  | [], s, t, h => by cases h; exact ⟨rfl, rfl⟩
  | c :: r, s, t, h => by
    rw [go] at h
    split at h
    · cases h
    · rename_i hh
      have hh' : (v.pul s.1 c).2 = (w.pul s.2 c).2 := by simpa [apS] using hh
      obtain ⟨h1, h2⟩ := ap_go v w r ((v.pul s.1 c).1, (w.pul s.2 c).1) t h
      refine ⟨?_, h2⟩
      show (v.pul s.1 c).2 ++ (v.run (v.pul s.1 c).1 r).2 = (w.pul s.2 c).2 ++ (w.run (w.pul s.2 c).1 r).2
      rw [hh', h1]
theorem run_snoc (w : Wl) (s : Std) (r : List Nat) (c : Nat) : (w.run s (r ++ [c])).2 = (w.run s r).2 ++ (w.pul (w.run s r).1 c).2 := by
  simp [Wl.run, run_append, run]
/-- told apart by a row, as short as can be; or by none -/
def ApR (v w : Wl) (r : List Nat) : Prop := Pls r ∧ (v.run st0 r).2 ≠ (w.run st0 r).2 ∧ ∀ q, Pls q → q.length < r.length → (v.run st0 q).2 = (w.run st0 q).2
def ApN (v w : Wl) : Prop := ∀ q, Pls q → (v.run st0 q).2 = (w.run st0 q).2
theorem ap_same {v w : Wl} {k : Nat} (h : ∀ r' s', Pls r' → r'.length < k → go (apS v w) (st0, st0) r' = some s' → ∀ c ∈ pls, (apS v w).hit s' c = false) : ∀ (n : Nat) (q : List Nat), q.length = n → n ≤ k → Pls q → (v.run st0 q).2 = (w.run st0 q).2 := by
  intro n
  induction n with
  | zero =>
    intro q hq _ _
    have : q = [] := List.eq_nil_of_length_eq_zero hq
    subst this
    rfl
  | succ n ih =>
    intro q hq hk hp
    obtain ⟨q', c, rfl, hq'⟩ := snoc_of hq
    have hp' : Pls q' := fun d hd => hp d (List.mem_append_left _ hd)
    have e := ih q' hq' (by omega) hp'
    have g := go_ap v w q' (st0, st0) e
    have hh := h q' _ hp' (by omega) g c (hp c (List.mem_append_right _ (List.mem_singleton.mpr rfl)))
    rw [run_snoc, run_snoc, e]
    congr 1
    simpa [apS] using hh
theorem fnd_ap {v w : Wl} {r : List Nat} (h : Fnd (apS v w) (st0, st0) r) : ApR v w r := by
  obtain ⟨hp, h⟩ := h
  rcases h with ⟨s, _, hg, _⟩ | ⟨q, c, s, rfl, hg, hh, hno⟩
  · simp [apS] at hg
  · obtain ⟨e1, e2⟩ := ap_go v w q _ _ hg
    refine ⟨hp, fun z => ?_, fun q' hq' hl => ap_same (k := q.length) (fun r' s' a b c => (hno r' s' a b c).2) _ q' rfl (by simp at hl; omega) hq'⟩
    rw [run_snoc, run_snoc, e1] at z
    have z := List.append_cancel_left z
    subst e2
    simp [apS] at hh
    exact hh z
theorem nof_ap {v w : Wl} (h : Nof (apS v w) (st0, st0)) : ApN v w := fun q hq => ap_same (k := q.length) (fun r' s' a _ c => (h r' s' a c).2) _ q rfl (Nat.le_refl _) hq
end LW
/-! PuT: apart_row does the search. -/
namespace LW
def mem0 {S : Type} (r : Mem) (j : Nat) (e : S → D) (K : List S) : Mem := r ++ .gd (K.map e) (K.map fun _ => .bl true) :: List.replicate j .gone
section
variable {S : Type} {r : Mem} {j : Nat} {e : S → D} {K : List S} {L : List D}
theorem mem0_new : mem0 r j e K ++ [.lst []] = memS r j e K [] := by simp [mem0, memS]
theorem mem0_len : (mem0 r j e K).length = r.length + 1 + j := by simp [mem0]; omega
theorem memS_frz : (memS r j e K L).set (r.length + 1 + j) .gone = mem0 r (j + 1) e K := by
  unfold memS mem0
  rw [List.set_append_right _ _ (by omega), show r.length + 1 + j - r.length = j + 1 by omega, List.set_cons_succ, List.set_append_right _ _ (by simp)]
  simp [List.replicate_succ']
theorem gc_mem {m : Mem} {d : D} (hd : d.cl r.length = true) (hr : ∀ x ∈ r, MO.cl r.length x = true) (t : Mem) (hm : m = r ++ t) (ht : t ≠ []) : gcR r.length d m = .ok d r := by
  subst hm
  unfold gcR
  have : 0 < t.length := List.length_pos_iff.mpr ht
  rw [if_neg (by simp; omega), List.take_left, if_pos]
  rw [hd, Bool.true_and, List.all_eq_true]
  exact hr
end
abbrev rwD (x : List Nat × (Std × Std)) : D := .tup [.str x.1, stD x.2.1, stD x.2.2]
abbrev apB : Sm := (seqS (asgS (tupG (consG (nmG 9) (consG (nmG 10) nilG))) (callE m_pulsed (consA (vE 0) (consA (vE 6) (consA (vE 8) nilA)))))
    (seqS (asgS (tupG (consG (nmG 11) (consG (nmG 12) nilG))) (callE m_pulsed (consA (vE 1) (consA (vE 7) (consA (vE 8) nilA)))))
    (seqS (ifS (tE (opE neD (vE 10) (vE 12))) (retS (opE addD (vE 5) (vE 8))) nxS)
    (ifS (tE (opE notInG (tupE (consA (vE 9) (consA (vE 11) nilA))) (vE 2))) (seqS (putG (vE 2) (tupE (consA (vE 9) (consA (vE 11) nilA))) (cE (.bl true)))
    (exS (mtE appM (vE 4) (consA (tupE (consA (opE addD (vE 5) (vE 8)) (consA (vE 9) (consA (vE 11) nilA)))) nilA)))) nxS))))
section
variable {v w : Wl} {r : Mem} {j : Nat} {rw : Option D}
theorem ap_in (hv : v.ok) (hw : w.ok) {row : List Nat} (hrow : row.length ≤ 1000000) {h t : Std} (hh : h.p < v.a.length) (ht : t.p < w.a.length) : ∀ (cs : List Nat) (K : List (Std × Std)) (L : List (List Nat × (Std × Std))) (x8 x9 x10 x11 x12 : Option D), (∀ c ∈ cs, IsPul c) → K.length + cs.length ≤ 1000000 → L.length + cs.length ≤ 1000000 →
    match bfP (apS v w) row (h, t) cs K L with
    | .inl q => ∃ K' L', forL (nmG 8) apB (cs.map fun c => .str [c]) [some v.D, some w.D, some (.ref r.length), rw, some (.ref (r.length + 1 + j)), some (.str row), some (stD h), some (stD t), x8, x9, x10, x11, x12] (memS r j prD K (L.map rwD)) = .ok (.rt (.str q)) (memS r j prD K' L')
    | .inr (K', L') => ∃ y8 y9 y10 y11 y12, forL (nmG 8) apB (cs.map fun c => .str [c]) [some v.D, some w.D, some (.ref r.length), rw, some (.ref (r.length + 1 + j)), some (.str row), some (stD h), some (stD t), x8, x9, x10, x11, x12] (memS r j prD K (L.map rwD)) = .ok (.nx [some v.D, some w.D, some (.ref r.length), rw, some (.ref (r.length + 1 + j)), some (.str row), some (stD h), some (stD t), y8, y9, y10, y11, y12]) (memS r j prD K' (L'.map rwD))
  | [], K, L, x8, x9, x10, x11, x12, _, _, _ => ⟨x8, x9, x10, x11, x12, rfl⟩
  | c :: cs, K, L, x8, x9, x10, x11, x12, hc, hK, hL => by
    simp only [List.length_cons] at hK hL
    have l2 : 2 ≤ lim := by unfold lim; omega
    have l3 : 3 ≤ lim := by unfold lim; omega
    have lr : row.length + 1 ≤ lim := by unfold lim; omega
    have e1 := fun m => pulsed_spec hv hh (hc c (by simp)) m
    have e2 := fun m => pulsed_spec hw ht (hc c (by simp)) m
    rw [bfP, List.map_cons, forL_cons]
    by_cases hq : (v.pul h c).2 = (w.pul t c).2
    · have hhit : (apS v w).hit (h, t) c = false := by simp [apS, hq]
      rw [hhit]
      simp only [Bool.false_eq_true, if_false]
      have hn : (apS v w).nxt (h, t) c = some ((v.pul h c).1, (w.pul t c).1) := rfl
      rw [hn]
      dsimp only
      have gf := gfind_map eqv_pr ((v.pul h c).1, (w.pul t c).1) K
      have tk := tkey_pr ((v.pul h c).1, (w.pul t c).1)
      by_cases hk : ((v.pul h c).1, (w.pul t c).1) ∈ K
      · rw [if_pos hk] at gf ⊢
        have ih := ap_in hv hw hrow hh ht cs K L (some (.str [c])) (some (stD (v.pul h c).1)) (some (.str (v.pul h c).2)) (some (stD (w.pul t c).1)) (some (.str (w.pul t c).2)) (fun d hd => hc d (List.mem_cons_of_mem _ hd)) (by omega) (by omega)
        have one : apB [some v.D, some w.D, some (.ref r.length), rw, some (.ref (r.length + 1 + j)), some (.str row), some (stD h), some (stD t), some (.str [c]), x9, x10, x11, x12] (memS r j prD K (L.map rwD)) = .ok (.nx [some v.D, some w.D, some (.ref r.length), rw, some (.ref (r.length + 1 + j)), some (.str row), some (stD h), some (stD t), some (.str [c]), some (stD (v.pul h c).1), some (.str (v.pul h c).2), some (stD (w.pul t c).1), some (.str (w.pul t c).2)]) (memS r j prD K (L.map rwD)) := by
          simp [e1, e2, hq, l2, notInG, inG, gf, D.keyL, D.key]
        simp only [nmG, R.bind_ok, List.set_cons_succ, List.set_cons_zero, one]
        exact ih
      · rw [if_neg hk] at gf ⊢
        have ih := ap_in hv hw hrow hh ht cs (K ++ [((v.pul h c).1, (w.pul t c).1)]) (L ++ [(row ++ [c], ((v.pul h c).1, (w.pul t c).1))]) (some (.str [c])) (some (stD (v.pul h c).1)) (some (.str (v.pul h c).2)) (some (stD (w.pul t c).1)) (some (.str (w.pul t c).2)) (fun d hd => hc d (List.mem_cons_of_mem _ hd)) (by simp; omega) (by simp; omega)
        have kl : Nat.blt K.length lim = true := by rw [Nat.blt_eq]; unfold lim; omega
        have ll : L.length < lim := by unfold lim; omega
        have gk := gputK_map eqv_pr hk
        have gv := gputV_map eqv_pr hk
        have one : apB [some v.D, some w.D, some (.ref r.length), rw, some (.ref (r.length + 1 + j)), some (.str row), some (stD h), some (stD t), some (.str [c]), x9, x10, x11, x12] (memS r j prD K (L.map rwD)) = .ok (.nx [some v.D, some w.D, some (.ref r.length), rw, some (.ref (r.length + 1 + j)), some (.str row), some (stD h), some (stD t), some (.str [c]), some (stD (v.pul h c).1), some (.str (v.pul h c).2), some (stD (w.pul t c).1), some (.str (w.pul t c).2)]) (memS r j prD (K ++ [((v.pul h c).1, (w.pul t c).1)]) ((L ++ [(row ++ [c], ((v.pul h c).1, (w.pul t c).1))]).map rwD)) := by
          have gs : ∀ LL, (memS r j prD K LL).set r.length (.gd (gputK (.tup [stD (pul v.a v.b v.n h c).1, stD (pul w.a w.b w.n t c).1]) (K.map prD) (K.map fun _ => .bl true)) (gputV (.tup [stD (pul v.a v.b v.n h c).1, stD (pul w.a w.b w.n t c).1]) (.bl true) (K.map prD) (K.map fun _ => .bl true))) = memS r j prD (K ++ [((v.pul h c).1, (w.pul t c).1)]) LL := fun LL => by
            have e3 : gputK (.tup [stD (pul v.a v.b v.n h c).1, stD (pul w.a w.b w.n t c).1]) (K.map prD) (K.map fun _ => .bl true) = _ := gk
            have e4 : gputV (.tup [stD (pul v.a v.b v.n h c).1, stD (pul w.a w.b w.n t c).1]) (.bl true) (K.map prD) (K.map fun _ => .bl true) = _ := gv
            rw [e3, e4]
            exact memS_setg
          simp [e1, e2, hq, l2, notInG, inG, gf, D.keyL, D.key, kl, gs, lr, ll, l3]
        simp only [nmG, R.bind_ok, List.set_cons_succ, List.set_cons_zero, one]
        exact ih
    · have hhit : (apS v w).hit (h, t) c = true := by simp [apS, hq]
      rw [hhit]
      simp only [if_true]
      refine ⟨K, L.map rwD, ?_⟩
      simp [e1, e2, hq, lr]
theorem pls_eq : c_PULSES.map (fun c => D.str [c]) = pls.map fun c => D.str [c] := rfl
theorem pls_pul : ∀ c ∈ pls, IsPul c := fun c hc => by
  simp only [pls, List.mem_cons, List.not_mem_nil, or_false] at hc
  rcases hc with rfl | rfl | rfl | rfl
  · exact .inl rfl
  · exact .inr (.inl rfl)
  · exact .inr (.inr (.inl rfl))
  · exact .inr (.inr (.inr rfl))
theorem pul_pls {c : Nat} (h : IsPul c) : c ∈ pls := by
  rcases h with rfl | rfl | rfl | rfl <;> simp [pls]
/-- a level -/
theorem ap_rows (hv : v.ok) (hw : w.ok) : ∀ (rows : List (List Nat × (Std × Std))) (K : List (Std × Std)) (L : List (List Nat × (Std × Std))) (x5 x6 x7 x8 x9 x10 x11 x12 : Option D), (∀ x ∈ rows, x.1.length ≤ 1000000 ∧ x.2.1.p < v.a.length ∧ x.2.2.p < w.a.length) → K.length + 4 * rows.length ≤ 1000000 → L.length + 4 * rows.length ≤ 1000000 →
    match bfR (apS v w) rows K L with
    | .inl q => ∃ K' L', forL (tupG (consG (nmG 5) (consG (nmG 6) (consG (nmG 7) nilG)))) (forS (itA (cE (.str c_PULSES))) (nmG 8) apB) (rows.map rwD) [some v.D, some w.D, some (.ref r.length), rw, some (.ref (r.length + 1 + j)), x5, x6, x7, x8, x9, x10, x11, x12] (memS r j prD K (L.map rwD)) = .ok (.rt (.str q)) (memS r j prD K' L')
    | .inr (K', L') => ∃ y5 y6 y7 y8 y9 y10 y11 y12, forL (tupG (consG (nmG 5) (consG (nmG 6) (consG (nmG 7) nilG)))) (forS (itA (cE (.str c_PULSES))) (nmG 8) apB) (rows.map rwD) [some v.D, some w.D, some (.ref r.length), rw, some (.ref (r.length + 1 + j)), x5, x6, x7, x8, x9, x10, x11, x12] (memS r j prD K (L.map rwD)) = .ok (.nx [some v.D, some w.D, some (.ref r.length), rw, some (.ref (r.length + 1 + j)), y5, y6, y7, y8, y9, y10, y11, y12]) (memS r j prD K' (L'.map rwD))
  | [], K, L, x5, x6, x7, x8, x9, x10, x11, x12, _, _, _ => ⟨x5, x6, x7, x8, x9, x10, x11, x12, rfl⟩
  | x :: rs, K, L, x5, x6, x7, x8, x9, x10, x11, x12, hx, hK, hL => by
    simp only [List.length_cons] at hK hL
    obtain ⟨h1, h2, h3⟩ := hx x (by simp)
    have inn := ap_in (r := r) (j := j) (rw := rw) hv hw h1 h2 h3 pls K L x8 x9 x10 x11 x12 pls_pul (by simp [pls]; omega) (by simp [pls]; omega)
    have hg : (apS v w).goal x.2 = false := rfl
    rw [bfR, hg, List.map_cons, forL_cons]
    simp only [Bool.false_eq_true, if_false]
    have e0 : (tupG (consG (nmG 5) (consG (nmG 6) (consG (nmG 7) nilG)))) (rwD x) [some v.D, some w.D, some (.ref r.length), rw, some (.ref (r.length + 1 + j)), x5, x6, x7, x8, x9, x10, x11, x12] (memS r j prD K (L.map rwD)) = .ok [some v.D, some w.D, some (.ref r.length), rw, some (.ref (r.length + 1 + j)), some (.str x.1), some (stD x.2.1), some (stD x.2.2), x8, x9, x10, x11, x12] (memS r j prD K (L.map rwD)) := rfl
    have e1 : ∀ g m, forS (itA (cE (.str c_PULSES))) (nmG 8) apB g m = forL (nmG 8) apB (pls.map fun c => .str [c]) g m := fun g m => rfl
    rw [e0, R.bind_ok, e1]
    have hx2 : x.2 = (x.2.1, x.2.2) := rfl
    rw [← hx2] at inn
    cases q : bfP (apS v w) x.1 x.2 pls K L with
    | inl r' =>
      rw [q] at inn
      obtain ⟨K', L', e⟩ := inn
      rw [e]
      exact ⟨K', L', rfl⟩
    | inr z =>
      obtain ⟨K', L'⟩ := z
      rw [q] at inn
      obtain ⟨y8, y9, y10, y11, y12, e⟩ := inn
      rw [e]
      have len := (bfP_r pls K L K' L' q).2.2.2.2.2.2
      have gl : L'.length ≤ L.length + 4 := bfP_len _ _ _ _ _ q
      exact ap_rows hv hw rs K' L' _ _ _ y8 y9 y10 y11 y12 (fun y hy => hx y (List.mem_cons_of_mem _ hy)) (by omega) (by omega)
theorem shL_of {k : Nat} : ∀ {ds : List D}, (∀ d ∈ ds, D.sh k d = true) → D.shL k ds = true
  | [], _ => by simp
  | d :: ds, h => by simp [h d (by simp), shL_of fun e he => h e (List.mem_cons_of_mem _ he)]
theorem sh_rows (rows : List (List Nat × (Std × Std))) : D.shL 8 (rows.map rwD) = true := shL_of fun d hd => by
  obtain ⟨x, _, rfl⟩ := List.mem_map.mp hd
  simp
@[simp] theorem eqvL_nilr (d : D) (ds : List D) : D.eqvL (d :: ds) [] = false := by simp [D.eqvL]
abbrev apW : Sm := (seqS (asgS (nmG 4) (newE (lstE nilA)))
    (seqS (forS (itA (vE 3)) (tupG (consG (nmG 5) (consG (nmG 6) (consG (nmG 7) nilG)))) (forS (itA (cE (.str c_PULSES))) (nmG 8) apB))
    (seqS (frzS 4) (asgS (nmG 3) (vE 4)))))
theorem ap_while (hv : v.ok) (hw : w.ok) {U : List (Std × Std)} (hU : ∀ r s, Pls r → go (apS v w) (st0, st0) r = some s → s ∈ U) (hUl : U.length ≤ 150000) :
    ∀ (f n j : Nat) (K : List (Std × Std)) (rows : List (List Nat × (Std × Std))) (x4 x5 x6 x7 x8 x9 x10 x11 x12 : Option D), BInv (apS v w) (st0, st0) n K rows → rows.length ≤ K.length → n + f ≤ 200000 →
    ∀ res, bfs (apS v w) f K rows = some res → ∃ m' t, m' = r ++ t ∧ t ≠ [] ∧ match res with
      | some q => whileL (tE (opE neD (vE 3) (lstE nilA))) apW f [some v.D, some w.D, some (.ref r.length), some (.lst (rows.map rwD)), x4, x5, x6, x7, x8, x9, x10, x11, x12] (mem0 r j prD K) = .ok (.rt (.str q)) m'
      | none => ∃ g', whileL (tE (opE neD (vE 3) (lstE nilA))) apW f [some v.D, some w.D, some (.ref r.length), some (.lst (rows.map rwD)), x4, x5, x6, x7, x8, x9, x10, x11, x12] (mem0 r j prD K) = .ok (.nx g') m'
  | 0, n, j, K, rows, x4, x5, x6, x7, x8, x9, x10, x11, x12, h, hl, hn, res, e => by cases e
  | f + 1, n, j, K, rows, x4, x5, x6, x7, x8, x9, x10, x11, x12, h, hl, hn, res, e => by
    have hK : K.length ≤ 150000 := Nat.le_trans (nodup_sub_len h.nd fun s hs => let ⟨r, hp, hg⟩ := h.re s hs; hU r s hp hg) hUl
    rw [bfs] at e
    have l0 : 0 ≤ lim := Nat.zero_le _
    have shr := sh_rows rows
    by_cases hr : rows = []
    · rw [if_pos hr] at e
      cases e
      subst hr
      refine ⟨mem0 r j prD K, _, rfl, by simp, [some v.D, some w.D, some (.ref r.length), some (.lst []), x4, x5, x6, x7, x8, x9, x10, x11, x12], ?_⟩
      simp [whileL]
    · rw [if_neg hr] at e
      have hne : D.eqvL (rows.map rwD) [] = false := by
        cases rows with
        | nil => exact absurd rfl hr
        | cons x xs => rw [List.map_cons, eqvL_nilr]
      have valid : ∀ x ∈ rows, x.1.length ≤ 1000000 ∧ x.2.1.p < v.a.length ∧ x.2.2.p < w.a.length := fun x hx => by
        obtain ⟨h1, h2, h3⟩ := h.rw x hx
        obtain ⟨_, e2⟩ := ap_go v w _ _ _ h3
        rw [e2]
        exact ⟨by omega, run_lt _ _ (st0_lt hv), run_lt _ _ (st0_lt hw)⟩
      have lev := ap_rows (r := r) (j := j) (rw := some (.lst (rows.map rwD))) hv hw rows K [] x5 x6 x7 x8 x9 x10 x11 x12 valid (by omega) (by simp; omega)
      have cond : tE (opE neD (vE 3) (lstE nilA)) [some v.D, some w.D, some (.ref r.length), some (.lst (rows.map rwD)), x4, x5, x6, x7, x8, x9, x10, x11, x12] (mem0 r j prD K) = .ok true (mem0 r j prD K) := by
        simp [hne, shr]
      have first : asgS (nmG 4) (newE (lstE nilA)) [some v.D, some w.D, some (.ref r.length), some (.lst (rows.map rwD)), x4, x5, x6, x7, x8, x9, x10, x11, x12] (mem0 r j prD K) = .ok (.nx [some v.D, some w.D, some (.ref r.length), some (.lst (rows.map rwD)), some (.ref (r.length + 1 + j)), x5, x6, x7, x8, x9, x10, x11, x12]) (memS r j prD K []) := by
        simp [mem0_new, mem0_len]
      have it : ∀ m, itA (vE 3) [some v.D, some w.D, some (.ref r.length), some (.lst (rows.map rwD)), some (.ref (r.length + 1 + j)), x5, x6, x7, x8, x9, x10, x11, x12] m = .ok (rows.map rwD) m := fun m => rfl
      cases q : bfR (apS v w) rows K [] with
      | inl r' =>
        rw [q] at e lev
        cases e
        obtain ⟨K', L', e1⟩ := lev
        refine ⟨memS r j prD K' L', _, rfl, by simp, ?_⟩
        simp only [whileL, cond, R.bind_ok, if_true]
        unfold apW
        rw [seqS_eq, first, R.bind_ok]
        dsimp only
        rw [seqS_eq]
        simp only [forS, it, R.bind_ok]
        rw [List.map_nil] at e1
        rw [e1]
        rfl
      | inr z =>
        obtain ⟨K', L'⟩ := z
        rw [q] at e lev
        obtain ⟨y5, y6, y7, y8, y9, y10, y11, y12, e1⟩ := lev
        obtain ⟨a1, a2, a3, a4, a5, a6, a7⟩ := bfR_r rows K [] K' L' q
        simp only [List.length_nil, Nat.add_zero] at a7
        obtain ⟨m', t, em, ht, hres⟩ := ap_while hv hw hU hUl f (n + 1) (j + 1) K' L' (some (.lst (L'.map rwD))) y5 y6 y7 y8 y9 y10 y11 y12 (h.step q) (by omega) (by omega) res e
        refine ⟨m', t, em, ht, ?_⟩
        have body : apW [some v.D, some w.D, some (.ref r.length), some (.lst (rows.map rwD)), x4, x5, x6, x7, x8, x9, x10, x11, x12] (mem0 r j prD K) = .ok (.nx [some v.D, some w.D, some (.ref r.length), some (.lst (L'.map rwD)), some (.lst (L'.map rwD)), y5, y6, y7, y8, y9, y10, y11, y12]) (mem0 r (j + 1) prD K') := by
          unfold apW
          rw [seqS_eq, first, R.bind_ok]
          dsimp only
          rw [seqS_eq]
          simp only [forS, it, R.bind_ok]
          rw [List.map_nil] at e1
          rw [e1, R.bind_ok]
          simp [memS_frz]
        simp only [whileL, cond, R.bind_ok, if_true, body]
        exact hres
end
end LW
namespace LW
theorem run_in {a b : List Nat} {n : Int} {B : Nat} (h2 : 2 ≤ a.length) (hB : (a.length : Int) * n ≤ B) : ∀ (r : List Nat) (s : Std), s.in_ a B → (run a b n s r).1.in_ a B
  | [], s, h => h
  | c :: r, s, h => run_in h2 hB r _ (pul_in h2 hB h)
/-- a bound for idle steps -/
def Wl.B (w : Wl) : Nat := (w.a.length * w.n).toNat
theorem Wl.B_le {w : Wl} : (w.a.length : Int) * w.n ≤ w.B := by unfold Wl.B; omega
theorem Wl.B_bd {w : Wl} (h : w.ok) {k : Nat} (hk : w.a.length ≤ k) : w.B ≤ k * 3 := by
  unfold Wl.B
  have h1 : (w.a.length : Int) * w.n ≤ (k : Int) * 3 := Int.mul_le_mul (by omega) h.n3 (by have := h.n1; omega) (by omega)
  omega
theorem st0_in (w : Wl) (h : w.ok) : st0.in_ w.a w.B := ⟨st0_lt h, Nat.zero_le _⟩
theorem allS_bd {l B k b : Nat} (h1 : l ≤ k) (h2 : B ≤ b) : (allS l B).length ≤ k * (2 * (b + k + 1)) := by
  rw [allS_len]
  exact Nat.mul_le_mul h1 (by omega)
theorem apart_spec {v w : Wl} (hv : v.ok) (hw : w.ok) (lv : v.a.length ≤ 6) (lw : w.a.length ≤ 6) {r : Mem} (hr : ∀ x ∈ r, MO.cl r.length x = true) : ∃ d, m_apart_row [v.D, w.D] r = .ok d r ∧ ((d = .non ∧ ApN v w) ∨ ∃ q, d = .str q ∧ ApR v w q) := by
  obtain ⟨U, hUd⟩ : ∃ U, U = (allS v.a.length v.B).flatMap fun s => (allS w.a.length w.B).map fun t => (s, t) := ⟨_, rfl⟩
  have hU : ∀ r s, Pls r → go (apS v w) (st0, st0) r = some s → s ∈ U := fun r s _ h => by
    obtain ⟨_, e⟩ := ap_go v w r _ _ h
    rw [e, hUd]
    exact List.mem_flatMap.mpr ⟨_, mem_allS (run_in hv.lo Wl.B_le r st0 (st0_in v hv)), List.mem_map.mpr ⟨_, mem_allS (run_in hw.lo Wl.B_le r st0 (st0_in w hw)), rfl⟩⟩
  have hUl : U.length ≤ 90000 := by
    rw [hUd]
    simp only [List.length_flatMap, List.length_map]
    have h1 := allS_bd lv (Wl.B_bd hv lv)
    have h2 := allS_bd lw (Wl.B_bd hw lw)
    have h3 : ((allS v.a.length v.B).map fun _ => (allS w.a.length w.B).length).sum = (allS v.a.length v.B).length * (allS w.a.length w.B).length := by
      generalize allS v.a.length v.B = l
      induction l with
      | nil => simp
      | cons x l ih => simp only [List.map_cons, List.sum_cons, ih, List.length_cons, Nat.add_mul]; omega
    rw [h3]
    exact Nat.le_trans (Nat.mul_le_mul h1 h2) (by decide)
  have st := BInv.start (B := apS v w) (st0, st0)
  have fu := bfs_fuel hU 100000 0 _ _ st (by simp; omega)
  have sp := bfs_spec 100000 0 _ _ st
  cases e : bfs (apS v w) 100000 [(st0, st0)] [([], (st0, st0))] with
  | none => exact absurd e fu
  | some res =>
    obtain ⟨m', t, em, ht, hres⟩ := ap_while (r := r) hv hw hU (by omega) 100000 0 0 _ _ none none none none none none none none none st (by simp) (by omega) res e
    have n1 := fun m => need_wheels_spec hv m
    have n2 := fun m => need_wheels_spec hw m
    have l2 : 2 ≤ lim := by unfold lim; omega
    have l3 : 3 ≤ lim := by unfold lim; omega
    have l1 : 1 ≤ lim := by unfold lim; omega
    have tk : D.keyL 7 [D.tup [.int 0, .str [108], .int 0], D.tup [.int 0, .str [108], .int 0]] = true := by decide
    have m0 : r ++ [MO.gd [D.tup [D.tup [.int 0, .str [108], .int 0], D.tup [.int 0, .str [108], .int 0]]] [.bl true]] = mem0 r 0 prD [(st0, st0)] := rfl
    cases res with
    | some q =>
      refine ⟨.str q, fn_wp ?_, .inr ⟨q, rfl, fnd_ap (sp.1 q e)⟩⟩
      unfold b_apart_row
      refine Wp_seq (by simp [n1]; exact ⟨rfl, rfl⟩) ?_
      refine Wp_seq (by simp [n2]; exact ⟨rfl, rfl⟩) ?_
      refine Wp_seq (by simp [l2, tk]; exact ⟨rfl, rfl⟩) ?_
      refine Wp_seq (by simp [l1, l3]; exact ⟨rfl, rfl⟩) ?_
      rw [m0]
      refine Wp_bind (Wp_of (o := .rt (.str q)) (m1 := m') hres ⟨.inl rfl, gc_mem rfl hr t em ht⟩)
    | none =>
      obtain ⟨g', hres⟩ := hres
      refine ⟨.non, fn_wp ?_, .inl ⟨rfl, nof_ap (sp.2 e)⟩⟩
      unfold b_apart_row
      refine Wp_seq (by simp [n1]; exact ⟨rfl, rfl⟩) ?_
      refine Wp_seq (by simp [n2]; exact ⟨rfl, rfl⟩) ?_
      refine Wp_seq (by simp [l2, tk]; exact ⟨rfl, rfl⟩) ?_
      refine Wp_seq (by simp [l1, l3]; exact ⟨rfl, rfl⟩) ?_
      rw [m0]
      refine Wp_bind (Wp_of (o := .nx g') (m1 := m') hres ?_)
      exact Wp_of (o := .rt .non) (m1 := m') rfl ⟨.inl rfl, gc_mem rfl hr t em ht⟩
end LW
/-! PuV: where a row prints, apart from what stands there; changed wheels. -/
namespace LW
def stp (l : Nat) (n : Int) (s : Std) (c : Nat) : Std :=
  if c = 115 then (if s.p = 0 ∧ (l : Int) * n ≤ s.i then s else ⟨(s.p + 1) % l, s.f, s.i + 1⟩) else if c = 112 then ⟨s.p, s.f, 0⟩ else ⟨s.p, decide (c = 102), 0⟩
def stps (l : Nat) (n : Int) : Std → List Nat → Std
  | s, [] => s
  | s, c :: r => stps l n (stp l n s c) r
/-- the spots at which a row prints -/
def spo (l : Nat) (n : Int) : Std → List Nat → List (Nat × Bool)
  | _, [] => []
  | s, c :: r => (if c = 112 then [(s.p, s.f)] else []) ++ spo l n (stp l n s c) r
/-- the sign at a spot -/
def sgAt (a b : List Nat) (x : Nat × Bool) : Nat := (if x.2 then b else a).getD x.1 0
theorem pul_stp (a b : List Nat) (n : Int) (s : Std) (c : Nat) : pul a b n s c = (stp a.length n s c, if c = 112 then [sgAt a b (s.p, s.f)] else []) := by
  unfold pul stp sgAt
  by_cases h1 : c = 115
  · subst h1
    simp only [if_true, show ¬ (115 : Nat) = 112 by decide, if_false]
    split <;> rfl
  · rw [if_neg h1, if_neg h1]
    by_cases h2 : c = 112
    · simp [h2]
    · simp [h2]
theorem run_spo (a b : List Nat) (n : Int) : ∀ (r : List Nat) (s : Std), run a b n s r = (stps a.length n s r, (spo a.length n s r).map (sgAt a b))
  | [], s => rfl
  | c :: r, s => by
    simp only [run, run_spo a b n r, pul_stp, stps, spo, List.map_append]
    congr 2
    split <;> rfl
theorem spo_append (l : Nat) (n : Int) : ∀ (r q : List Nat) (s : Std), spo l n s (r ++ q) = spo l n s r ++ spo l n (stps l n s r) q
  | [], q, s => rfl
  | c :: r, q, s => by simp [spo, stps, spo_append l n r q]
theorem stps_append (l : Nat) (n : Int) : ∀ (r q : List Nat) (s : Std), stps l n s (r ++ q) = stps l n (stps l n s r) q
  | [], q, s => rfl
  | c :: r, q, s => by simp [stps, stps_append l n r q]
theorem stp_lt {l : Nat} {n : Int} {s : Std} {c : Nat} (h : s.p < l) : (stp l n s c).p < l := by
  unfold stp
  split
  · split
    · exact h
    · exact Nat.mod_lt _ (by omega)
  · split <;> exact h
theorem spo_lt {l : Nat} {n : Int} : ∀ (r : List Nat) (s : Std), s.p < l → ∀ x ∈ spo l n s r, x.1 < l
  | [], s, _, x, hx => by simp [spo] at hx
  | c :: r, s, h, x, hx => by
    rw [spo] at hx
    rcases List.mem_append.mp hx with hx | hx
    · split at hx
      · rw [List.mem_singleton.mp hx]; exact h
      · simp at hx
    · exact spo_lt r _ (stp_lt h) x hx
theorem spo_len {l : Nat} {n : Int} : ∀ (r : List Nat) (s : Std), (spo l n s r).length ≤ r.length
  | [], s => by simp [spo]
  | c :: r, s => by
    have := spo_len (l := l) (n := n) r (stp l n s c)
    simp only [spo, List.length_append, List.length_cons]
    split
    · simp; omega
    · simp; omega
theorem shw_spo (a b : List Nat) (n : Int) (row : List Nat) : shw a b n row = (spo a.length n st0 row).map (sgAt a b) := by
  show (run a b n st0 row).2 = _
  rw [run_spo]
theorem std_stps (a b : List Nat) (n : Int) (row : List Nat) (k : Nat) : std a b n row k = stps a.length n st0 (row.take k) := by
  show (run a b n st0 (row.take k)).1 = _
  rw [run_spo]
/-- the list of prints, spot by spot -/
theorem prs_spo {α : Type} {a b : List Nat} {n : Int} {row : List Nat} (G : D → α) (g : Nat × Bool → α) (h : ∀ i, G (prt a b n row i) = g ((std a b n row i).p, (std a b n row i).f)) : ∀ k, k ≤ row.length → (prs a b n row k).map G = (spo a.length n st0 (row.take k)).map g
  | 0, _ => by simp [prs, spo]
  | k + 1, hk => by
    rw [prs_succ, List.map_append, prs_spo G g h k (by omega), take_succ' (by omega), spo_append, List.map_append, ← std_stps a b]
    congr 1
    simp only [spo, List.append_nil]
    by_cases hq : row.getD k 0 = 112
    · rw [if_pos hq]
      simp only [hq, beq_self_eq_true, if_true, List.map_cons, List.map_nil, h]
    · rw [if_neg hq]
      have : (row.getD k 0 == 112) = false := beq_eq_false_iff_ne.mpr hq
      rw [this]
      rfl
/-! ### wheels changed -/
theorem getD_turn {a : List Nat} {p k : Nat} (hp : p ≤ a.length) (hk : k < a.length) : (a.drop p ++ a.take p).getD k 0 = a.getD ((k + p) % a.length) 0 := by
  rw [List.getD_eq_getElem?_getD, List.getD_eq_getElem?_getD]
  by_cases h : k + p < a.length
  · rw [Nat.mod_eq_of_lt h, List.getElem?_append_left (by simp; omega), List.getElem?_drop, Nat.add_comm]
  · have e : (k + p) % a.length = k + p - a.length := by
      rw [Nat.mod_eq_sub_mod (by omega), Nat.mod_eq_of_lt (by omega)]
    rw [e, List.getElem?_append_right (by simp; omega), List.length_drop, List.getElem?_take_of_lt (by omega)]
    congr 2
    omega
theorem shw_turned {a b : List Nat} {n : Int} (h : Whl a b n) {p : Nat} (hp : p < a.length) (row : List Nat) : shw (a.drop p ++ a.take p) (b.drop p ++ b.take p) n row = (spo a.length n st0 row).map fun x => sgAt a b ((x.1 + p) % a.length, x.2) := by
  have hl : (a.drop p ++ a.take p).length = a.length := by simp; omega
  rw [shw_spo, hl]
  refine List.map_congr_left fun x hx => ?_
  have hx1 := spo_lt row st0 (st0_lt h) x hx
  have hb := h.same
  unfold sgAt
  cases x.2 with
  | false => simp only [Bool.false_eq_true, if_false]; exact getD_turn (by omega) hx1
  | true =>
    simp only [if_true]
    have := getD_turn (a := b) (p := p) (k := x.1) (by omega) (by omega)
    rw [hb] at this
    exact this
theorem turned_whl {a b : List Nat} {n : Int} (h : Whl a b n) {p : Nat} (hp : p < a.length) : Whl (a.drop p ++ a.take p) (b.drop p ++ b.take p) n := by
  have pa : (a.drop p ++ a.take p).Perm a := List.perm_append_comm.trans (by rw [List.take_append_drop])
  have pb : (b.drop p ++ b.take p).Perm b := List.perm_append_comm.trans (by rw [List.take_append_drop])
  have hlo := h.lo
  have hhi := h.hi
  have hs := h.same
  refine ⟨by rw [pa.length_eq]; exact hlo, by rw [pa.length_eq]; exact hhi, by rw [pa.length_eq, pb.length_eq]; exact hs, pa.nodup_iff.mpr h.na, pb.nodup_iff.mpr h.nb, fun c hc => h.sa c (pa.mem_iff.mp hc), fun c hc => h.sb c (pb.mem_iff.mp hc), h.n1, h.n3⟩
theorem swapped_whl {a b : List Nat} {n : Int} (h : Whl a b n) : Whl b a n := ⟨by rw [h.same]; exact h.lo, by rw [h.same]; exact h.hi, h.same.symm, h.nb, h.na, h.sb, h.sa, h.n1, h.n3⟩
theorem shw_exg {a b : List Nat} {n : Int} (h : Whl a b n) (o p : Nat) (row : List Nat) : shw (a.map (exg o p)) (b.map (exg o p)) n row = (shw a b n row).map (exg o p) := by
  rw [shw_spo, shw_spo, List.length_map, List.map_map]
  refine List.map_congr_left fun x hx => ?_
  have hx1 := spo_lt row st0 (st0_lt h) x hx
  have hb := h.same
  unfold sgAt
  simp only [Function.comp]
  cases x.2 with
  | false => simp [List.getD_eq_getElem?_getD, List.getElem?_eq_getElem hx1]
  | true => simp [List.getD_eq_getElem?_getD, List.getElem?_eq_getElem (show x.1 < b.length by omega)]
/-- l and f exchanged -/
def exlf (c : Nat) : Nat := if c = 108 then 102 else if c = 102 then 108 else c
def Std.flip (s : Std) : Std := ⟨s.p, !s.f, s.i⟩
theorem stp_flip {l : Nat} {n : Int} {s : Std} {c : Nat} (hc : IsPul c) : stp l n s.flip (exlf c) = (stp l n s c).flip := by
  rcases hc with rfl | rfl | rfl | rfl
  · obtain ⟨p, f, i⟩ := s
    by_cases hq : p = 0 ∧ (l : Int) * n ≤ (i : Int)
    · simp [stp, exlf, Std.flip, hq]
    · simp [stp, exlf, Std.flip, hq]
  · rfl
  · rfl
  · rfl
theorem spo_flip {l : Nat} {n : Int} : ∀ (r : List Nat) (s : Std), (∀ c ∈ r, IsPul c) → spo l n s.flip (r.map exlf) = (spo l n s r).map fun x => (x.1, !x.2)
  | [], s, _ => rfl
  | c :: r, s, h => by
    have hc := h c (by simp)
    rw [List.map_cons, spo, spo, stp_flip hc, spo_flip r _ fun d hd => h d (List.mem_cons_of_mem _ hd), List.map_append]
    congr 1
    rcases hc with rfl | rfl | rfl | rfl <;> rfl
theorem shw_swapped {a b : List Nat} {n : Int} (h : Whl a b n) {row : List Nat} (hr : ∀ c ∈ row, IsPul c) : shw b a n (102 :: row.map exlf) = shw a b n row := by
  rw [shw_spo, shw_spo, h.same]
  have e : spo a.length n st0 (102 :: row.map exlf) = spo a.length n st0.flip (row.map exlf) := rfl
  rw [e, spo_flip row st0 hr, List.map_map]
  refine List.map_congr_left fun x _ => ?_
  obtain ⟨k, f⟩ := x
  cases f <;> rfl
theorem exlf_pul {c : Nat} (h : IsPul c) : IsPul (exlf c) := by
  rcases h with rfl | rfl | rfl | rfl
  · exact .inl rfl
  · exact .inr (.inl rfl)
  · exact .inr (.inr (.inr rfl))
  · exact .inr (.inr (.inl rfl))
/-! ### to a spot, and print there -/
theorem stps_s {l : Nat} {n : Int} (hn : 1 ≤ n) (f : Bool) : ∀ k, k < l → stps l n ⟨0, f, 0⟩ (List.replicate k 115) = ⟨k, f, k⟩
  | 0, _ => rfl
  | k + 1, h => by
    rw [List.replicate_succ', stps_append, stps_s hn f k (by omega)]
    simp only [stps, stp, if_true]
    rw [if_neg, Nat.mod_eq_of_lt h]
    rintro ⟨h1, h2⟩
    have h1 : k = 0 := h1
    have h2 : (l : Int) * n ≤ (k : Int) := h2
    have : (l : Int) * 1 ≤ l * n := Int.mul_le_mul_of_nonneg_left hn (by omega)
    omega
theorem spo_s {l : Nat} {n : Int} : ∀ (k : Nat) (s : Std), spo l n s (List.replicate k 115) = []
  | 0, s => rfl
  | k + 1, s => by
    rw [List.replicate_succ, spo, spo_s k]
    rfl
/-- the row that goes to a spot from the first stand and prints -/
def toSpot (k : Nat) (f : Bool) : List Nat := (if f then [102] else []) ++ List.replicate k 115 ++ [112]
theorem spo_to {l : Nat} {n : Int} (hn : 1 ≤ n) {k : Nat} (hk : k < l) (f : Bool) : spo l n st0 (toSpot k f) = [(k, f)] := by
  unfold toSpot
  rw [List.append_assoc, spo_append]
  have e1 : spo l n st0 (if f then [102] else []) = [] := by cases f <;> rfl
  have e2 : stps l n st0 (if f then [102] else []) = ⟨0, f, 0⟩ := by cases f <;> rfl
  rw [e1, e2, List.nil_append, spo_append, spo_s, stps_s hn f k hk]
  rfl
theorem toSpot_len (k : Nat) (f : Bool) : (toSpot k f).length ≤ k + 2 := by
  unfold toSpot
  cases f <;> simp <;> omega
theorem toSpot_pls (k : Nat) (f : Bool) : Pls (toSpot k f) := by
  intro c hc
  unfold toSpot at hc
  simp only [List.mem_append, List.mem_replicate, List.mem_singleton] at hc
  rcases hc with (hc | ⟨_, rfl⟩) | rfl
  · cases f with
    | false => simp at hc
    | true => simp at hc; subst hc; simp [pls]
  · simp [pls]
  · simp [pls]
theorem shw_to {a b : List Nat} {n : Int} (h : Whl a b n) {k : Nat} (hk : k < a.length) (f : Bool) : shw a b n (toSpot k f) = [sgAt a b (k, f)] := by
  rw [shw_spo, spo_to h.n1 hk]
  rfl
end LW
/-! PuW: the law's own search for a shortest row. -/
namespace LW
abbrev lvD (x : List Nat × (Std × Std)) : D := prD x.2
abbrev lsB : Sm := (seqS (parS 10 11 (callE m_law_pulse (consA (vE 0) (consA (vE 7) (consA (vE 9) nilA)))) (callE m_law_pulse (consA (vE 1) (consA (vE 8) (consA (vE 9) nilA)))))
    (seqS (ifS (tE (opE neD (opE LW.getD (vE 10) (cE (.int 1))) (opE LW.getD (vE 11) (cE (.int 1))))) (retS (vE 5)) nxS)
    (seqS (asgS (nmG 12) (tupE (consA (opE LW.getD (vE 10) (cE (.int 0))) (consA (opE LW.getD (vE 11) (cE (.int 0))) nilA))))
    (ifS (tE (opE notInG (vE 12) (vE 3))) (seqS (putG (vE 3) (vE 12) (cE (.bl true)))
    (exS (mtE appM (vE 6) (consA (vE 12) nilA)))) nxS))))
section
variable {v w : Wl} {r : Mem} {j n : Nat} {x2 x4 : Option D}
theorem ls_in (hv : v.ok) (hw : w.ok) {row : List Nat} {h t : Std} (hh : h.p < v.a.length) (ht : t.p < w.a.length) : ∀ (cs : List Nat) (K : List (Std × Std)) (L : List (List Nat × (Std × Std))) (x9 x10 x11 x12 : Option D), (∀ c ∈ cs, IsPul c) → K.length + cs.length ≤ 1000000 → L.length + cs.length ≤ 1000000 →
    match bfP (apS v w) row (h, t) cs K L with
    | .inl q => ∃ K' L', forL (nmG 9) lsB (cs.map fun c => .str [c]) [some v.D, some w.D, x2, some (.ref r.length), x4, some (.int n), some (.ref (r.length + 1 + j)), some (stD h), some (stD t), x9, x10, x11, x12] (memS r j prD K (L.map lvD)) = .ok (.rt (.int n)) (memS r j prD K' L')
    | .inr (K', L') => ∃ y9 y10 y11 y12, forL (nmG 9) lsB (cs.map fun c => .str [c]) [some v.D, some w.D, x2, some (.ref r.length), x4, some (.int n), some (.ref (r.length + 1 + j)), some (stD h), some (stD t), x9, x10, x11, x12] (memS r j prD K (L.map lvD)) = .ok (.nx [some v.D, some w.D, x2, some (.ref r.length), x4, some (.int n), some (.ref (r.length + 1 + j)), some (stD h), some (stD t), y9, y10, y11, y12]) (memS r j prD K' (L'.map lvD))
  | [], K, L, x9, x10, x11, x12, _, _, _ => ⟨x9, x10, x11, x12, rfl⟩
  | c :: cs, K, L, x9, x10, x11, x12, hc, hK, hL => by
    simp only [List.length_cons] at hK hL
    have l2 : 2 ≤ lim := by unfold lim; omega
    have e1 := fun m => law_pulse_spec hv hh (hc c (by simp)) m
    have e2 := fun m => law_pulse_spec hw ht (hc c (by simp)) m
    rw [bfP, List.map_cons, forL_cons]
    by_cases hq : (v.pul h c).2 = (w.pul t c).2
    · have hhit : (apS v w).hit (h, t) c = false := by simp [apS, hq]
      rw [hhit]
      simp only [Bool.false_eq_true, if_false]
      have hn : (apS v w).nxt (h, t) c = some ((v.pul h c).1, (w.pul t c).1) := rfl
      rw [hn]
      dsimp only
      have gf := gfind_map eqv_pr ((v.pul h c).1, (w.pul t c).1) K
      by_cases hk : ((v.pul h c).1, (w.pul t c).1) ∈ K
      · rw [if_pos hk] at gf ⊢
        have ih := ls_in hv hw (row := row) hh ht cs K L (some (.str [c])) (some (.tup [stD (v.pul h c).1, .str (v.pul h c).2])) (some (.tup [stD (w.pul t c).1, .str (w.pul t c).2])) (some (prD ((v.pul h c).1, (w.pul t c).1))) (fun d hd => hc d (List.mem_cons_of_mem _ hd)) (by omega) (by omega)
        have one : lsB [some v.D, some w.D, x2, some (.ref r.length), x4, some (.int n), some (.ref (r.length + 1 + j)), some (stD h), some (stD t), some (.str [c]), x10, x11, x12] (memS r j prD K (L.map lvD)) = .ok (.nx [some v.D, some w.D, x2, some (.ref r.length), x4, some (.int n), some (.ref (r.length + 1 + j)), some (stD h), some (stD t), some (.str [c]), some (.tup [stD (v.pul h c).1, .str (v.pul h c).2]), some (.tup [stD (w.pul t c).1, .str (w.pul t c).2]), some (prD ((v.pul h c).1, (w.pul t c).1))]) (memS r j prD K (L.map lvD)) := by
          simp [e1, e2, hq, l2, notInG, inG, gf, D.keyL, D.key]
        simp only [nmG, R.bind_ok, List.set_cons_succ, List.set_cons_zero, one]
        exact ih
      · rw [if_neg hk] at gf ⊢
        have ih := ls_in hv hw (row := row) hh ht cs (K ++ [((v.pul h c).1, (w.pul t c).1)]) (L ++ [(row ++ [c], ((v.pul h c).1, (w.pul t c).1))]) (some (.str [c])) (some (.tup [stD (v.pul h c).1, .str (v.pul h c).2])) (some (.tup [stD (w.pul t c).1, .str (w.pul t c).2])) (some (prD ((v.pul h c).1, (w.pul t c).1))) (fun d hd => hc d (List.mem_cons_of_mem _ hd)) (by simp; omega) (by simp; omega)
        have kl : Nat.blt K.length lim = true := by rw [Nat.blt_eq]; unfold lim; omega
        have ll : L.length < lim := by unfold lim; omega
        have gk := gputK_map eqv_pr hk
        have gv := gputV_map eqv_pr hk
        have one : lsB [some v.D, some w.D, x2, some (.ref r.length), x4, some (.int n), some (.ref (r.length + 1 + j)), some (stD h), some (stD t), some (.str [c]), x10, x11, x12] (memS r j prD K (L.map lvD)) = .ok (.nx [some v.D, some w.D, x2, some (.ref r.length), x4, some (.int n), some (.ref (r.length + 1 + j)), some (stD h), some (stD t), some (.str [c]), some (.tup [stD (v.pul h c).1, .str (v.pul h c).2]), some (.tup [stD (w.pul t c).1, .str (w.pul t c).2]), some (prD ((v.pul h c).1, (w.pul t c).1))]) (memS r j prD (K ++ [((v.pul h c).1, (w.pul t c).1)]) ((L ++ [(row ++ [c], ((v.pul h c).1, (w.pul t c).1))]).map lvD)) := by
          have gs : ∀ LL, (memS r j prD K LL).set r.length (.gd (gputK (.tup [stD (pul v.a v.b v.n h c).1, stD (pul w.a w.b w.n t c).1]) (K.map prD) (K.map fun _ => .bl true)) (gputV (.tup [stD (pul v.a v.b v.n h c).1, stD (pul w.a w.b w.n t c).1]) (.bl true) (K.map prD) (K.map fun _ => .bl true))) = memS r j prD (K ++ [((v.pul h c).1, (w.pul t c).1)]) LL := fun LL => by
            have e3 : gputK (.tup [stD (pul v.a v.b v.n h c).1, stD (pul w.a w.b w.n t c).1]) (K.map prD) (K.map fun _ => .bl true) = _ := gk
            have e4 : gputV (.tup [stD (pul v.a v.b v.n h c).1, stD (pul w.a w.b w.n t c).1]) (.bl true) (K.map prD) (K.map fun _ => .bl true) = _ := gv
            rw [e3, e4]
            exact memS_setg
          simp [e1, e2, hq, l2, notInG, inG, gf, D.keyL, D.key, kl, gs, ll]
        simp only [nmG, R.bind_ok, List.set_cons_succ, List.set_cons_zero, one]
        exact ih
    · have hhit : (apS v w).hit (h, t) c = true := by simp [apS, hq]
      rw [hhit]
      simp only [if_true]
      refine ⟨K, L.map lvD, ?_⟩
      simp [e1, e2, hq]
theorem ls_rows (hv : v.ok) (hw : w.ok) : ∀ (rows : List (List Nat × (Std × Std))) (K : List (Std × Std)) (L : List (List Nat × (Std × Std))) (x7 x8 x9 x10 x11 x12 : Option D), (∀ x ∈ rows, x.2.1.p < v.a.length ∧ x.2.2.p < w.a.length) → K.length + 4 * rows.length ≤ 1000000 → L.length + 4 * rows.length ≤ 1000000 →
    match bfR (apS v w) rows K L with
    | .inl q => ∃ K' L', forL (tupG (consG (nmG 7) (consG (nmG 8) nilG))) (forS (itA (cE (.str [115, 112, 108, 102]))) (nmG 9) lsB) (rows.map lvD) [some v.D, some w.D, x2, some (.ref r.length), x4, some (.int n), some (.ref (r.length + 1 + j)), x7, x8, x9, x10, x11, x12] (memS r j prD K (L.map lvD)) = .ok (.rt (.int n)) (memS r j prD K' L')
    | .inr (K', L') => ∃ y7 y8 y9 y10 y11 y12, forL (tupG (consG (nmG 7) (consG (nmG 8) nilG))) (forS (itA (cE (.str [115, 112, 108, 102]))) (nmG 9) lsB) (rows.map lvD) [some v.D, some w.D, x2, some (.ref r.length), x4, some (.int n), some (.ref (r.length + 1 + j)), x7, x8, x9, x10, x11, x12] (memS r j prD K (L.map lvD)) = .ok (.nx [some v.D, some w.D, x2, some (.ref r.length), x4, some (.int n), some (.ref (r.length + 1 + j)), y7, y8, y9, y10, y11, y12]) (memS r j prD K' (L'.map lvD))
  | [], K, L, x7, x8, x9, x10, x11, x12, _, _, _ => ⟨x7, x8, x9, x10, x11, x12, rfl⟩
  | x :: rs, K, L, x7, x8, x9, x10, x11, x12, hx, hK, hL => by
    simp only [List.length_cons] at hK hL
    obtain ⟨h2, h3⟩ := hx x (by simp)
    have inn := ls_in (r := r) (j := j) (n := n) (x2 := x2) (x4 := x4) (row := x.1) hv hw h2 h3 pls K L x9 x10 x11 x12 pls_pul (by simp [pls]; omega) (by simp [pls]; omega)
    have hg : (apS v w).goal x.2 = false := rfl
    rw [bfR, hg, List.map_cons, forL_cons]
    simp only [Bool.false_eq_true, if_false]
    have e0 : (tupG (consG (nmG 7) (consG (nmG 8) nilG))) (lvD x) [some v.D, some w.D, x2, some (.ref r.length), x4, some (.int n), some (.ref (r.length + 1 + j)), x7, x8, x9, x10, x11, x12] (memS r j prD K (L.map lvD)) = .ok [some v.D, some w.D, x2, some (.ref r.length), x4, some (.int n), some (.ref (r.length + 1 + j)), some (stD x.2.1), some (stD x.2.2), x9, x10, x11, x12] (memS r j prD K (L.map lvD)) := rfl
    have e1 : ∀ g m, forS (itA (cE (.str [115, 112, 108, 102]))) (nmG 9) lsB g m = forL (nmG 9) lsB (pls.map fun c => .str [c]) g m := fun g m => rfl
    rw [e0, R.bind_ok, e1]
    have hx2 : x.2 = (x.2.1, x.2.2) := rfl
    rw [← hx2] at inn
    cases q : bfP (apS v w) x.1 x.2 pls K L with
    | inl r' =>
      rw [q] at inn
      obtain ⟨K', L', e⟩ := inn
      rw [e]
      exact ⟨K', L', rfl⟩
    | inr z =>
      obtain ⟨K', L'⟩ := z
      rw [q] at inn
      obtain ⟨y9, y10, y11, y12, e⟩ := inn
      rw [e]
      have len := (bfP_r pls K L K' L' q).2.2.2.2.2.2
      have gl : L'.length ≤ L.length + 4 := bfP_len _ _ _ _ _ q
      exact ls_rows hv hw rs K' L' _ _ y9 y10 y11 y12 (fun y hy => hx y (List.mem_cons_of_mem _ hy)) (by omega) (by omega)
end
section
variable {v w : Wl} {r : Mem} {x2 : Option D}
theorem sh_lv (rows : List (List Nat × (Std × Std))) : D.shL 8 (rows.map lvD) = true := shL_of fun d hd => by
  obtain ⟨x, _, rfl⟩ := List.mem_map.mp hd
  simp
abbrev lsW : Sm := (seqS (asgS (nmG 5) (opE addD (vE 5) (cE (.int 1))))
    (seqS (asgS (nmG 6) (newE (lstE nilA)))
    (seqS (forS (itA (vE 4)) (tupG (consG (nmG 7) (consG (nmG 8) nilG))) (forS (itA (cE (.str [115, 112, 108, 102]))) (nmG 9) lsB))
    (seqS (frzS 6) (asgS (nmG 4) (vE 6))))))
theorem ls_while (hv : v.ok) (hw : w.ok) {U : List (Std × Std)} (hU : ∀ r s, Pls r → go (apS v w) (st0, st0) r = some s → s ∈ U) (hUl : U.length ≤ 150000) :
    ∀ (f n j : Nat) (K : List (Std × Std)) (rows : List (List Nat × (Std × Std))) (x6 x7 x8 x9 x10 x11 x12 : Option D), BInv (apS v w) (st0, st0) n K rows → rows.length ≤ K.length →
    ∀ res, bfs (apS v w) f K rows = some res → ∃ m' t, m' = r ++ t ∧ t ≠ [] ∧ match res with
      | some q => whileL (tE (opE neD (vE 4) (lstE nilA))) lsW f [some v.D, some w.D, x2, some (.ref r.length), some (.lst (rows.map lvD)), some (.int n), x6, x7, x8, x9, x10, x11, x12] (mem0 r j prD K) = .ok (.rt (.int q.length)) m'
      | none => ∃ g', whileL (tE (opE neD (vE 4) (lstE nilA))) lsW f [some v.D, some w.D, x2, some (.ref r.length), some (.lst (rows.map lvD)), some (.int n), x6, x7, x8, x9, x10, x11, x12] (mem0 r j prD K) = .ok (.nx g') m'
  | 0, n, j, K, rows, x6, x7, x8, x9, x10, x11, x12, h, hl, res, e => by cases e
  | f + 1, n, j, K, rows, x6, x7, x8, x9, x10, x11, x12, h, hl, res, e => by
    have hK : K.length ≤ 150000 := Nat.le_trans (nodup_sub_len h.nd fun s hs => let ⟨r, hp, hg⟩ := h.re s hs; hU r s hp hg) hUl
    rw [bfs] at e
    have l0 : 0 ≤ lim := Nat.zero_le _
    have shr := sh_lv rows
    by_cases hr : rows = []
    · rw [if_pos hr] at e
      cases e
      subst hr
      refine ⟨mem0 r j prD K, _, rfl, by simp, [some v.D, some w.D, x2, some (.ref r.length), some (.lst []), some (.int n), x6, x7, x8, x9, x10, x11, x12], ?_⟩
      simp [whileL]
    · rw [if_neg hr] at e
      have hne : D.eqvL (rows.map lvD) [] = false := by
        cases rows with
        | nil => exact absurd rfl hr
        | cons x xs => rw [List.map_cons, eqvL_nilr]
      have valid : ∀ x ∈ rows, x.2.1.p < v.a.length ∧ x.2.2.p < w.a.length := fun x hx => by
        obtain ⟨h1, h2, h3⟩ := h.rw x hx
        obtain ⟨_, e2⟩ := ap_go v w _ _ _ h3
        rw [e2]
        exact ⟨run_lt _ _ (st0_lt hv), run_lt _ _ (st0_lt hw)⟩
      have lev := ls_rows (r := r) (j := j) (n := n + 1) (x2 := x2) (x4 := some (.lst (rows.map lvD))) hv hw rows K [] x7 x8 x9 x10 x11 x12 valid (by omega) (by simp; omega)
      have cond : tE (opE neD (vE 4) (lstE nilA)) [some v.D, some w.D, x2, some (.ref r.length), some (.lst (rows.map lvD)), some (.int n), x6, x7, x8, x9, x10, x11, x12] (mem0 r j prD K) = .ok true (mem0 r j prD K) := by
        simp [hne, shr]
      have first : asgS (nmG 6) (newE (lstE nilA)) [some v.D, some w.D, x2, some (.ref r.length), some (.lst (rows.map lvD)), some (.int (n + 1 : Nat)), x6, x7, x8, x9, x10, x11, x12] (mem0 r j prD K) = .ok (.nx [some v.D, some w.D, x2, some (.ref r.length), some (.lst (rows.map lvD)), some (.int (n + 1 : Nat)), some (.ref (r.length + 1 + j)), x7, x8, x9, x10, x11, x12]) (memS r j prD K []) := by
        simp [mem0_new, mem0_len]
      have zero : asgS (nmG 5) (opE addD (vE 5) (cE (.int 1))) [some v.D, some w.D, x2, some (.ref r.length), some (.lst (rows.map lvD)), some (.int n), x6, x7, x8, x9, x10, x11, x12] (mem0 r j prD K) = .ok (.nx [some v.D, some w.D, x2, some (.ref r.length), some (.lst (rows.map lvD)), some (.int (n + 1 : Nat)), x6, x7, x8, x9, x10, x11, x12]) (mem0 r j prD K) := rfl
      have it : ∀ m, itA (vE 4) [some v.D, some w.D, x2, some (.ref r.length), some (.lst (rows.map lvD)), some (.int (n + 1 : Nat)), some (.ref (r.length + 1 + j)), x7, x8, x9, x10, x11, x12] m = .ok (rows.map lvD) m := fun m => rfl
      cases q : bfR (apS v w) rows K [] with
      | inl r' =>
        rw [q] at e lev
        cases e
        obtain ⟨K', L', e1⟩ := lev
        have hlen : r'.length = n + 1 := by
          obtain ⟨y, hy, z⟩ := bfR_l rows K [] r' q
          obtain ⟨h1, _⟩ := h.rw y hy
          rcases z with ⟨_, z⟩ | ⟨c, _, rfl, _⟩
          · simp [apS] at z
          · simp [h1]
        refine ⟨memS r j prD K' L', _, rfl, by simp, ?_⟩
        dsimp only; rw [hlen]
        simp only [whileL, cond, R.bind_ok, if_true]
        unfold lsW
        rw [seqS_eq, zero, R.bind_ok]
        dsimp only
        rw [seqS_eq, first, R.bind_ok]
        dsimp only
        rw [seqS_eq]
        simp only [forS, it, R.bind_ok]
        rw [List.map_nil] at e1
        rw [e1]
        rfl
      | inr z =>
        obtain ⟨K', L'⟩ := z
        rw [q] at e lev
        obtain ⟨y7, y8, y9, y10, y11, y12, e1⟩ := lev
        obtain ⟨a1, a2, a3, a4, a5, a6, a7⟩ := bfR_r rows K [] K' L' q
        simp only [List.length_nil, Nat.add_zero] at a7
        obtain ⟨m', t, em, ht, hres⟩ := ls_while hv hw hU hUl f (n + 1) (j + 1) K' L' (some (.lst (L'.map lvD))) y7 y8 y9 y10 y11 y12 (h.step q) (by omega) res e
        refine ⟨m', t, em, ht, ?_⟩
        have body : lsW [some v.D, some w.D, x2, some (.ref r.length), some (.lst (rows.map lvD)), some (.int n), x6, x7, x8, x9, x10, x11, x12] (mem0 r j prD K) = .ok (.nx [some v.D, some w.D, x2, some (.ref r.length), some (.lst (L'.map lvD)), some (.int (n + 1 : Nat)), some (.lst (L'.map lvD)), y7, y8, y9, y10, y11, y12]) (mem0 r (j + 1) prD K') := by
          unfold lsW
          rw [seqS_eq, zero, R.bind_ok]
          dsimp only
          rw [seqS_eq, first, R.bind_ok]
          dsimp only
          rw [seqS_eq]
          simp only [forS, it, R.bind_ok]
          rw [List.map_nil] at e1
          rw [e1, R.bind_ok]
          simp [memS_frz]
        simp only [whileL, cond, R.bind_ok, if_true, body]
        exact hres
theorem shortest_spec {v w : Wl} (hv : v.ok) (hw : w.ok) (lv : v.a.length ≤ 6) (lw : w.a.length ≤ 6) {r : Mem} (hr : ∀ x ∈ r, MO.cl r.length x = true) : ∃ d, m_law_shortest [v.D, w.D] r = .ok d r ∧ ((d = .non ∧ ApN v w) ∨ ∃ q, d = .int (q : List Nat).length ∧ ApR v w q) := by
  obtain ⟨U, hUd⟩ : ∃ U, U = (allS v.a.length v.B).flatMap fun s => (allS w.a.length w.B).map fun t => (s, t) := ⟨_, rfl⟩
  have hU : ∀ r s, Pls r → go (apS v w) (st0, st0) r = some s → s ∈ U := fun r s _ h => by
    obtain ⟨_, e⟩ := ap_go v w r _ _ h
    rw [e, hUd]
    exact List.mem_flatMap.mpr ⟨_, mem_allS (run_in hv.lo Wl.B_le r st0 (st0_in v hv)), List.mem_map.mpr ⟨_, mem_allS (run_in hw.lo Wl.B_le r st0 (st0_in w hw)), rfl⟩⟩
  have hUl : U.length ≤ 90000 := by
    rw [hUd]
    simp only [List.length_flatMap, List.length_map]
    have h1 := allS_bd lv (Wl.B_bd hv lv)
    have h2 := allS_bd lw (Wl.B_bd hw lw)
    have h3 : ((allS v.a.length v.B).map fun _ => (allS w.a.length w.B).length).sum = (allS v.a.length v.B).length * (allS w.a.length w.B).length := by
      generalize allS v.a.length v.B = l
      induction l with
      | nil => simp
      | cons x l ih => simp only [List.map_cons, List.sum_cons, ih, List.length_cons, Nat.add_mul]; omega
    rw [h3]
    exact Nat.le_trans (Nat.mul_le_mul h1 h2) (by decide)
  have st := BInv.start (B := apS v w) (st0, st0)
  have fu := bfs_fuel hU 100000 0 _ _ st (by simp; omega)
  have sp := bfs_spec 100000 0 _ _ st
  cases e : bfs (apS v w) 100000 [(st0, st0)] [([], (st0, st0))] with
  | none => exact absurd e fu
  | some res =>
    obtain ⟨m', t, em, ht, hres⟩ := ls_while (r := r) (x2 := some (prD (st0, st0))) hv hw hU (by omega) 100000 0 0 _ _ none none none none none none none st (by simp) res e
    have l2 : 2 ≤ lim := by unfold lim; omega
    have l3 : 3 ≤ lim := by unfold lim; omega
    have l1 : 1 ≤ lim := by unfold lim; omega
    have tk : D.keyL 7 [D.tup [.int 0, .str [108], .int 0], D.tup [.int 0, .str [108], .int 0]] = true := by decide
    have m0 : r ++ [MO.gd [D.tup [D.tup [.int 0, .str [108], .int 0], D.tup [.int 0, .str [108], .int 0]]] [.bl true]] = mem0 r 0 prD [(st0, st0)] := rfl
    cases res with
    | some q =>
      refine ⟨.int q.length, fn_wp ?_, .inr ⟨q, rfl, fnd_ap (sp.1 q e)⟩⟩
      unfold b_law_shortest
      refine Wp_seq (by simp [l2, l3]; exact ⟨rfl, rfl⟩) ?_
      refine Wp_seq (by simp [l1, tk]; exact ⟨rfl, rfl⟩) ?_
      rw [m0]
      refine Wp_bind (Wp_of (o := .rt (.int q.length)) (m1 := m') hres ⟨.inl rfl, gc_mem rfl hr t em ht⟩)
    | none =>
      obtain ⟨g', hres⟩ := hres
      refine ⟨.non, fn_wp ?_, .inl ⟨rfl, nof_ap (sp.2 e)⟩⟩
      unfold b_law_shortest
      refine Wp_seq (by simp [l2, l3]; exact ⟨rfl, rfl⟩) ?_
      refine Wp_seq (by simp [l1, tk]; exact ⟨rfl, rfl⟩) ?_
      rw [m0]
      refine Wp_bind (Wp_of (o := .nx g') (m1 := m') hres ?_)
      exact Wp_of (o := .rt .non) (m1 := m') rfl ⟨.inl rfl, gc_mem rfl hr t em ht⟩
end
end LW
/-! PvE: searched does the search. -/
namespace LW
def seS (v : Wl) (text : List Nat) : Sea (Std × Nat) where
  goal := fun s => decide (s.2 = text.length)
  hit := fun _ _ => false
  nxt := fun s c => match (v.pul s.1 c).2 with
    | [] => some ((v.pul s.1 c).1, s.2)
    | x :: _ => if text[s.2]? = some x then some ((v.pul s.1 c).1, s.2 + 1) else none
def seD (s : Std × Nat) : D := .tup [stD s.1, .int s.2]
theorem eqv_se (s t : Std × Nat) : D.eqv (seD s) (seD t) = decide (s = t) := by
  obtain ⟨s1, s2⟩ := s
  obtain ⟨t1, t2⟩ := t
  unfold seD
  rw [eqv_tup, eqvL_cons, eqvL_cons, eqvL_nil, eqv_std, eqv_int, Bool.eq_iff_iff]
  simp
  intro _
  omega
theorem tkey_se (s : Std × Nat) : (seD s).tkey = true := by simp [seD, D.tkey, D.keyL, D.key]
def srD (x : List Nat × (Std × Nat)) : D := .tup [.str x.1, stD x.2.1, .int x.2.2]
theorem pul_two (v : Wl) (s : Std) (c : Nat) : (v.pul s c).2 = [] ∨ ∃ x, (v.pul s c).2 = [x] := by
  show (LW.pul v.a v.b v.n s c).2 = [] ∨ ∃ x, (LW.pul v.a v.b v.n s c).2 = [x]
  unfold LW.pul
  by_cases h1 : c = 115
  · rw [if_pos h1]
    split <;> exact .inl rfl
  · rw [if_neg h1]
    by_cases h : c = 112
    · rw [if_pos h]; exact .inr ⟨_, rfl⟩
    · rw [if_neg h]; exact .inl rfl
def seB : Sm := (seqS (asgS (tupG (consG (nmG 10) (consG (nmG 11) nilG))) (callE m_pulsed (consA (vE 0) (consA (vE 7) (consA (vE 9) nilA)))))
    (ifS (andT (tE (opE inD (vE 11) (tupE (consA (cE (.str [])) (consA (opE LW.getD (vE 2) (vE 8)) nilA))))) (tE (opE notInG (tupE (consA (vE 10) (consA (opE addD (vE 8) (bE lenB (consA (vE 11) nilA))) nilA))) (vE 3)))) (seqS (putG (vE 3) (tupE (consA (vE 10) (consA (opE addD (vE 8) (bE lenB (consA (vE 11) nilA))) nilA))) (cE (.bl true)))
    (exS (mtE appM (vE 5) (consA (tupE (consA (opE addD (vE 6) (vE 9)) (consA (vE 10) (consA (opE addD (vE 8) (bE lenB (consA (vE 11) nilA))) nilA)))) nilA)))) nxS))
section
variable {v : Wl} {text : List Nat} {r : Mem} {j : Nat} {x1 x4 : Option D}
theorem se_in (hv : v.ok) {row : List Nat} (hrow : row.length ≤ 1000000) {h : Std} (hh : h.p < v.a.length) {k : Nat} (hk : k < text.length) : ∀ (cs : List Nat) (K : List (Std × Nat)) (L : List (List Nat × (Std × Nat))) (x9 x10 x11 : Option D), (∀ c ∈ cs, IsPul c) → K.length + cs.length ≤ 1000000 → L.length + cs.length ≤ 1000000 →
    ∃ K' L' y9 y10 y11, bfP (seS v text) row (h, k) cs K L = .inr (K', L') ∧ forL (nmG 9) seB (cs.map fun c => .str [c]) [some v.D, x1, some (.str text), some (.ref r.length), x4, some (.ref (r.length + 1 + j)), some (.str row), some (stD h), some (.int k), x9, x10, x11] (memS r j seD K (L.map srD)) = .ok (.nx [some v.D, x1, some (.str text), some (.ref r.length), x4, some (.ref (r.length + 1 + j)), some (.str row), some (stD h), some (.int k), y9, y10, y11]) (memS r j seD K' (L'.map srD))
  | [], K, L, x9, x10, x11, _, _, _ => ⟨K, L, x9, x10, x11, rfl, rfl⟩
  | c :: cs, K, L, x9, x10, x11, hc, hK, hL => by
    simp only [List.length_cons] at hK hL
    have l2 : 2 ≤ lim := by unfold lim; omega
    have l3 : 3 ≤ lim := by unfold lim; omega
    have lr : row.length + 1 ≤ lim := by unfold lim; omega
    have e1 := fun m => pulsed_spec hv hh (hc c (by simp)) m
    have tx : text[k]? = some text[k] := List.getElem?_eq_getElem hk
    have ix : ixD text.length (k : Int) = some k := ixD_nat hk
    have hhit : (seS v text).hit (h, k) c = false := rfl
    have cs' := fun d hd => hc d (List.mem_cons_of_mem _ hd)
    rw [bfP, hhit, List.map_cons, forL_cons]
    simp only [Bool.false_eq_true, if_false]
    -- a sign that does not go on
    by_cases hbad : ∃ x, (v.pul h c).2 = [x] ∧ text[k]? ≠ some x
    · obtain ⟨x, hx, hne⟩ := hbad
      have hn : (seS v text).nxt (h, k) c = none := by simp only [seS, hx]; rw [if_neg hne]
      rw [hn]
      obtain ⟨K', L', y9, y10, y11, q1, q2⟩ := se_in hv hrow hh hk cs K L (some (.str [c])) (some (stD (v.pul h c).1)) (some (.str [x])) cs' (by omega) (by omega)
      refine ⟨K', L', y9, y10, y11, q1, ?_⟩
      have hne' : ¬ text[k] = x := fun z => hne (by rw [tx, z])
      have e1' : ∀ m, m_pulsed [v.D, stD h, .str [c]] m = .ok (.tup [stD (v.pul h c).1, .str [x]]) m := fun m => by rw [← hx]; exact e1 m
      have one : seB [some v.D, x1, some (.str text), some (.ref r.length), x4, some (.ref (r.length + 1 + j)), some (.str row), some (stD h), some (.int k), some (.str [c]), x10, x11] (memS r j seD K (L.map srD)) = .ok (.nx [some v.D, x1, some (.str text), some (.ref r.length), x4, some (.ref (r.length + 1 + j)), some (.str row), some (stD h), some (.int k), some (.str [c]), some (stD (v.pul h c).1), some (.str [x])]) (memS r j seD K (L.map srD)) := by
        unfold seB
        simp [e1', ix, tx, l2, hne']
      simp only [nmG, LW.R.bind_ok, List.set_cons_succ, List.set_cons_zero, one]
      exact q2
    · -- it goes on
      obtain ⟨s', sg, hs, hn, hin⟩ : ∃ (s' : Std × Nat) (sg : List Nat), (v.pul h c).2 = sg ∧ (seS v text).nxt (h, k) c = some s' ∧ s' = ((v.pul h c).1, k + sg.length) ∧ (sg = [] ∨ sg = [text[k]]) := by
        rcases pul_two v h c with hz | ⟨x, hx⟩
        · exact ⟨((v.pul h c).1, k), [], hz, by simp only [seS, hz], rfl, .inl rfl⟩
        · have hq : text[k]? = some x := Classical.byContradiction fun z => hbad ⟨x, hx, z⟩
          have hq' : text[k] = x := by rw [tx] at hq; exact Option.some.inj hq
          exact ⟨((v.pul h c).1, k + 1), [x], hx, by simp only [seS, hx]; rw [if_pos hq], rfl, .inr (by rw [hq'])⟩
      obtain ⟨hs', hsg⟩ := hin
      rw [hn]
      dsimp only
      have gf := gfind_map eqv_se s' K
      have tk := tkey_se s'
      have kd : seD s' = .tup [stD (v.pul h c).1, .int ((k : Int) + (sg.length : Int))] := by rw [hs']; simp [seD]
      rw [kd] at gf tk
      have e1' : ∀ m, m_pulsed [v.D, stD h, .str [c]] m = .ok (.tup [stD (v.pul h c).1, .str sg]) m := fun m => by rw [← hs]; exact e1 m
      have tin : ∀ m, inD m (.str sg) (.tup [.str [], .str [text[k]]]) = some (.bl true) := fun m => by
        rcases hsg with rfl | rfl
        · simp
        · simp
      by_cases hkn : s' ∈ K
      · rw [if_pos hkn] at gf ⊢
        obtain ⟨K', L', y9, y10, y11, q1, q2⟩ := se_in hv hrow hh hk cs K L (some (.str [c])) (some (stD (v.pul h c).1)) (some (.str sg)) cs' (by omega) (by omega)
        refine ⟨K', L', y9, y10, y11, q1, ?_⟩
        have nin : notInG (memS r j seD K (L.map srD)) (.tup [stD (v.pul h c).1, .int ((k : Int) + (sg.length : Int))]) (.ref r.length) = some (.bl false) := by
          simp [notInG, inG, gf, tk, -D.tkey]
        have one : seB [some v.D, x1, some (.str text), some (.ref r.length), x4, some (.ref (r.length + 1 + j)), some (.str row), some (stD h), some (.int k), some (.str [c]), x10, x11] (memS r j seD K (L.map srD)) = .ok (.nx [some v.D, x1, some (.str text), some (.ref r.length), x4, some (.ref (r.length + 1 + j)), some (.str row), some (stD h), some (.int k), some (.str [c]), some (stD (v.pul h c).1), some (.str sg)]) (memS r j seD K (L.map srD)) := by
          unfold seB
          simp [e1', ix, tx, l2, tin, nin, -inD]
        simp only [nmG, LW.R.bind_ok, List.set_cons_succ, List.set_cons_zero, one]
        exact q2
      · rw [if_neg hkn] at gf ⊢
        obtain ⟨K', L', y9, y10, y11, q1, q2⟩ := se_in hv hrow hh hk cs (K ++ [s']) (L ++ [(row ++ [c], s')]) (some (.str [c])) (some (stD (v.pul h c).1)) (some (.str sg)) cs' (by simp; omega) (by simp; omega)
        refine ⟨K', L', y9, y10, y11, q1, ?_⟩
        have nin : notInG (memS r j seD K (L.map srD)) (.tup [stD (v.pul h c).1, .int ((k : Int) + (sg.length : Int))]) (.ref r.length) = some (.bl true) := by
          simp [notInG, inG, gf, tk, -D.tkey]
        have kl : Nat.blt K.length lim = true := by rw [Nat.blt_eq]; unfold lim; omega
        have ll : L.length < lim := by unfold lim; omega
        have gk := gputK_map eqv_se hkn
        have gv := gputV_map eqv_se hkn
        rw [kd] at gk gv
        have gs : ∀ LL, (memS r j seD K LL).set r.length (.gd (gputK (.tup [stD (v.pul h c).1, .int ((k : Int) + (sg.length : Int))]) (K.map seD) (K.map fun _ => .bl true)) (gputV (.tup [stD (v.pul h c).1, .int ((k : Int) + (sg.length : Int))]) (.bl true) (K.map seD) (K.map fun _ => .bl true))) = memS r j seD (K ++ [s']) LL := fun LL => by
          rw [gk, gv]
          exact memS_setg
        have ld : srD (row ++ [c], s') = .tup [.str (row ++ [c]), stD (v.pul h c).1, .int ((k : Int) + (sg.length : Int))] := by rw [hs']; simp [srD]
        have one : seB [some v.D, x1, some (.str text), some (.ref r.length), x4, some (.ref (r.length + 1 + j)), some (.str row), some (stD h), some (.int k), some (.str [c]), x10, x11] (memS r j seD K (L.map srD)) = .ok (.nx [some v.D, x1, some (.str text), some (.ref r.length), x4, some (.ref (r.length + 1 + j)), some (.str row), some (stD h), some (.int k), some (.str [c]), some (stD (v.pul h c).1), some (.str sg)]) (memS r j seD (K ++ [s']) ((L ++ [(row ++ [c], s')]).map srD)) := by
          unfold seB
          rw [List.map_append, List.map_singleton, ld]
          simp [e1', ix, tx, l2, tin, nin, kl, gs, lr, ll, l3, tk, -inD, -D.tkey]
        simp only [nmG, LW.R.bind_ok, List.set_cons_succ, List.set_cons_zero, one]
        exact q2
def seR : Sm := (seqS (ifS (tE (opE eqD (vE 8) (bE lenB (consA (vE 2) nilA)))) (retS (vE 6)) nxS) (forS (itA (cE (.str c_PULSES))) (nmG 9) seB))
theorem se_rows (hv : v.ok) : ∀ (rows : List (List Nat × (Std × Nat))) (K : List (Std × Nat)) (L : List (List Nat × (Std × Nat))) (x6 x7 x8 x9 x10 x11 : Option D), (∀ x ∈ rows, x.1.length ≤ 1000000 ∧ x.2.1.p < v.a.length ∧ x.2.2 ≤ text.length) → K.length + 4 * rows.length ≤ 1000000 → L.length + 4 * rows.length ≤ 1000000 →
    match bfR (seS v text) rows K L with
    | .inl q => ∃ K' L', forL (tupG (consG (nmG 6) (consG (nmG 7) (consG (nmG 8) nilG)))) seR (rows.map srD) [some v.D, x1, some (.str text), some (.ref r.length), x4, some (.ref (r.length + 1 + j)), x6, x7, x8, x9, x10, x11] (memS r j seD K (L.map srD)) = .ok (.rt (.str q)) (memS r j seD K' L')
    | .inr (K', L') => ∃ y6 y7 y8 y9 y10 y11, forL (tupG (consG (nmG 6) (consG (nmG 7) (consG (nmG 8) nilG)))) seR (rows.map srD) [some v.D, x1, some (.str text), some (.ref r.length), x4, some (.ref (r.length + 1 + j)), x6, x7, x8, x9, x10, x11] (memS r j seD K (L.map srD)) = .ok (.nx [some v.D, x1, some (.str text), some (.ref r.length), x4, some (.ref (r.length + 1 + j)), y6, y7, y8, y9, y10, y11]) (memS r j seD K' (L'.map srD))
  | [], K, L, x6, x7, x8, x9, x10, x11, _, _, _ => ⟨x6, x7, x8, x9, x10, x11, rfl⟩
  | x :: rs, K, L, x6, x7, x8, x9, x10, x11, hx, hK, hL => by
    simp only [List.length_cons] at hK hL
    obtain ⟨h1, h2, h3⟩ := hx x (by simp)
    rw [bfR, List.map_cons, forL_cons]
    have e0 : (tupG (consG (nmG 6) (consG (nmG 7) (consG (nmG 8) nilG)))) (srD x) [some v.D, x1, some (.str text), some (.ref r.length), x4, some (.ref (r.length + 1 + j)), x6, x7, x8, x9, x10, x11] (memS r j seD K (L.map srD)) = .ok [some v.D, x1, some (.str text), some (.ref r.length), x4, some (.ref (r.length + 1 + j)), some (.str x.1), some (stD x.2.1), some (.int x.2.2), x9, x10, x11] (memS r j seD K (L.map srD)) := rfl
    rw [e0, LW.R.bind_ok]
    by_cases hg : x.2.2 = text.length
    · have hg' : (seS v text).goal x.2 = true := by simp [seS, hg]
      rw [hg']
      simp only [if_true]
      refine ⟨K, L.map srD, ?_⟩
      have hgi : (x.2.2 : Int) = (text.length : Int) := by omega
      have one : seR [some v.D, x1, some (.str text), some (.ref r.length), x4, some (.ref (r.length + 1 + j)), some (.str x.1), some (stD x.2.1), some (.int x.2.2), x9, x10, x11] (memS r j seD K (L.map srD)) = .ok (.rt (.str x.1)) (memS r j seD K (L.map srD)) := by
        unfold seR
        simp [hgi]
      rw [one]
      rfl
    · have hg' : (seS v text).goal x.2 = false := by simp [seS, hg]
      rw [hg']
      simp only [Bool.false_eq_true, if_false]
      have hgi : ¬ (x.2.2 : Int) = (text.length : Int) := by omega
      obtain ⟨K', L', y9, y10, y11, q1, q2⟩ := se_in (text := text) (x1 := x1) (x4 := x4) (r := r) (j := j) hv h1 h2 (k := x.2.2) (by omega) pls K L x9 x10 x11 pls_pul (by simp [pls]; omega) (by simp [pls]; omega)
      have hx2 : x.2 = (x.2.1, x.2.2) := rfl
      rw [← hx2] at q1
      have one : seR [some v.D, x1, some (.str text), some (.ref r.length), x4, some (.ref (r.length + 1 + j)), some (.str x.1), some (stD x.2.1), some (.int x.2.2), x9, x10, x11] (memS r j seD K (L.map srD)) = forL (nmG 9) seB (pls.map fun c => .str [c]) [some v.D, x1, some (.str text), some (.ref r.length), x4, some (.ref (r.length + 1 + j)), some (.str x.1), some (stD x.2.1), some (.int x.2.2), x9, x10, x11] (memS r j seD K (L.map srD)) := by
        unfold seR
        have e1 : ∀ g m, forS (itA (cE (.str c_PULSES))) (nmG 9) seB g m = forL (nmG 9) seB (pls.map fun c => .str [c]) g m := fun g m => rfl
        rw [seqS_eq]
        have e2 : ifS (tE (opE eqD (vE 8) (bE lenB (consA (vE 2) nilA)))) (retS (vE 6)) nxS [some v.D, x1, some (.str text), some (.ref r.length), x4, some (.ref (r.length + 1 + j)), some (.str x.1), some (stD x.2.1), some (.int x.2.2), x9, x10, x11] (memS r j seD K (L.map srD)) = .ok (.nx [some v.D, x1, some (.str text), some (.ref r.length), x4, some (.ref (r.length + 1 + j)), some (.str x.1), some (stD x.2.1), some (.int x.2.2), x9, x10, x11]) (memS r j seD K (L.map srD)) := by simp [hgi]
        rw [e2, LW.R.bind_ok]
        dsimp only
        rw [e1]
      rw [one, q1, q2]
      have len := (bfP_r pls K L K' L' q1).2.2.2.2.2.2
      have gl : L'.length ≤ L.length + 4 := bfP_len _ _ _ _ _ q1
      exact se_rows hv rs K' L' _ _ _ y9 y10 y11 (fun y hy => hx y (List.mem_cons_of_mem _ hy)) (by omega) (by omega)
def seW : Sm := (seqS (asgS (nmG 5) (newE (lstE nilA)))
    (seqS (forS (itA (vE 4)) (tupG (consG (nmG 6) (consG (nmG 7) (consG (nmG 8) nilG)))) seR)
    (seqS (frzS 5) (asgS (nmG 4) (vE 5)))))
/-- a row leads where its pulses lead, so far as it shows the text -/
theorem se_go : ∀ (q : List Nat) (s u : Std × Nat), go (seS v text) s q = some u → u.1 = (v.run s.1 q).1 ∧ u.2 = s.2 + (v.run s.1 q).2.length ∧ (v.run s.1 q).2 = (text.drop s.2).take (v.run s.1 q).2.length ∧ (s.2 ≤ text.length → u.2 ≤ text.length)
  | [], s, u, h => by cases h; simp [Wl.run, run]
  | c :: q, s, u, h => by
    have hh : (seS v text).hit s c = false := rfl
    simp only [go, hh, Bool.false_eq_true, if_false] at h
    obtain ⟨w, hw, h⟩ := Option.bind_eq_some_iff.mp h
    obtain ⟨i1, i2, i3, i4⟩ := se_go q w u h
    have er : v.run s.1 (c :: q) = ((v.run (v.pul s.1 c).1 q).1, (v.pul s.1 c).2 ++ (v.run (v.pul s.1 c).1 q).2) := rfl
    rcases pul_two v s.1 c with hz | ⟨x, hx⟩
    · simp only [seS, hz] at hw
      cases hw
      rw [er, hz]
      exact ⟨i1, by simpa using i2, by simpa using i3, i4⟩
    · simp only [seS, hx] at hw
      split at hw
      · rename_i ht
        cases hw
        obtain ⟨hl, hg⟩ := List.getElem?_eq_some_iff.mp ht
        rw [er, hx]
        have i2' : u.2 = s.2 + 1 + (v.run (v.pul s.1 c).1 q).2.length := i2
        refine ⟨i1, by simp only [List.length_append, List.length_singleton]; omega, ?_, fun _ => i4 (by show s.2 + 1 ≤ text.length; omega)⟩
        simp only [List.singleton_append, List.length_cons, List.drop_eq_getElem_cons hl, List.take_succ_cons, hg]
        exact congrArg _ i3
      · cases hw
theorem go_se : ∀ (q : List Nat) (s : Std × Nat), (∃ tl, (v.run s.1 q).2 ++ tl = text.drop s.2) → go (seS v text) s q = some ((v.run s.1 q).1, s.2 + (v.run s.1 q).2.length)
  | [], s, _ => by simp [go, Wl.run, run]
  | c :: q, s, ⟨tl, h⟩ => by
    have hh : (seS v text).hit s c = false := rfl
    have er : v.run s.1 (c :: q) = ((v.run (v.pul s.1 c).1 q).1, (v.pul s.1 c).2 ++ (v.run (v.pul s.1 c).1 q).2) := rfl
    rw [er] at h ⊢
    simp only [go, hh, Bool.false_eq_true, if_false]
    rcases pul_two v s.1 c with hz | ⟨x, hx⟩
    · rw [hz] at h ⊢
      have hn : (seS v text).nxt s c = some ((v.pul s.1 c).1, s.2) := by simp only [seS, hz]
      rw [hn, Option.bind_some, go_se q ((v.pul s.1 c).1, s.2) ⟨tl, by simpa using h⟩]
      simp
    · rw [hx] at h ⊢
      simp only [List.singleton_append, List.cons_append] at h
      have hl : s.2 < text.length := Nat.lt_of_not_le fun hle => by rw [List.drop_of_length_le hle] at h; cases h
      rw [List.drop_eq_getElem_cons hl] at h
      obtain ⟨h1, h2⟩ := List.cons.inj h
      have hn : (seS v text).nxt s c = some ((v.pul s.1 c).1, s.2 + 1) := by
        simp only [seS, hx]
        rw [if_pos (by rw [List.getElem?_eq_getElem hl, h1])]
      rw [hn, Option.bind_some, go_se q ((v.pul s.1 c).1, s.2 + 1) ⟨tl, h2⟩]
      simp only [List.singleton_append, List.length_cons]
      congr 2
      omega
theorem sh_srows (rows : List (List Nat × (Std × Nat))) : D.shL 8 (rows.map srD) = true := shL_of fun d hd => by
  obtain ⟨x, _, rfl⟩ := List.mem_map.mp hd
  simp [srD]
theorem se_while (hv : v.ok) {s0 : Std} (h0 : s0.p < v.a.length) {U : List (Std × Nat)} (hU : ∀ r s, Pls r → go (seS v text) (s0, 0) r = some s → s ∈ U) (hUl : U.length ≤ 150000) :
    ∀ (f n j : Nat) (K : List (Std × Nat)) (rows : List (List Nat × (Std × Nat))) (x5 x6 x7 x8 x9 x10 x11 : Option D), BInv (seS v text) (s0, 0) n K rows → rows.length ≤ K.length → n + f ≤ 200000 →
    ∀ q, bfs (seS v text) f K rows = some (some q) → ∃ m' t, m' = r ++ t ∧ t ≠ [] ∧ whileL (tE (cE (.bl true))) seW f [some v.D, x1, some (.str text), some (.ref r.length), some (.lst (rows.map srD)), x5, x6, x7, x8, x9, x10, x11] (mem0 r j seD K) = .ok (.rt (.str q)) m'
  | 0, n, j, K, rows, x5, x6, x7, x8, x9, x10, x11, h, hl, hn, q, e => by cases e
  | f + 1, n, j, K, rows, x5, x6, x7, x8, x9, x10, x11, h, hl, hn, res, e => by
    have hK : K.length ≤ 150000 := Nat.le_trans (nodup_sub_len h.nd fun s hs => let ⟨r, hp, hg⟩ := h.re s hs; hU r s hp hg) hUl
    rw [bfs] at e
    by_cases hr : rows = []
    · rw [if_pos hr] at e
      cases e
    · rw [if_neg hr] at e
      have valid : ∀ x ∈ rows, x.1.length ≤ 1000000 ∧ x.2.1.p < v.a.length ∧ x.2.2 ≤ text.length := fun x hx => by
        obtain ⟨h1, h2, h3⟩ := h.rw x hx
        obtain ⟨g1, _, _, g4⟩ := se_go x.1 _ _ h3
        exact ⟨by omega, by rw [g1]; exact run_lt _ _ h0, g4 (Nat.zero_le _)⟩
      have lev := se_rows (r := r) (j := j) (x1 := x1) (x4 := some (.lst (rows.map srD))) hv rows K [] x6 x7 x8 x9 x10 x11 valid (by omega) (by simp; omega)
      have cond : tE (cE (.bl true)) [some v.D, x1, some (.str text), some (.ref r.length), some (.lst (rows.map srD)), x5, x6, x7, x8, x9, x10, x11] (mem0 r j seD K) = .ok true (mem0 r j seD K) := rfl
      have first : asgS (nmG 5) (newE (lstE nilA)) [some v.D, x1, some (.str text), some (.ref r.length), some (.lst (rows.map srD)), x5, x6, x7, x8, x9, x10, x11] (mem0 r j seD K) = .ok (.nx [some v.D, x1, some (.str text), some (.ref r.length), some (.lst (rows.map srD)), some (.ref (r.length + 1 + j)), x6, x7, x8, x9, x10, x11]) (memS r j seD K []) := by
        simp [mem0_new, mem0_len]
      have it : ∀ m, itA (vE 4) [some v.D, x1, some (.str text), some (.ref r.length), some (.lst (rows.map srD)), some (.ref (r.length + 1 + j)), x6, x7, x8, x9, x10, x11] m = .ok (rows.map srD) m := fun m => rfl
      cases q : bfR (seS v text) rows K [] with
      | inl r' =>
        rw [q] at e lev
        cases e
        obtain ⟨K', L', e1⟩ := lev
        refine ⟨memS r j seD K' L', _, rfl, by simp, ?_⟩
        simp only [whileL, cond, LW.R.bind_ok, if_true]
        unfold seW
        rw [seqS_eq, first, LW.R.bind_ok]
        dsimp only
        rw [seqS_eq]
        simp only [forS, it, LW.R.bind_ok]
        rw [List.map_nil] at e1
        rw [e1]
        rfl
      | inr z =>
        obtain ⟨K', L'⟩ := z
        rw [q] at e lev
        obtain ⟨y6, y7, y8, y9, y10, y11, e1⟩ := lev
        obtain ⟨a1, a2, a3, a4, a5, a6, a7⟩ := bfR_r rows K [] K' L' q
        simp only [List.length_nil, Nat.add_zero] at a7
        obtain ⟨m', t, em, ht, hres⟩ := se_while hv h0 hU hUl f (n + 1) (j + 1) K' L' (some (.lst (L'.map srD))) y6 y7 y8 y9 y10 y11 (h.step q) (by omega) (by omega) res e
        refine ⟨m', t, em, ht, ?_⟩
        have body : seW [some v.D, x1, some (.str text), some (.ref r.length), some (.lst (rows.map srD)), x5, x6, x7, x8, x9, x10, x11] (mem0 r j seD K) = .ok (.nx [some v.D, x1, some (.str text), some (.ref r.length), some (.lst (L'.map srD)), some (.lst (L'.map srD)), y6, y7, y8, y9, y10, y11]) (mem0 r (j + 1) seD K') := by
          unfold seW
          rw [seqS_eq, first, LW.R.bind_ok]
          dsimp only
          rw [seqS_eq]
          simp only [forS, it, LW.R.bind_ok]
          rw [List.map_nil] at e1
          rw [e1, LW.R.bind_ok]
          simp [memS_frz]
        simp only [whileL, cond, LW.R.bind_ok, if_true, body]
        exact hres
end
end LW
/-! PuY: what a row and its tape tell: prints_of, left_open, learned. -/
namespace LW
def spD (x : Nat × Bool) : D := .tup [.int x.1, .str [if x.2 then 102 else 108]]
theorem spD_eqv (x y : Nat × Bool) : D.eqv (spD x) (spD y) = decide (x = y) := by
  obtain ⟨p, f⟩ := x
  obtain ⟨q, g⟩ := y
  rw [Bool.eq_iff_iff]
  cases f <;> cases g <;> simp [spD] <;> omega
@[simp] theorem spD_key (x : Nat × Bool) : (spD x).tkey = true := by simp [spD, D.keyL, D.key]
theorem blank_whl {k : Nat} {n : Int} (h2 : 2 ≤ k) (h3 : k ≤ 30) (n1 : 1 ≤ n) (n3 : n ≤ 3) : Whl (SGN.take k) (SGN.take k) n := by
  have hl : (SGN.take k).length = k := by rw [List.length_take]; simp [c_SIGNS]; omega
  have nd : SGN.Nodup := by decide
  have ndk : (SGN.take k).Nodup := nd.sublist (List.take_sublist k _)
  exact ⟨by omega, by omega, rfl, ndk, ndk, fun c hc => List.mem_of_mem_take hc, fun c hc => List.mem_of_mem_take hc, n1, n3⟩
theorem cut_signs {k : Nat} (h3 : k ≤ 30) : cutD c_SIGNS none (some (k : Int)) = SGN.take k := cutD_to _ k
def poB : Sm := (seqS (ifS (tE (opE eqD (vE 6) (cE (.str [112])))) (exS (mtE appM (vE 5) (consA (slE slD (vE 4) noO (someO (cE (.int 2)))) nilA))) nxS)
    (asgS (nmG 4) (opE LW.getD (callE m_pulsed (consA (vE 3) (consA (vE 4) (consA (vE 6) nilA)))) (cE (.int 0)))))
section
variable {m : Mem} {k : Nat} {n : Int}
theorem po_loop (W : Whl (SGN.take k) (SGN.take k) n) (hk : (SGN.take k).length = k) {x0 x1 x2 : Option D} : ∀ (r : List Nat) (s : Std) (acc : List D) (x6 : Option D), s.p < k → (∀ c ∈ r, IsPul c) → acc.length + r.length ≤ 1000 →
    ∃ s' x6', forL (nmG 6) poB (r.map fun c => .str [c]) [x0, x1, x2, some (whD (SGN.take k) (SGN.take k) n), some (stD s), some (.ref m.length), x6] (m ++ [.lst acc]) = .ok (.nx [x0, x1, x2, some (whD (SGN.take k) (SGN.take k) n), some (stD s'), some (.ref m.length), x6']) (m ++ [.lst (acc ++ (spo k n s r).map spD)])
  | [], s, acc, x6, _, _, _ => ⟨s, x6, by simp [forL, spo]⟩
  | c :: r, s, acc, x6, hp, hr, hl => by
    have hc := hr c (by simp)
    have m0 : (m ++ [MO.lst acc])[m.length]? = some (.lst acc) := by simp
    have hal : acc.length < lim := by simp at hl; unfold lim; omega
    have l : ∀ q : Nat, q ≤ 100 → q ≤ lim := fun q hq => by unfold lim; omega
    have pe := fun m => pulsed_spec W (s := s) (by rw [hk]; exact hp) hc m
    have e2 : (pul (SGN.take k) (SGN.take k) n s c).1 = stp k n s c := by rw [pul_stp, hk]
    by_cases hq : c = 112
    · subst hq
      obtain ⟨s', x6', ih⟩ := po_loop W hk (x0 := x0) (x1 := x1) (x2 := x2) r (stp k n s 112) (acc ++ [spD (s.p, s.f)]) (some (.str [112])) (stp_lt hp) (fun d hd => hr d (List.mem_cons_of_mem _ hd)) (by simp at hl ⊢; omega)
      refine ⟨s', x6', ?_⟩
      rw [List.map_cons, forL_cons]
      have step : poB [x0, x1, x2, some (whD (SGN.take k) (SGN.take k) n), some (stD s), some (.ref m.length), some (.str [112])] (m ++ [.lst acc]) = .ok (.nx [x0, x1, x2, some (whD (SGN.take k) (SGN.take k) n), some (stD (stp k n s 112)), some (.ref m.length), some (.str [112])]) (m ++ [.lst (acc ++ [spD (s.p, s.f)])]) := by
        unfold poB
        simp [m0, hal, pe, e2, spD, l]
      simp only [nmG, R.bind_ok, List.set_cons_succ, List.set_cons_zero, step]
      rw [ih]
      simp [spo]
    · obtain ⟨s', x6', ih⟩ := po_loop W hk (x0 := x0) (x1 := x1) (x2 := x2) r (stp k n s c) acc (some (.str [c])) (stp_lt hp) (fun d hd => hr d (List.mem_cons_of_mem _ hd)) (by simp at hl ⊢; omega)
      refine ⟨s', x6', ?_⟩
      rw [List.map_cons, forL_cons]
      have step : poB [x0, x1, x2, some (whD (SGN.take k) (SGN.take k) n), some (stD s), some (.ref m.length), some (.str [c])] (m ++ [.lst acc]) = .ok (.nx [x0, x1, x2, some (whD (SGN.take k) (SGN.take k) n), some (stD (stp k n s c)), some (.ref m.length), some (.str [c])]) (m ++ [.lst acc]) := by
        unfold poB
        simp [hq, pe, e2, l]
      simp only [nmG, R.bind_ok, List.set_cons_succ, List.set_cons_zero, step]
      rw [ih]
      simp [spo, hq]
theorem spD_cl (j : Nat) : ∀ l : List (Nat × Bool), D.clL j (l.map spD) = true
  | [] => by simp [D.clL]
  | x :: l => by simp [D.clL, D.cl, spD, spD_cl j l]
theorem prints_of_spec (h2 : 2 ≤ k) (h3 : k ≤ 30) (n1 : 1 ≤ n) (n3 : n ≤ 3) {row : List Nat} (hr : ∀ c ∈ row, IsPul c) (hl : row.length ≤ 400) (hm : ∀ x ∈ m, MO.cl m.length x = true) : m_prints_of [.int k, .int n, .str row] m = .ok (.lst ((spo k n st0 row).map spD)) m := by
  have W := blank_whl (n := n) h2 h3 n1 n3
  have hk : (SGN.take k).length = k := by rw [List.length_take]; simp [c_SIGNS]; omega
  have l : ∀ q : Nat, q ≤ 1000 → q ≤ lim := fun q hq => by unfold lim; omega
  obtain ⟨s', x6', e⟩ := po_loop (m := m) W hk (x0 := some (.int k)) (x1 := some (.int n)) (x2 := some (.str row)) row st0 [] none (by show 0 < k; omega) hr (by simp; omega)
  have st : stD st0 = .tup [.int 0, .str [108], .int 0] := rfl
  rw [st] at e
  unfold poB at e
  simp only [List.nil_append] at e
  have m0 : (m ++ [MO.lst ((spo k n st0 row).map spD)])[m.length]? = some (.lst ((spo k n st0 row).map spD)) := by simp
  have cs := cut_signs h3
  simp only [SGN] at e cs
  have g := gc_mem (m := m ++ [MO.gone]) (d := .lst ((spo k n st0 row).map spD)) (r := m) (by simp [D.cl, spD_cl]) hm [.gone] rfl (by simp)
  simp [m_prints_of, b_prints_of, fnS, cs, l, e, m0, g, l row.length (by omega)]
/-! ### left_open -/
def frs (k : Nat) (sp : List (Nat × Bool)) (f : Bool) : List (Nat × Bool) := ((List.range k).map fun p => (p, f)).filter fun x => decide (x ∉ sp)
theorem any_spD (x : Nat × Bool) (l : List (Nat × Bool)) : (l.map spD).any (fun y => D.eqv (spD x) y) = decide (x ∈ l) := by
  rw [Bool.eq_iff_iff]
  simp [spD_eqv]
end
/-! ### the book -/
abbrev Bk := List ((Nat × Bool) × Nat)
def bkF : Bk → Bk → Option Bk
  | [], B => some B
  | z :: r, B => match B.lookup z.1 with
    | some c => if c = z.2 then bkF r B else none
    | none => bkF r (B ++ [z])
def bkM (B : Bk) : MO := .gd (B.map fun e => spD e.1) (B.map fun e => .str [e.2])
theorem gfind_bk (x : Nat × Bool) : ∀ B : Bk, gfind (spD x) (B.map fun e => spD e.1) (B.map fun e => D.str [e.2]) = (B.lookup x).map fun c => .str [c]
  | [] => rfl
  | e :: B => by
    obtain ⟨y, c⟩ := e
    simp only [List.map_cons, gfind, spD_eqv, List.lookup_cons]
    by_cases h : y = x
    · subst h; simp
    · have h' : ¬ x = y := fun e => h e.symm
      have : (x == y) = false := beq_eq_false_iff_ne.mpr h'
      simp [h, this, gfind_bk x B]
def lnB : Sm := (ifS (tE (opE neD (setdG (vE 5) (vE 6) (vE 7)) (vE 7))) (retS (cE .non)) nxS)
section
variable {m : Mem} {x0 x1 x2 x3 x4 x8 x9 x10 x11 x12 : Option D}
theorem ln_loop : ∀ (zs B : Bk) (x6 x7 : Option D), B.length + zs.length ≤ 1000 →
    ∃ B' y6 y7, forL (tupG (consG (nmG 6) (consG (nmG 7) nilG))) lnB (zs.map fun z => .tup [spD z.1, .str [z.2]]) [x0, x1, x2, x3, x4, some (.ref m.length), x6, x7, x8, x9, x10, x11, x12] (m ++ [bkM B]) =
      (match bkF zs B with
        | some B2 => .ok (.nx [x0, x1, x2, x3, x4, some (.ref m.length), y6, y7, x8, x9, x10, x11, x12]) (m ++ [bkM B2])
        | none => .ok (.rt .non) (m ++ [bkM B']))
  | [], B, x6, x7, _ => ⟨B, x6, x7, by simp [forL, bkF]⟩
  | z :: zs, B, x6, x7, hl => by
    obtain ⟨x, c⟩ := z
    have m0 : (m ++ [bkM B])[m.length]? = some (.gd (B.map fun e => spD e.1) (B.map fun e => .str [e.2])) := by simp [bkM]
    have bl : B.length < lim := by simp at hl; unfold lim; omega
    have gf := gfind_bk x B
    rw [List.map_cons, forL_cons]
    cases hq : B.lookup x with
    | some c' =>
      rw [hq] at gf
      by_cases hc : c' = c
      · subst hc
        obtain ⟨B', y6, y7, ih⟩ := ln_loop zs B (some (spD x)) (some (.str [c'])) (by simp at hl; omega)
        refine ⟨B', y6, y7, ?_⟩
        have step : lnB [x0, x1, x2, x3, x4, some (.ref m.length), some (spD x), some (.str [c']), x8, x9, x10, x11, x12] (m ++ [bkM B]) = .ok (.nx [x0, x1, x2, x3, x4, some (.ref m.length), some (spD x), some (.str [c']), x8, x9, x10, x11, x12]) (m ++ [bkM B]) := by
          unfold lnB
          simp [bkM, bl, gf, -D.tkey, spD_key]
        simp only [bkF, hq, if_true]
        simp [step, ih]
      · refine ⟨B, x6, x7, ?_⟩
        have step : lnB [x0, x1, x2, x3, x4, some (.ref m.length), some (spD x), some (.str [c]), x8, x9, x10, x11, x12] (m ++ [bkM B]) = .ok (.rt .non) (m ++ [bkM B]) := by
          unfold lnB
          simp [bkM, bl, gf, hc, -D.tkey, spD_key]
        simp only [bkF, hq, if_neg hc]
        simp [step]
    | none =>
      rw [hq] at gf
      obtain ⟨B', y6, y7, ih⟩ := ln_loop zs (B ++ [(x, c)]) (some (spD x)) (some (.str [c])) (by simp at hl ⊢; omega)
      refine ⟨B', y6, y7, ?_⟩
      have gk : gputK (spD x) (B.map fun e => spD e.1) (B.map fun e => D.str [e.2]) = (B ++ [(x, c)]).map fun e => spD e.1 := by unfold gputK; rw [gf]; simp
      have gv : gputV (spD x) (.str [c]) (B.map fun e => spD e.1) (B.map fun e => D.str [e.2]) = (B ++ [(x, c)]).map fun e => .str [e.2] := by unfold gputV; rw [gf]; simp
      have step : lnB [x0, x1, x2, x3, x4, some (.ref m.length), some (spD x), some (.str [c]), x8, x9, x10, x11, x12] (m ++ [bkM B]) = .ok (.nx [x0, x1, x2, x3, x4, some (.ref m.length), some (spD x), some (.str [c]), x8, x9, x10, x11, x12]) (m ++ [bkM (B ++ [(x, c)])]) := by
        unfold lnB
        simp only [bkM, ← gk, ← gv]
        simp [bl, gf, -D.tkey, spD_key]
      simp only [bkF, hq]
      simp [step, ih]
theorem bkF_len : ∀ (zs B B2 : Bk), bkF zs B = some B2 → B2.length ≤ B.length + zs.length
  | [], B, B2, h => by cases h; simp
  | z :: zs, B, B2, h => by
    unfold bkF at h
    split at h
    · split at h
      · have := bkF_len zs B B2 h; simp; omega
      · cases h
    · have := bkF_len zs (B ++ [z]) B2 h; simp at this ⊢; omega
end
/-- the signs told of a wheel -/
def sgB (B : Bk) (f : Bool) : List Nat := (B.filter fun e => e.1.2 == f).map (·.2)
def fillB (k : Nat) (B : Bk) (f : Bool) : List Nat := (List.range k).map fun p => (B.lookup (p, f)).getD 63
def lrn (k : Nat) (sp : List (Nat × Bool)) (text : List Nat) : Option (List Nat × List Nat) :=
  if sp.length ≠ text.length then none else match bkF (sp.zip text) [] with
    | none => none
    | some B => if (dedup (sgB B false)).length ≠ (sgB B false).length then none else if (dedup (sgB B true)).length ≠ (sgB B true).length then none else some (fillB k B false, fillB k B true)
def lrD : Option (List Nat × List Nat) → D
  | none => .non
  | some x => .tup [.str x.1, .str x.2]
theorem ones_of : ∀ l : List Nat, onesOf (l.map fun c => D.str [c]) = some l
  | [] => rfl
  | c :: l => by simp [onesOf, ones_of l]
end LW
/-! PuZ: learned, left_open, can_show over plain data. -/
namespace LW
def wl (f : Bool) : Nat := if f then 102 else 108
theorem wl_inj {f g : Bool} : wl f = wl g ↔ f = g := by cases f <;> cases g <;> simp [wl]
theorem zip_bk (B : Bk) : List.zipWith (fun k v => D.tup [k, v]) (B.map fun e => spD e.1) (B.map fun e => .str [e.2]) = B.map fun e => .tup [spD e.1, .str [e.2]] := by
  induction B with
  | nil => rfl
  | cons e B ih => simp [ih]
def bkPd (f : Bool) (d : D) : Bool := match d with | .tup [.tup [_, .str w], _] => w == [wl f] | _ => false
def bkSd (d : D) : D := match d with | .tup [_, s] => s | _ => .non
theorem bk_filter (B : Bk) (f : Bool) : ((B.map fun e => D.tup [spD e.1, .str [e.2]]).filter (bkPd f)).map bkSd = (sgB B f).map fun c => .str [c] := by
  induction B with
  | nil => rfl
  | cons e B ih =>
    obtain ⟨⟨p, g⟩, c⟩ := e
    unfold sgB at ih ⊢
    simp only [List.map_cons, List.filter_cons]
    have e1 : bkPd f (.tup [spD (p, g), .str [c]]) = (g == f) := by
      cases f <;> cases g <;> simp [bkPd, spD, wl]
    rw [e1]
    cases hq : g == f with
    | true => simp [ih, bkSd]
    | false => simp [ih]
def lwB : Sm := (seqS (asgS (nmG 10) (lcE (itI (vE 5)) [11, 12, 7] (tupG (consG (tupG (consG (nmG 11) (consG (nmG 12) nilG))) (consG (nmG 7) nilG))) (noXT (tE (opE eqD (vE 12) (vE 9)))) (noX (vE 7))))
    (seqS (ifS (tE (opE neD (unE lenSetL (vE 10)) (bE lenB (consA (vE 10) nilA)))) (retS (cE .non)) nxS)
    (exS (mtE appM (vE 8) (consA (sopE joinD (cE (.str [])) (lcE (itR1 (vE 0)) [11] (nmG 11) yesT (noX (getdG (vE 5) (tupE (consA (vE 11) (consA (vE 9) nilA))) (cE (.str [63])))))) nilA)))))
section
variable {m : Mem} {k : Nat} {x1 x2 x3 x4 x6 x7 x10 : Option D}
theorem spD_wl (p : Nat) (f : Bool) : spD (p, f) = .tup [.int p, .str [wl f]] := rfl
theorem lw_body (B : Bk) (f : Bool) (acc : List D) (hk : k ≤ 30) (hB : B.length ≤ 1000) (ha : acc.length ≤ 5) :
    lwB [some (.int k), x1, x2, x3, x4, some (.gdz (B.map fun e => spD e.1) (B.map fun e => .str [e.2])), x6, x7, some (.ref (m.length + 1)), some (.str [wl f]), x10, none, none] (m ++ [.gone, .lst acc]) =
      if (dedup (sgB B f)).length ≠ (sgB B f).length then .ok (.rt .non) (m ++ [.gone, .lst acc])
      else .ok (.nx [some (.int k), x1, x2, x3, x4, some (.gdz (B.map fun e => spD e.1) (B.map fun e => .str [e.2])), x6, x7, some (.ref (m.length + 1)), some (.str [wl f]), some (.lst ((sgB B f).map fun c => .str [c])), none, none]) (m ++ [.gone, .lst (acc ++ [.str (fillB k B f)])]) := by
  have l : ∀ q : Nat, q ≤ 1000 → q ≤ lim := fun q hq => by unfold lim; omega
  have c1 : ∀ x10, lcL (tupG (consG (tupG (consG (nmG 11) (consG (nmG 12) nilG))) (consG (nmG 7) nilG))) (noXT (tE (opE eqD (vE 12) (vE 9)))) (noX (vE 7))
      [some (.int k), x1, x2, x3, x4, some (.gdz (B.map fun e => spD e.1) (B.map fun e => .str [e.2])), x6, none, some (.ref (m.length + 1)), some (.str [wl f]), x10, none, none] (B.map fun e => .tup [spD e.1, .str [e.2]]) (m ++ [.gone, .lst acc]) = .ok ((sgB B f).map fun c => .str [c]) (m ++ [.gone, .lst acc]) := fun x10 => by
    rw [← bk_filter]
    refine lcL_filter fun d hd => ?_
    obtain ⟨⟨⟨p, g⟩, c⟩, _, rfl⟩ := List.mem_map.mp hd
    refine ⟨_, rfl, ?_, fun _ => ?_⟩
    · rw [spD_wl]
      simp [bkPd]
      rfl
    · simp [bkSd]
  have c2 : ∀ x10, lcL (nmG 11) yesT (noX (getdG (vE 5) (tupE (consA (vE 11) (consA (vE 9) nilA))) (cE (.str [63]))))
      [some (.int k), x1, x2, x3, x4, some (.gdz (B.map fun e => spD e.1) (B.map fun e => .str [e.2])), x6, x7, some (.ref (m.length + 1)), some (.str [wl f]), x10, none, none] ((List.range k).map fun (p : Nat) => D.int p) (m ++ [.gone, .lst acc]) = .ok ((List.range k).map fun p => .str [(B.lookup (p, f)).getD 63]) (m ++ [.gone, .lst acc]) := fun x10 => by
    have e : ((List.range k).map fun p => D.str [(B.lookup (p, f)).getD 63]) = ((List.range k).map fun (p : Nat) => D.int p).map fun d => match d with | .int p => .str [(B.lookup (p.toNat, f)).getD 63] | _ => .non := by
      rw [List.map_map]
      rfl
    rw [e]
    refine lcL_map fun d hd => ?_
    obtain ⟨p, _, rfl⟩ := List.mem_map.mp hd
    refine ⟨_, rfl, ?_⟩
    have gf := gfind_bk (p, f) B
    rw [spD_wl] at gf
    have l2 : 2 ≤ lim := l 2 (by decide)
    have tk : D.tkey (.tup [.int p, .str [wl f]]) = true := by simp [D.keyL, D.key]
    simp [l2, gf, tk, -D.tkey]
    try (cases B.lookup (p, f) <;> rfl)
  have jo := join_ones (fun p : Nat => (B.lookup (p, f)).getD 63) (List.range k) (m ++ [MO.gone, .lst acc]) (by simp; exact l k (by omega))
  have on := ones_of (sgB B f)
  have sl : (sgB B f).length ≤ B.length := by unfold sgB; rw [List.length_map]; exact List.length_filter_le _ _
  have ls : lenSetL (m ++ [MO.gone, .lst acc]) (.lst ((sgB B f).map fun c => .str [c])) = some (.int (dedup (sgB B f)).length) := by
    unfold lenSetL
    simp only [lstOf, on]
    rw [if_pos (by omega)]
  have ik : inR (k : Int) = true := inR_nat (by omega)
  have zb := zip_bk B
  have m1 : (m ++ [MO.gone, MO.lst acc])[m.length + 1]? = some (.lst acc) := by simp
  have al : acc.length < lim := by have := l 6 (by decide); omega
  unfold lwB
  by_cases hd : (dedup (sgB B f)).length = (sgB B f).length
  · rw [if_neg (by simpa using hd)]
    simp [zb, c1, l B.length hB, ls, hd, ik, c2, l k (by omega), jo, m1, al]
    rfl
  · rw [if_pos hd]
    have hd' : ¬ ((dedup (sgB B f)).length : Int) = ((sgB B f).length : Int) := by omega
    simp [zb, c1, l B.length hB, ls, hd, hd']
theorem size_ok {k n : Int} (h1 : 2 ≤ k) (h2 : k ≤ 30) (h3 : 1 ≤ n) (h4 : n ≤ 3) : m_need_size [.int k, .int n] m = .ok .non m := by
  simp [m_need_size, b_need_size, fnS, gcR, h1, h2, h3, h4]
theorem spots_text (sp : List (Nat × Bool)) (text : List Nat) : zipD (sp.map spD) (text.map fun c => .str [c]) = (sp.zip text).map fun z => .tup [spD z.1, .str [z.2]] := by
  unfold zipD
  rw [List.zipWith_map, List.zip, List.map_zipWith]
theorem learned_spec {n : Int} (h2 : 2 ≤ k) (h3 : k ≤ 30) (n1 : 1 ≤ n) (n3 : n ≤ 3) {row text : List Nat} (hr : ∀ c ∈ row, IsPul c) (hl : row.length ≤ 400) (ht : ∀ c ∈ text, c ∈ SGN) (htl : text.length ≤ 400) (hm : ∀ x ∈ m, MO.cl m.length x = true) :
    m_learned [.int k, .int n, .str row, .str text] m = .ok (lrD (lrn k (spo k n st0 row) text)) m := by
  have l : ∀ q : Nat, q ≤ 1000 → q ≤ lim := fun q hq => by unfold lim; omega
  have e1 := size_ok (m := m) (k := k) (n := n) (by omega) (by omega) n1 n3
  have e2 := need_row_spec (s := row) (hi := 400) (by omega) (by omega) hr m
  have e3 := are_signs_spec (s := text) (lo := 0) (hi := 400) (by omega) (by omega) (by omega) ht m
  have e4 := prints_of_spec (m := m) h2 h3 n1 n3 hr hl hm
  have sl := spo_len (l := k) (n := n) row st0
  obtain ⟨sp, hsp⟩ : ∃ sp, sp = spo k n st0 row := ⟨_, rfl⟩
  rw [← hsp] at e4 sl ⊢
  unfold m_learned fnS
  by_cases hq : sp.length = text.length
  · have hq' : (sp.length : Int) = (text.length : Int) := by omega
    have hz : (sp.zip text).length = sp.length := by rw [List.length_zip]; omega
    obtain ⟨B', y6, y7, e5⟩ := ln_loop (m := m) (x0 := some (.int k)) (x1 := some (.int n)) (x2 := some (.str row)) (x3 := some (.str text)) (x4 := some (.lst (sp.map spD))) (x8 := none) (x9 := none) (x10 := none) (x11 := none) (x12 := none) (sp.zip text) [] none none (by simp only [List.length_nil]; omega)
    have zt := spots_text sp text
    have b0 : bkM [] = .gd [] [] := rfl
    rw [b0] at e5
    cases hb : bkF (sp.zip text) [] with
    | none =>
      rw [hb] at e5
      unfold lnB at e5
      have g := gc_mem (m := m ++ [bkM B']) (d := .non) (r := m) (by simp [D.cl]) hm [bkM B'] rfl (by simp)
      have res : lrn k sp text = none := by unfold lrn; rw [if_neg (by simpa using hq), hb]
      rw [res]
      simp [b_learned, e1, e2, e3, e4, hq, hq', zt, e5, g, lrD]
    | some B =>
      rw [hb] at e5
      have bl := bkF_len _ _ _ hb
      simp only [List.length_nil] at bl
      have hB : B.length ≤ 1000 := by omega
      have b1 := lw_body (m := m) (k := k) (x1 := some (.int n)) (x2 := some (.str row)) (x3 := some (.str text)) (x4 := some (.lst (sp.map spD))) (x6 := y6) (x7 := y7) (x10 := none) B false [] h3 hB (by simp)
      have b2 := lw_body (m := m) (k := k) (x1 := some (.int n)) (x2 := some (.str row)) (x3 := some (.str text)) (x4 := some (.lst (sp.map spD))) (x6 := y6) (x7 := y7) (x10 := some (.lst ((sgB B false).map fun c => .str [c]))) B true [.str (fillB k B false)] h3 hB (by simp)
      have mb : (m ++ [bkM B] ++ [MO.lst []])[m.length]? = some (.gd (B.map fun e => spD e.1) (B.map fun e => .str [e.2])) := by simp [bkM]
      have ms : (m ++ [bkM B] ++ [MO.lst []]).set m.length .gone = m ++ [.gone, .lst []] := by simp
      simp only [wl, Bool.false_eq_true, if_false, if_true] at b1 b2
      simp only [lrn, hb]
      rw [if_neg (by simpa using hq)]
      unfold lnB at e5
      obtain ⟨out, mo, loop, gg⟩ : ∃ out mo, forL (nmG 9) lwB [.str [108], .str [102]] [some (.int k), some (.int n), some (.str row), some (.str text), some (.lst (sp.map spD)), some (.gdz (B.map fun e => spD e.1) (B.map fun e => .str [e.2])), y6, y7, some (.ref (m.length + 1)), none, none, none, none] (m ++ [.gone, .lst []]) = .ok out mo ∧
          ((out = .rt .non ∧ (∃ acc, mo = m ++ [.gone, .lst acc]) ∧ lrD (if (dedup (sgB B false)).length ≠ (sgB B false).length then none else if (dedup (sgB B true)).length ≠ (sgB B true).length then none else some (fillB k B false, fillB k B true)) = .non) ∨
           (∃ x10, out = .nx [some (.int k), some (.int n), some (.str row), some (.str text), some (.lst (sp.map spD)), some (.gdz (B.map fun e => spD e.1) (B.map fun e => .str [e.2])), y6, y7, some (.ref (m.length + 1)), some (.str [102]), x10, none, none] ∧ mo = m ++ [.gone, .lst [.str (fillB k B false), .str (fillB k B true)]] ∧ lrD (if (dedup (sgB B false)).length ≠ (sgB B false).length then none else if (dedup (sgB B true)).length ≠ (sgB B true).length then none else some (fillB k B false, fillB k B true)) = .tup [.str (fillB k B false), .str (fillB k B true)])) := by
        simp only [forL_cons, nmG, R.bind_ok, List.set_cons_succ, List.set_cons_zero, b1]
        by_cases d1 : (dedup (sgB B false)).length = (sgB B false).length
        · have d1' : ¬ ((dedup (sgB B false)).length ≠ (sgB B false).length) := by simpa using d1
          simp only [if_neg d1', List.nil_append, R.bind_ok, List.set_cons_succ, List.set_cons_zero, b2]
          by_cases d2 : (dedup (sgB B true)).length = (sgB B true).length
          · have d2' : ¬ ((dedup (sgB B true)).length ≠ (sgB B true).length) := by simpa using d2
            simp only [if_neg d2', R.bind_ok, forL_nil]
            exact ⟨_, _, rfl, .inr ⟨_, rfl, rfl, rfl⟩⟩
          · have d2' : (dedup (sgB B true)).length ≠ (sgB B true).length := d2
            simp only [if_pos d2', R.bind_ok]
            exact ⟨_, _, rfl, .inl ⟨rfl, ⟨_, rfl⟩, rfl⟩⟩
        · have d1' : (dedup (sgB B false)).length ≠ (sgB B false).length := d1
          simp only [if_pos d1', R.bind_ok]
          exact ⟨_, _, rfl, .inl ⟨rfl, ⟨_, rfl⟩, rfl⟩⟩
      unfold lwB at loop
      rcases gg with ⟨rfl, ⟨acc, rfl⟩, res⟩ | ⟨x10, rfl, rfl, res⟩
      · rw [res]
        have g := gc_mem (m := m ++ [.gone, .lst acc]) (d := .non) (r := m) (by simp [D.cl]) hm [.gone, .lst acc] rfl (by simp)
        simp [b_learned, e1, e2, e3, e4, hq, hq', zt, e5, mb, ms, loop, g, bkM, l]
      · rw [res]
        have g := gc_mem (m := m ++ [.gone, .lst [.str (fillB k B false), .str (fillB k B true)]]) (d := .tup [.str (fillB k B false), .str (fillB k B true)]) (r := m) (by simp [D.cl, D.clL]) hm [.gone, .lst [.str (fillB k B false), .str (fillB k B true)]] rfl (by simp)
        simp [b_learned, e1, e2, e3, e4, hq, hq', zt, e5, mb, ms, loop, g, bkM, l]
  · have hq' : ¬ (sp.length : Int) = (text.length : Int) := by omega
    have res : lrn k sp text = none := by unfold lrn; rw [if_pos hq]
    rw [res]
    simp [b_learned, e1, e2, e3, e4, hq, hq', lrD]
end
end LW
/-! PvB: the least row for a text. -/
namespace LW
def seg (k : Nat) (x y : Nat × Bool) : List Nat := List.replicate ((y.1 + k - x.1) % k) 115 ++ (if x.2 = y.2 then [] else [wl y.2]) ++ [112]
theorem seg_len {k : Nat} (hk : 0 < k) (x y : Nat × Bool) : (seg k x y).length ≤ k + 1 := by
  have := Nat.mod_lt (y.1 + k - x.1) hk
  unfold seg
  split <;> simp <;> omega
theorem pymod {k p q : Nat} (hk : 0 < k) (hp : p < k) (hq : q < k) : ((q : Int) - (p : Int)) % (k : Int) = (((q + k - p) % k : Nat) : Int) := by
  have e : (q : Int) - (p : Int) = ((q + k - p : Nat) : Int) - (k : Int) * 1 := by omega
  rw [e, Int.sub_mul_emod_self_left]
  simp
theorem wl_eqv (f g : Bool) : (([wl f] : List Nat) == [wl g]) = decide (f = g) := by cases f <;> cases g <;> rfl
section
variable {m : Mem} {a b : List Nat} {n : Int}
theorem step_row_spec (W : Whl a b n) {x y : Nat × Bool} (hx : x.1 < a.length) (hy : y.1 < a.length) : m_step_row [whD a b n, spD x, spD y] m = .ok (.str (seg a.length x y)) m := by
  obtain ⟨p, f⟩ := x
  obtain ⟨q, g⟩ := y
  simp only at hx hy
  have hlo := W.lo
  have hhi := W.hi
  have la : (0 : Int) < (a.length : Int) := by omega
  have la' : 0 < a.length := by omega
  have e := pymod (by omega) hx hy
  have ml := Nat.mod_lt (q + a.length - p) (show 0 < a.length by omega)
  have rp : repOk 1 (((q + a.length - p) % a.length : Nat) : Int) = true := repOk_of (by omega) (by omega) (by omega)
  have r0 : repOk 1 0 = true := repOk_of (by decide) (by decide) (by decide)
  have r1 : repOk 1 1 = true := repOk_of (by decide) (by decide) (by decide)
  have l : ∀ k : Nat, k ≤ 100 → k ≤ lim := fun k hk => by unfold lim; omega
  have pl : ∀ m, m_places_of [whD a b n] m = .ok (.int a.length) m := fun m => by simp [m_places_of, b_places_of, fnS, gcR, ixD]
  rw [spD_wl, spD_wl]
  by_cases hfg : f = g
  · subst hfg
    simp [m_step_row, b_step_row, fnS, ixD, pl, la, la', e, rp, r0, l, gcR, seg, l _ (show (q + a.length - p) % a.length + 1 ≤ 100 by omega), l _ (show (q + a.length - p) % a.length ≤ 100 by omega), -Int.natCast_emod]
  · have hfg' : ¬ wl f = wl g := fun z => hfg (wl_inj.mp z)
    simp [m_step_row, b_step_row, fnS, ixD, pl, la, la', e, rp, r1, l, gcR, seg, hfg, hfg', l _ (show (q + a.length - p) % a.length + 1 + 1 ≤ 100 by omega), l _ (show (q + a.length - p) % a.length + 1 ≤ 100 by omega), -Int.natCast_emod]
def idx (w : List Nat) (c : Nat) : Nat := w.findIdx (· == c)
def sps (a b : List Nat) (c : Nat) : List (Nat × Bool) := (if c ∈ a then [(idx a c, false)] else []) ++ (if c ∈ b then [(idx b c, true)] else [])
theorem find_idx {w : List Nat} {c : Nat} (h : c ∈ w) : w.findIdx? (· == c) = some (idx w c) := by
  unfold idx
  have hlt : w.findIdx (· == c) < w.length := List.findIdx_lt_length.mpr ⟨c, h, by simp⟩
  rw [List.findIdx?_eq_some_iff_findIdx_eq]
  exact ⟨hlt, rfl⟩
theorem spots_of_spec (c : Nat) : m_spots_of [whD a b n, .str [c]] m = .ok (.lst ((sps a b c).map spD)) m := by
  have l : ∀ k : Nat, k ≤ 100 → k ≤ lim := fun k hk => by unfold lim; omega
  have zz : zipD [D.str a, .str b] [.str [108], .str [102]] = [.tup [.str a, .str [108]], .tup [.str b, .str [102]]] := rfl
  have sx : ∀ (w : List Nat), c ∈ w → ∀ m, sidxD m (.str w) (.str [c]) = some (.int (idx w c)) := fun w h m => by
    unfold sidxD
    simp only [find_idx h]
  by_cases ha : c ∈ a
  · by_cases hb : c ∈ b
    · simp [m_spots_of, b_spots_of, fnS, l, zz, lcL, ha, hb, sx, gcR, sps, spD]
    · simp [m_spots_of, b_spots_of, fnS, l, zz, lcL, ha, hb, sx, gcR, sps, spD]
  · by_cases hb : c ∈ b
    · simp [m_spots_of, b_spots_of, fnS, l, zz, lcL, ha, hb, sx, gcR, sps, spD]
    · simp [m_spots_of, b_spots_of, fnS, l, zz, lcL, ha, hb, sx, gcR, sps, spD]
end
/-! ### the least of rows -/
def rlt (y z : List Nat) : Bool := if y.length = z.length then decide (y < z) else decide (y.length < z.length)
def minR (r : List Nat) (rs : List (List Nat)) : List Nat := rs.foldl (fun z y => if rlt y z then y else z) r
def lrT (r : List Nat) : D := .tup [.int r.length, .str r]
theorem lt_irr (s : List Nat) : decide (s < s) = false := decide_eq_false (List.lt_irrefl s)
theorem lrT_lt (y z : List Nat) : D.lt (lrT y) (lrT z) = rlt y z := by
  unfold lrT rlt
  simp only [D.lt, D.ltL, eqv_int, eqv_str]
  by_cases h : y.length = z.length
  · have : ((y.length : Int) == (z.length : Int)) = true := by simp [h]
    rw [if_pos h, this]
    simp only [if_true]
    by_cases he : y = z
    · subst he
      simp [lt_irr]
    · have : (y == z) = false := beq_eq_false_iff_ne.mpr he
      rw [this]
      simp
  · have : ((y.length : Int) == (z.length : Int)) = false := beq_eq_false_iff_ne.mpr (by omega)
    rw [if_neg h, this]
    simp only [Bool.false_eq_true, if_false]
    congr 1
    apply propext
    omega
theorem minL_rows (r : List Nat) : ∀ rs : List (List Nat), minL (lrT r) (rs.map lrT) = lrT (minR r rs) := fun rs => by
  unfold minL minR
  induction rs generalizing r with
  | nil => rfl
  | cons y rs ih =>
    simp only [List.map_cons, List.foldl_cons, lrT_lt]
    by_cases h : rlt y r = true
    · rw [if_pos h, if_pos h]; exact ih y
    · rw [if_neg h, if_neg h]; exact ih r
theorem minR_mem (r : List Nat) : ∀ rs : List (List Nat), minR r rs ∈ r :: rs := fun rs => by
  unfold minR
  induction rs generalizing r with
  | nil => simp
  | cons y rs ih =>
    simp only [List.foldl_cons]
    by_cases h : rlt y r = true
    · rw [if_pos h]; exact List.mem_cons_of_mem _ (ih y)
    · rw [if_neg h]
      rcases List.mem_cons.mp (ih r) with e | e
      · rw [e]; exact List.mem_cons_self
      · exact List.mem_cons_of_mem _ (List.mem_cons_of_mem _ e)
theorem minR_le (r : List Nat) : ∀ rs : List (List Nat), ∀ y ∈ r :: rs, (minR r rs).length ≤ y.length := fun rs => by
  unfold minR
  induction rs generalizing r with
  | nil => intro y hy; rw [List.mem_singleton.mp hy]; exact Nat.le_refl _
  | cons z rs ih =>
    intro y hy
    simp only [List.foldl_cons]
    by_cases h : rlt z r = true
    · rw [if_pos h]
      have hz : z.length ≤ r.length := by
        unfold rlt at h
        split at h
        · omega
        · have := of_decide_eq_true h; omega
      rcases List.mem_cons.mp hy with rfl | hy
      · exact Nat.le_trans (ih z z List.mem_cons_self) hz
      · exact ih z y hy
    · rw [if_neg h]
      have hz : r.length ≤ z.length := by
        unfold rlt at h
        split at h
        · omega
        · have : ¬ z.length < r.length := fun q => h (decide_eq_true q)
          omega
      rcases List.mem_cons.mp hy with rfl | hy
      · exact ih y y List.mem_cons_self
      · rcases List.mem_cons.mp hy with rfl | hy
        · exact Nat.le_trans (ih r r List.mem_cons_self) hz
        · exact ih r y (List.mem_cons_of_mem _ hy)
theorem alk_rows (r : List Nat) : ∀ rs : List (List Nat), (rs.map lrT).all (D.alk 6 (lrT r)) = true := fun rs => by
  rw [List.all_eq_true]
  intro d hd
  obtain ⟨y, _, rfl⟩ := List.mem_map.mp hd
  simp [lrT, D.alk, D.alkL]
theorem minB_rows {m : Mem} (r : List Nat) (rs : List (List Nat)) : minB m [.lst ((r :: rs).map lrT)] = some (lrT (minR r rs)) := by
  unfold minB
  simp only [lstOf, List.map_cons]
  rw [alk_rows, minL_rows, if_pos (by simp [lrT, D.alk, D.alkL])]
end LW
/-! PvC: least_row over plain data. -/
namespace LW
abbrev Rw := List ((Nat × Bool) × List Nat)
abbrev rwK (R : Rw) : List D := R.map fun e => spD e.1
abbrev rwV (R : Rw) : List D := R.map fun e => .str e.2
def minRs : List (List Nat) → List Nat
  | [] => []
  | r :: rs => minR r rs
def nextR (a b : List Nat) (R : Rw) (c : Nat) : Rw := (sps a b c).map fun y => (y, minRs (R.map fun e => e.2 ++ seg a.length e.1 y))
def dpR (a b : List Nat) : List Nat → Rw → Rw
  | [], R => R
  | c :: t, R => dpR a b t (nextR a b R c)
def lst0 : Rw := [((0, false), [])]
def lstR (a b : List Nat) (t : List Nat) : List Nat := minRs ((dpR a b t lst0).map (·.2))
theorem gfind_rw (x : Nat × Bool) : ∀ R : Rw, gfind (spD x) (rwK R) (rwV R) = (R.lookup x).map fun c => .str c
  | [] => rfl
  | e :: R => by
    obtain ⟨y, c⟩ := e
    simp only [List.map_cons, gfind, spD_eqv, List.lookup_cons]
    by_cases h : y = x
    · subst h; simp
    · have h' : ¬ x = y := fun e => h e.symm
      have : (x == y) = false := beq_eq_false_iff_ne.mpr h'
      simp only [h, decide_false, Bool.false_eq_true, if_false, this]
      exact gfind_rw x R
theorem look_rw : ∀ {R : Rw} {e : (Nat × Bool) × List Nat}, (R.map (·.1)).Nodup → e ∈ R → R.lookup e.1 = some e.2
  | [], e, _, h => by cases h
  | z :: R, e, nd, h => by
    obtain ⟨y, c⟩ := z
    rw [List.lookup_cons]
    rw [List.map_cons] at nd
    obtain ⟨n1, n2⟩ := List.nodup_cons.mp nd
    rcases List.mem_cons.mp h with rfl | h
    · simp
    · have : ¬ e.1 = y := fun he => n1 (by rw [← he]; exact List.mem_map.mpr ⟨e, h, rfl⟩)
      rw [beq_eq_false_iff_ne.mpr this]
      exact look_rw n2 h
theorem look_no : ∀ {R : Rw} {x : Nat × Bool}, x ∉ R.map (·.1) → R.lookup x = none
  | [], x, _ => rfl
  | z :: R, x, h => by
    obtain ⟨y, c⟩ := z
    rw [List.map_cons] at h
    have h1 : ¬ x = y := fun e => h (by rw [e]; exact List.mem_cons_self)
    rw [List.lookup_cons, beq_eq_false_iff_ne.mpr h1]
    exact look_no fun hx => h (List.mem_cons_of_mem _ hx)
structure RwOk (k : Nat) (R : Rw) (B : Nat) : Prop where
  ne : R ≠ []
  few : R.length ≤ 2
  nd : (R.map (·.1)).Nodup
  pl : ∀ e ∈ R, e.1.1 < k
  ln : ∀ e ∈ R, e.2.length ≤ B
def inB : Sm := (seqS (asgS (nmG 6) (lcE (itK (vE 2)) [7] (nmG 7) yesT (noX (opE addD (opE getG (vE 2) (vE 7)) (callE m_step_row (consA (vE 0) (consA (vE 7) (consA (vE 5) nilA))))))))
    (putG (vE 4) (vE 5) (opE LW.getD (bE minB (consA (lcE (itA (vE 6)) [8] (nmG 8) yesT (noX (tupE (consA (bE lenB (consA (vE 8) nilA)) (consA (vE 8) nilA))))) nilA)) (cE (.int 1)))))
section
variable {M : Mem} {a b : List Nat} {n : Int} {x1 x3 : Option D}
theorem rows_lc {m : Mem} {g : Env} (hg : g.length = 9) : ∀ rs : List (List Nat), lcL (nmG 8) yesT (noX (tupE (consA (bE lenB (consA (vE 8) nilA)) (consA (vE 8) nilA)))) g (rs.map D.str) m = .ok (rs.map lrT) m := fun rs => by
  have e : rs.map lrT = (rs.map D.str).map fun d => match d with | .str r => lrT r | _ => .non := by rw [List.map_map]; rfl
  rw [e]
  refine lcL_map fun d hd => ?_
  obtain ⟨r, _, rfl⟩ := List.mem_map.mp hd
  refine ⟨_, rfl, ?_⟩
  have g8 : (g.set 8 (some (D.str r)))[8]? = some (some (.str r)) := by rw [List.getElem?_set_self (by omega)]
  have l2 : 2 ≤ lim := by unfold lim; omega
  simp [g8, l2, lrT]
theorem minRs_B {m : Mem} {rs : List (List Nat)} (h : rs ≠ []) : minB m [.lst (rs.map lrT)] = some (lrT (minRs rs)) := by
  cases rs with
  | nil => exact absurd rfl h
  | cons r rs => exact minB_rows r rs
theorem in_body (W : Whl a b n) {R : Rw} {B : Nat} (ok : RwOk a.length R B) (hB : B ≤ 10000) {y : Nat × Bool} (hy : y.1 < a.length) {P : Rw} (hP : P.length ≤ 5) (hyP : y ∉ P.map (·.1)) (x6 x7 x8 : Option D) :
    inB [some (whD a b n), x1, some (.gdz (rwK R) (rwV R)), x3, some (.ref M.length), some (spD y), x6, none, none] (M ++ [.gd (rwK P) (rwV P)]) =
      .ok (.nx [some (whD a b n), x1, some (.gdz (rwK R) (rwV R)), x3, some (.ref M.length), some (spD y), some (.lst (R.map fun e => .str (e.2 ++ seg a.length e.1 y))), none, none]) (M ++ [.gd (rwK (P ++ [(y, minRs (R.map fun e => e.2 ++ seg a.length e.1 y))])) (rwV (P ++ [(y, minRs (R.map fun e => e.2 ++ seg a.length e.1 y))]))]) := by
  have hlo := W.lo
  have hhi := W.hi
  have l : ∀ k : Nat, k ≤ 20000 → k ≤ lim := fun k hk => by unfold lim; omega
  have c1 : ∀ x6, lcL (nmG 7) yesT (noX (opE addD (opE getG (vE 2) (vE 7)) (callE m_step_row (consA (vE 0) (consA (vE 7) (consA (vE 5) nilA))))))
      [some (whD a b n), x1, some (.gdz (rwK R) (rwV R)), x3, some (.ref M.length), some (spD y), x6, none, none] (rwK R) (M ++ [.gd (rwK P) (rwV P)]) = .ok (R.map fun e => .str (e.2 ++ seg a.length e.1 y)) (M ++ [.gd (rwK P) (rwV P)]) := fun x6 => by
    have key : ∀ (Q : Rw), (∀ e ∈ Q, e ∈ R) → lcL (nmG 7) yesT (noX (opE addD (opE getG (vE 2) (vE 7)) (callE m_step_row (consA (vE 0) (consA (vE 7) (consA (vE 5) nilA))))))
      [some (whD a b n), x1, some (.gdz (rwK R) (rwV R)), x3, some (.ref M.length), some (spD y), x6, none, none] (rwK Q) (M ++ [.gd (rwK P) (rwV P)]) = .ok (Q.map fun e => .str (e.2 ++ seg a.length e.1 y)) (M ++ [.gd (rwK P) (rwV P)]) := fun Q => by
      induction Q with
      | nil => intro _; rfl
      | cons e Q ih =>
        intro hQ
        have he := hQ e List.mem_cons_self
        have gf := gfind_rw e.1 R
        rw [look_rw ok.nd he] at gf
        have st := fun m => step_row_spec (m := m) W (ok.pl e he) hy
        have sl := seg_len (k := a.length) (by omega) e.1 y
        have el := ok.ln e he
        have tk := spD_key e.1
        have ge : ∀ m, getG m (.gdz (rwK R) (rwV R)) (spD e.1) = some (.str e.2) := fun m => by
          unfold getG
          simp only [tk, if_true, gf]
          rfl
        have ihq := ih fun z hz => hQ z (List.mem_cons_of_mem _ hz)
        simp only [List.map_cons, lcL]
        simp [ge, st, l _ (show e.2.length + (seg a.length e.1 y).length ≤ 20000 by omega), ihq]
    exact key R fun e he => he
  have es : (R.map fun e => D.str (e.2 ++ seg a.length e.1 y)) = (R.map fun e => e.2 ++ seg a.length e.1 y).map D.str := by rw [List.map_map]; rfl
  have c2 := fun x6 => rows_lc (m := M ++ [.gd (rwK P) (rwV P)]) (g := [some (whD a b n), x1, some (.gdz (rwK R) (rwV R)), x3, some (.ref M.length), some (spD y), x6, none, none]) rfl (R.map fun e => e.2 ++ seg a.length e.1 y)
  have hne : (R.map fun e => e.2 ++ seg a.length e.1 y) ≠ [] := fun z => ok.ne (List.map_eq_nil_iff.mp z)
  have mn := minRs_B (m := M ++ [.gd (rwK P) (rwV P)]) hne
  have few := ok.few
  have gf := gfind_rw y P
  rw [look_no hyP] at gf
  have gk : ∀ v, gputK (spD y) (rwK P) (rwV P) = rwK (P ++ [(y, v)]) := fun v => by unfold gputK; rw [gf]; simp
  have gv : ∀ v, gputV (spD y) (.str v) (rwK P) (rwV P) = rwV (P ++ [(y, v)]) := fun v => by unfold gputV; rw [gf]; simp
  have m0 : (M ++ [MO.gd (rwK P) (rwV P)])[M.length]? = some (.gd (rwK P) (rwV P)) := by simp
  have pl : P.length < lim := by have := l 6 (by decide); omega
  obtain ⟨v, hv⟩ : ∃ v, v = minRs (R.map fun e => e.2 ++ seg a.length e.1 y) := ⟨_, rfl⟩
  rw [← hv] at mn ⊢
  have mn' : minB (M ++ [.gd (rwK P) (rwV P)]) [.lst ((R.map fun e => e.2 ++ seg a.length e.1 y).map lrT)] = some (.tup [.int v.length, .str v]) := mn
  unfold inB
  rw [← gk v, ← gv v]
  have l2 : 2 ≤ lim := l 2 (by decide)
  simp [c1, l _ (show R.length ≤ 20000 by omega), pl, -D.tkey, spD_key]
  rw [es, c2]
  simp [mn', ixD, pl, -List.map_map]
theorem in_loop (W : Whl a b n) {R : Rw} {B : Nat} (ok : RwOk a.length R B) (hB : B ≤ 10000) : ∀ (ys : List (Nat × Bool)) (P : Rw) (x5 x6 : Option D), (∀ y ∈ ys, y.1 < a.length) → P.length + ys.length ≤ 5 → (P.map (·.1) ++ ys).Nodup →
    ∃ y5 y6, forL (nmG 5) inB (ys.map spD) [some (whD a b n), x1, some (.gdz (rwK R) (rwV R)), x3, some (.ref M.length), x5, x6, none, none] (M ++ [.gd (rwK P) (rwV P)]) =
      .ok (.nx [some (whD a b n), x1, some (.gdz (rwK R) (rwV R)), x3, some (.ref M.length), y5, y6, none, none]) (M ++ [.gd (rwK (P ++ ys.map fun y => (y, minRs (R.map fun e => e.2 ++ seg a.length e.1 y)))) (rwV (P ++ ys.map fun y => (y, minRs (R.map fun e => e.2 ++ seg a.length e.1 y))))])
  | [], P, x5, x6, _, _, _ => ⟨x5, x6, by simp [forL]⟩
  | y :: ys, P, x5, x6, hy, hl, nd => by
    have hyP : y ∉ P.map (·.1) := fun h => by
      have := (List.nodup_append.mp nd).2.2 y h y List.mem_cons_self
      exact this rfl
    have b1 := in_body (M := M) (x1 := x1) (x3 := x3) W ok hB (hy y List.mem_cons_self) (P := P) (by simp at hl; omega) hyP x6 none none
    obtain ⟨y5, y6, ih⟩ := in_loop W ok hB ys (P ++ [(y, minRs (R.map fun e => e.2 ++ seg a.length e.1 y))]) (some (spD y)) (some (.lst (R.map fun e => .str (e.2 ++ seg a.length e.1 y)))) (fun z hz => hy z (List.mem_cons_of_mem _ hz)) (by simp at hl ⊢; omega) (by
      rw [List.map_append, List.append_assoc]
      exact nd)
    refine ⟨y5, y6, ?_⟩
    rw [List.map_cons, forL_cons]
    simp only [nmG, LW.R.bind_ok, List.set_cons_succ, List.set_cons_zero, b1, ih]
    rw [List.map_cons, List.append_assoc, List.singleton_append]
end
/-! ### the outer walk -/
def ouB : Sm := (seqS (asgS (nmG 4) gd0E)
    (seqS (forS (itA (callE m_spots_of (consA (vE 0) (consA (vE 3) nilA)))) (nmG 5) inB)
    (seqS (frzG 4) (asgS (nmG 2) (vE 4)))))
section
variable {a b : List Nat} {n : Int}
theorem idx_lt {w : List Nat} {c : Nat} (h : c ∈ w) : idx w c < w.length := List.findIdx_lt_length.mpr ⟨c, h, by simp⟩
theorem sps_pl (W : Whl a b n) {c : Nat} : ∀ y ∈ sps a b c, y.1 < a.length := fun y hy => by
  unfold sps at hy
  rcases List.mem_append.mp hy with hy | hy
  · split at hy
    · rename_i h; rw [List.mem_singleton.mp hy]; exact idx_lt h
    · cases hy
  · split at hy
    · rename_i h; rw [List.mem_singleton.mp hy]; have := idx_lt h; rw [W.same] at this; exact this
    · cases hy
theorem sps_nd (c : Nat) : (sps a b c).Nodup := by
  unfold sps
  by_cases h1 : c ∈ a <;> by_cases h2 : c ∈ b <;> simp [h1, h2]
theorem sps_few (c : Nat) : (sps a b c).length ≤ 2 := by
  unfold sps
  by_cases h1 : c ∈ a <;> by_cases h2 : c ∈ b <;> simp [h1, h2]
theorem sps_ne {c : Nat} (h : c ∈ a ∨ c ∈ b) : sps a b c ≠ [] := by
  unfold sps
  rcases h with h | h <;> simp [h]
theorem minRs_mem : ∀ {rs : List (List Nat)}, rs ≠ [] → minRs rs ∈ rs
  | [], h => absurd rfl h
  | r :: rs, _ => minR_mem r rs
theorem next_ok (W : Whl a b n) {R : Rw} {B c : Nat} (ok : RwOk a.length R B) (hc : c ∈ a ∨ c ∈ b) : RwOk a.length (nextR a b R c) (B + 40) := by
  have hhi := W.hi
  have hlo := W.lo
  refine ⟨fun z => sps_ne hc (List.map_eq_nil_iff.mp z), by unfold nextR; rw [List.length_map]; exact sps_few c, ?_, fun e he => ?_, fun e he => ?_⟩
  · unfold nextR
    rw [List.map_map]
    have : ((fun x => x.1) ∘ fun y : Nat × Bool => (y, minRs (R.map fun e => e.2 ++ seg a.length e.1 y))) = id := rfl
    rw [this, List.map_id]
    exact sps_nd c
  · obtain ⟨y, hy, rfl⟩ := List.mem_map.mp he
    exact sps_pl W y hy
  · obtain ⟨y, hy, rfl⟩ := List.mem_map.mp he
    have hm := minRs_mem (rs := R.map fun e => e.2 ++ seg a.length e.1 y) fun z => ok.ne (List.map_eq_nil_iff.mp z)
    obtain ⟨e', he', q⟩ := List.mem_map.mp hm
    simp only
    rw [← q, List.length_append]
    have := ok.ln e' he'
    have := seg_len (k := a.length) (by omega) e'.1 y
    omega
theorem ou_loop (W : Whl a b n) {x1 : Option D} : ∀ (t : List Nat) (R : Rw) (B : Nat) (M : Mem) (x3 x4 x5 x6 : Option D), RwOk a.length R B → B + 40 * t.length ≤ 10000 → (∀ c ∈ t, c ∈ a ∨ c ∈ b) →
    ∃ (y3 y4 y5 y6 : Option D) (j : Nat), forL (nmG 3) ouB (t.map fun c => .str [c]) [some (whD a b n), x1, some (.gdz (rwK R) (rwV R)), x3, x4, x5, x6, none, none] M = .ok (.nx [some (whD a b n), x1, some (.gdz (rwK (dpR a b t R)) (rwV (dpR a b t R))), y3, y4, y5, y6, none, none]) (M ++ List.replicate j .gone)
  | [], R, B, M, x3, x4, x5, x6, _, _, _ => ⟨x3, x4, x5, x6, 0, by simp [forL, dpR]⟩
  | c :: t, R, B, M, x3, x4, x5, x6, ok, hB, ht => by
    have sp := fun m => spots_of_spec (m := m) (a := a) (b := b) (n := n) c
    obtain ⟨y5, y6, il⟩ := in_loop (M := M) (x1 := x1) (x3 := some (.str [c])) W ok (by simp at hB; omega) (sps a b c) [] x5 x6 (sps_pl W) (by have := sps_few (a := a) (b := b) c; simp; omega) (by simpa using sps_nd c)
    simp only [List.nil_append] at il
    have nx : ((sps a b c).map fun y => (y, minRs (R.map fun e => e.2 ++ seg a.length e.1 y))) = nextR a b R c := rfl
    rw [nx] at il
    obtain ⟨z3, z4, z5, z6, j, ih⟩ := ou_loop W (x1 := x1) t (nextR a b R c) (B + 40) (M ++ [.gone]) (some (.str [c])) (some (.gdz (rwK (nextR a b R c)) (rwV (nextR a b R c)))) y5 y6 (next_ok W ok (ht c List.mem_cons_self)) (by simp at hB; omega) fun d hd => ht d (List.mem_cons_of_mem _ hd)
    refine ⟨z3, z4, z5, z6, j + 1, ?_⟩
    rw [List.map_cons, forL_cons]
    have step : ouB [some (whD a b n), x1, some (.gdz (rwK R) (rwV R)), some (.str [c]), x4, x5, x6, none, none] M = .ok (.nx [some (whD a b n), x1, some (.gdz (rwK (nextR a b R c)) (rwV (nextR a b R c))), some (.str [c]), some (.gdz (rwK (nextR a b R c)) (rwV (nextR a b R c))), y5, y6, none, none]) (M ++ [.gone]) := by
      unfold ouB
      have e0 : ([] : List D) = rwK [] := rfl
      simp only [List.map_nil] at il
      simp [sp, il]
    simp only [nmG, LW.R.bind_ok, List.set_cons_succ, List.set_cons_zero, step, ih, dpR]
    rw [List.append_assoc, List.singleton_append, List.replicate_succ]
theorem dp_ok (W : Whl a b n) : ∀ (t : List Nat) (R : Rw) (B : Nat), RwOk a.length R B → (∀ c ∈ t, c ∈ a ∨ c ∈ b) → RwOk a.length (dpR a b t R) (B + 40 * t.length)
  | [], R, B, ok, _ => ok
  | c :: t, R, B, ok, ht => by
    have := dp_ok W t (nextR a b R c) (B + 40) (next_ok W ok (ht c List.mem_cons_self)) fun d hd => ht d (List.mem_cons_of_mem _ hd)
    rw [dpR]
    have e : B + 40 * (c :: t).length = B + 40 + 40 * t.length := by simp; omega
    rw [e]
    exact this
theorem lst0_ok (W : Whl a b n) : RwOk a.length lst0 0 := ⟨by simp [lst0], by simp [lst0], by simp [lst0], fun e he => by rw [List.mem_singleton.mp he]; have := W.lo; show 0 < a.length; omega, fun e he => by rw [List.mem_singleton.mp he]; simp⟩
theorem least_row_spec (W : Whl a b n) {t : List Nat} (ht : ∀ c ∈ t, c ∈ a ∨ c ∈ b) (hl : t.length ≤ 80) {m : Mem} (hm : ∀ x ∈ m, MO.cl m.length x = true) : m_least_row [whD a b n, .str t] m = .ok (.str (lstR a b t)) m := by
  have l : ∀ k : Nat, k ≤ 20000 → k ≤ lim := fun k hk => by unfold lim; omega
  obtain ⟨y3, y4, y5, y6, j, ol⟩ := ou_loop W (x1 := some (.str t)) t lst0 0 (m ++ [.gone]) none none none none (lst0_ok W) (by omega) ht
  have dk := dp_ok W t lst0 0 (lst0_ok W) ht
  obtain ⟨R, hR⟩ : ∃ R, R = dpR a b t lst0 := ⟨_, rfl⟩
  have hlst : lstR a b t = minRs (R.map (·.2)) := by unfold lstR; rw [hR]
  rw [← hR] at ol dk
  have few := dk.few
  have es : rwV R = (R.map (·.2)).map D.str := by rw [List.map_map]; rfl
  have c2 := fun m g (hg : List.length g = 9) => rows_lc (m := m) (g := g) hg (R.map (·.2))
  have hne : R.map (·.2) ≠ [] := fun z => dk.ne (List.map_eq_nil_iff.mp z)
  obtain ⟨v, hv⟩ : ∃ v, v = minRs (R.map (·.2)) := ⟨_, rfl⟩
  have mn : ∀ m, minB m [.lst ((R.map (·.2)).map lrT)] = some (.tup [.int v.length, .str v]) := fun m => by rw [hv]; exact minRs_B hne
  rw [hlst, ← hv]
  have g := gc_mem (m := m ++ .gone :: List.replicate j .gone) (d := .str v) (r := m) (by simp [D.cl]) hm (.gone :: List.replicate j .gone) rfl (by simp)
  have k0 : rwK lst0 = [.tup [.int 0, .str [108]]] := rfl
  have v0 : rwV lst0 = [.str []] := rfl
  rw [k0, v0] at ol
  unfold ouB inB at ol
  have tk : D.tkey (.tup [.int 0, .str [108]]) = true := by simp [D.keyL, D.key]
  have R2 : R.length ≤ lim := l _ (by omega)
  have st : (m ++ [MO.gd [.tup [.int 0, .str [108]]] [.str []]])[m.length]? = some (.gd [.tup [.int 0, .str [108]]] [.str []]) := by simp
  have se : (m ++ [MO.gd [.tup [.int 0, .str [108]]] [.str []]]).set m.length .gone = m ++ [.gone] := by simp
  unfold m_least_row fnS b_least_row
  simp [tk, st, se, ol, -D.tkey, R2]
  rw [es, c2 _ _ rfl]
  simp [mn, ixD, g, -List.map_map]
end
end LW
/-! PuX: two different wheels are told apart by a short row. -/
namespace LW
theorem stps_k {l : Nat} {n : Nat} (hl : 0 < l) (f : Bool) : ∀ k, k ≤ l * n → stps l n ⟨0, f, 0⟩ (List.replicate k 115) = ⟨k % l, f, k⟩
  | 0, _ => by simp [stps]
  | k + 1, h => by
    rw [List.replicate_succ', stps_append, stps_k hl f k (by omega)]
    simp only [stps, stp, if_true]
    rw [if_neg]
    · congr 1
      exact Nat.mod_add_mod k l 1
    · rintro ⟨h1, h2⟩
      have h3 : ((l * n : Nat) : Int) ≤ (k : Int) := by simpa using h2
      omega
theorem stps_end {l : Nat} {n : Nat} (hl : 0 < l) (f : Bool) : stps l n ⟨0, f, 0⟩ (List.replicate (l * n + 1) 115) = ⟨0, f, (l * n : Nat)⟩ := by
  rw [List.replicate_succ', stps_append, stps_k hl f _ (Nat.le_refl _)]
  simp only [stps, stp, if_true]
  rw [if_pos]
  · simp
  · exact ⟨Nat.mul_mod_right l n, by simp⟩
theorem shw_s {a b : List Nat} {n : Int} (k : Nat) : shw a b n (List.replicate k 115 ++ [112]) = [sgAt a b ((stps a.length n st0 (List.replicate k 115)).p, (stps a.length n st0 (List.replicate k 115)).f)] := by
  rw [shw_spo, spo_append, spo_s]
  rfl
theorem sp_pls (k : Nat) : Pls (List.replicate k 115 ++ [112]) := by
  intro c hc
  simp only [List.mem_append, List.mem_replicate, List.mem_singleton] at hc
  rcases hc with ⟨_, rfl⟩ | rfl <;> simp [pls]
theorem nodup_getD {a : List Nat} (h : a.Nodup) {i j : Nat} (hi : i < a.length) (hj : j < a.length) (e : a.getD i 0 = a.getD j 0) : i = j := by
  rw [List.getD_eq_getElem?_getD, List.getD_eq_getElem?_getD, List.getElem?_eq_getElem hi, List.getElem?_eq_getElem hj] at e
  exact (List.getElem_inj h).mp e
def Tell (v w : Wl) (k : Nat) : Prop := ∃ q, Pls q ∧ q.length ≤ k ∧ shw v.a v.b v.n q ≠ shw w.a w.b w.n q
theorem Tell.symm {v w : Wl} {k : Nat} : Tell v w k → Tell w v k := fun ⟨q, h1, h2, h3⟩ => ⟨q, h1, h2, fun e => h3 e.symm⟩
theorem Tell.mono {v w : Wl} {k j : Nat} (h : k ≤ j) : Tell v w k → Tell v w j := fun ⟨q, h1, h2, h3⟩ => ⟨q, h1, by omega, h3⟩
theorem tell0 {v w : Wl} (hv : v.ok) (hw : w.ok) (h : v.a.getD 0 0 ≠ w.a.getD 0 0) : Tell v w 1 := by
  refine ⟨[112], sp_pls 0, by simp, ?_⟩
  have e1 := shw_s (a := v.a) (b := v.b) (n := v.n) 0
  have e2 := shw_s (a := w.a) (b := w.b) (n := w.n) 0
  intro e
  simp only [List.replicate_zero, List.nil_append] at e1 e2
  rw [e1, e2] at e
  simp only [stps, sgAt, st0, Bool.false_eq_true, if_false, List.cons.injEq, and_true] at e
  exact h e
theorem tell_len {v w : Wl} (hv : v.ok) (hw : w.ok) (h : v.a.length < w.a.length) : Tell v w (v.a.length + 1) := by
  by_cases h0 : v.a.getD 0 0 = w.a.getD 0 0
  case neg => exact (tell0 hv hw h0).mono (by omega)
  refine ⟨List.replicate v.a.length 115 ++ [112], sp_pls _, by simp, ?_⟩
  obtain ⟨nv, ev⟩ : ∃ k : Nat, v.n = k := ⟨v.n.toNat, by have := hv.n1; omega⟩
  obtain ⟨nw, ew⟩ : ∃ k : Nat, w.n = k := ⟨w.n.toNat, by have := hw.n1; omega⟩
  have hv1 := hv.n1; have hw1 := hw.n1; have hlo := hv.lo
  have b1 : v.a.length ≤ v.a.length * nv := Nat.le_mul_of_pos_right _ (by omega)
  have b2 : v.a.length ≤ w.a.length * nw := Nat.le_trans (by omega) (Nat.le_mul_of_pos_right w.a.length (by omega))
  rw [shw_s, shw_s, ev, ew, show st0 = ⟨0, false, 0⟩ from rfl, stps_k (by omega) false _ b1, stps_k (by omega) false _ b2, Nat.mod_self, Nat.mod_eq_of_lt h]
  simp only [sgAt, Bool.false_eq_true, if_false, ne_eq, List.cons.injEq, and_true]
  intro e
  rw [h0] at e
  have := nodup_getD hw.na (by omega) h e
  omega
theorem tell_n {v w : Wl} (hv : v.ok) (hw : w.ok) (h : v.a.length = w.a.length) (hn : v.n < w.n) : Tell v w (v.a.length * 3 + 2) := by
  by_cases h0 : v.a.getD 0 0 = w.a.getD 0 0
  case neg => exact (tell0 hv hw h0).mono (by omega)
  obtain ⟨nv, ev⟩ : ∃ k : Nat, v.n = k := ⟨v.n.toNat, by have := hv.n1; omega⟩
  obtain ⟨nw, ew⟩ : ∃ k : Nat, w.n = k := ⟨w.n.toNat, by have := hw.n1; omega⟩
  have hv1 := hv.n1; have hw1 := hw.n1; have hlo := hv.lo; have hv3 := hv.n3
  have b0 : v.a.length * nv ≤ v.a.length * 3 := Nat.mul_le_mul_left _ (by omega)
  have b1 : v.a.length * nv + v.a.length ≤ w.a.length * nw := by
    rw [← h]
    have := Nat.mul_le_mul_left v.a.length (show nv + 1 ≤ nw by omega)
    rw [Nat.mul_add] at this
    omega
  refine ⟨List.replicate (v.a.length * nv + 1) 115 ++ [112], sp_pls _, by simp; omega, ?_⟩
  rw [shw_s, shw_s, ev, ew, show st0 = ⟨0, false, 0⟩ from rfl, stps_end (by omega) false, stps_k (by omega) false _ (by omega)]
  have em : (v.a.length * nv + 1) % w.a.length = 1 := by rw [h, Nat.mul_add_mod]; exact Nat.mod_eq_of_lt (by omega)
  rw [em]
  simp only [sgAt, Bool.false_eq_true, if_false, ne_eq, List.cons.injEq, and_true]
  intro e
  rw [h0] at e
  have := nodup_getD hw.na (by omega) (by omega) e
  omega
theorem ext_getD {a b : List Nat} (h : a.length = b.length) (e : ∀ k, k < a.length → a.getD k 0 = b.getD k 0) : a = b := by
  refine List.ext_getElem h fun i h1 h2 => ?_
  have := e i h1
  rw [List.getD_eq_getElem?_getD, List.getD_eq_getElem?_getD, List.getElem?_eq_getElem h1, List.getElem?_eq_getElem h2] at this
  exact this
theorem tell_sp {v w : Wl} (hv : v.ok) (hw : w.ok) (h : v.a.length = w.a.length) {k : Nat} (hk : k < v.a.length) (f : Bool) (e : sgAt v.a v.b (k, f) ≠ sgAt w.a w.b (k, f)) : Tell v w (v.a.length + 2) := by
  refine ⟨toSpot k f, toSpot_pls k f, Nat.le_trans (toSpot_len k f) (by omega), ?_⟩
  rw [shw_to hv hk, shw_to hw (by omega)]
  simpa using e
theorem tell {v w : Wl} (hv : v.ok) (hw : w.ok) (h : v ≠ w) {k : Nat} (hk : v.a.length ≤ k) (hk2 : w.a.length ≤ k) : Tell v w (k * 3 + 2) := by
  by_cases h1 : v.a.length = w.a.length
  · by_cases h2 : v.n = w.n
    · by_cases h3 : v.a = w.a
      · by_cases h4 : v.b = w.b
        · exact absurd (by cases v; cases w; simp_all) h
        · have : ¬ ∀ k, k < v.b.length → v.b.getD k 0 = w.b.getD k 0 := fun z => h4 (ext_getD (by rw [hv.same, hw.same, h1]) z)
          obtain ⟨j, hj⟩ := Classical.not_forall.mp this
          rw [Classical.not_imp] at hj
          exact (tell_sp hv hw h1 (k := j) (by rw [← hv.same]; exact hj.1) true (by simpa [sgAt] using hj.2)).mono (by omega)
      · have : ¬ ∀ k, k < v.a.length → v.a.getD k 0 = w.a.getD k 0 := fun z => h3 (ext_getD h1 z)
        obtain ⟨j, hj⟩ := Classical.not_forall.mp this
        rw [Classical.not_imp] at hj
        exact (tell_sp hv hw h1 (k := j) hj.1 false (by simpa [sgAt] using hj.2)).mono (by omega)
    · rcases Int.lt_or_lt_of_ne h2 with h2 | h2
      · exact (tell_n hv hw h1 h2).mono (by omega)
      · exact (tell_n hw hv h1.symm h2).symm.mono (by omega)
  · rcases Nat.lt_or_lt_of_ne h1 with h1 | h1
    · exact (tell_len hv hw h1).mono (by omega)
    · exact (tell_len hw hv h1).symm.mono (by omega)
/-- a shortest row that tells two wheels apart is short -/
theorem ApR.short {v w : Wl} (hv : v.ok) (hw : w.ok) {k : Nat} (hk : v.a.length ≤ k) (hk2 : w.a.length ≤ k) {r : List Nat} (h : ApR v w r) : r.length ≤ k * 3 + 2 := by
  obtain ⟨q1, q2, q3⟩ := h
  have hne : v ≠ w := fun e => by subst e; exact q2 rfl
  obtain ⟨x, x1, x2, x3⟩ := tell hv hw hne hk hk2
  by_cases hq : x.length < r.length
  · exact absurd (q3 x x1 hq) x3
  · omega
theorem ApR.len {v w : Wl} {r q : List Nat} (h : ApR v w r) (h' : ApR v w q) : r.length = q.length := by
  rcases Nat.lt_trichotomy r.length q.length with l | l | l
  · exact absurd (h'.2.2 r h.1 l) h.2.1
  · exact l
  · exact absurd (h.2.2 q h'.1 l) h'.2.1
end LW
/-! PvD: what the least row writes, from any place; texts drawn. -/
namespace LW
theorem stps_q {l : Nat} {n : Int} (hn : 1 ≤ n) (f : Bool) {q : Nat} (hq : q < l) : ∀ j, j ≤ l → stps l n ⟨q, f, 0⟩ (List.replicate j 115) = ⟨(q + j) % l, f, j⟩
  | 0, _ => by simp [stps, Nat.mod_eq_of_lt hq]
  | j + 1, h => by
    rw [List.replicate_succ', stps_append, stps_q hn f hq j (by omega)]
    simp only [stps, stp, if_true]
    rw [if_neg]
    · congr 1
      exact Nat.mod_add_mod (q + j) l 1
    · rintro ⟨_, h2⟩
      have h2 : (l : Int) * n ≤ (j : Int) := h2
      have : (l : Int) * 1 ≤ l * n := Int.mul_le_mul_of_nonneg_left hn (by omega)
      omega
theorem seg_run {l : Nat} {n : Int} (hn : 1 ≤ n) {x y : Nat × Bool} (hx : x.1 < l) (hy : y.1 < l) (d : Nat) :
    spo l n ⟨(x.1 + d) % l, x.2, 0⟩ (seg l x y) = [((y.1 + d) % l, y.2)] ∧ stps l n ⟨(x.1 + d) % l, x.2, 0⟩ (seg l x y) = ⟨(y.1 + d) % l, y.2, 0⟩ := by
  obtain ⟨p, f⟩ := x
  obtain ⟨q, g⟩ := y
  simp only at hx hy ⊢
  have hl : 0 < l := by omega
  have ml := Nat.mod_lt (q + l - p) hl
  have st := stps_q (l := l) (n := n) hn f (q := (p + d) % l) (Nat.mod_lt _ hl) ((q + l - p) % l) (by omega)
  have e : ((p + d) % l + (q + l - p) % l) % l = (q + d) % l := by
    rw [← Nat.add_mod]
    have : p + d + (q + l - p) = q + d + l := by omega
    rw [this, Nat.add_mod_right]
  rw [e] at st
  unfold seg
  by_cases hfg : f = g
  · subst hfg
    simp only [if_true, List.append_nil]
    rw [spo_append, stps_append, spo_s, st]
    exact ⟨rfl, by simp [stps, stp]⟩
  · simp only [if_neg hfg]
    rw [List.append_assoc, spo_append, stps_append, spo_s, st]
    cases g with
    | false => exact ⟨by simp [spo, stp, wl], by simp [stps, stp, wl]⟩
    | true => exact ⟨by simp [spo, stp, wl], by simp [stps, stp, wl]⟩
theorem seg_pul (k : Nat) (x y : Nat × Bool) : ∀ c ∈ seg k x y, IsPul c := by
  intro c hc
  unfold seg at hc
  simp only [List.mem_append, List.mem_replicate, List.mem_singleton] at hc
  rcases hc with (⟨_, rfl⟩ | hc) | rfl
  · exact .inl rfl
  · split at hc
    · cases hc
    · rw [List.mem_singleton.mp hc]
      cases y.2
      · exact .inr (.inr (.inl rfl))
      · exact .inr (.inr (.inr rfl))
  · exact .inr (.inl rfl)
structure Wr (a b : List Nat) (n : Int) (t : List Nat) (e : (Nat × Bool) × List Nat) (ss : List (Nat × Bool)) : Prop where
  pl : ∀ x ∈ ss, x.1 < a.length
  sg : ss.map (sgAt a b) = t
  pu : ∀ c ∈ e.2, IsPul c
  ln : e.2.length ≤ (a.length + 1) * t.length
  sp : ∀ d, spo a.length n ⟨d % a.length, false, 0⟩ e.2 = ss.map fun x => ((x.1 + d) % a.length, x.2)
  st : ∀ d, stps a.length n ⟨d % a.length, false, 0⟩ e.2 = ⟨(e.1.1 + d) % a.length, e.1.2, 0⟩
theorem idx_get {w : List Nat} {c : Nat} (h : c ∈ w) : w.getD (idx w c) 0 = c := by
  have hl := idx_lt h
  rw [List.getD_eq_getElem?_getD, List.getElem?_eq_getElem hl]
  have h2 : (w[w.findIdx (· == c)]'hl == c) = true := List.findIdx_getElem (xs := w) (p := fun x => x == c) (w := hl)
  exact eq_of_beq h2
theorem sps_sg {a b : List Nat} {c : Nat} : ∀ y ∈ sps a b c, sgAt a b y = c := fun y hy => by
  unfold sps at hy
  rcases List.mem_append.mp hy with hy | hy
  · split at hy
    · rename_i h; rw [List.mem_singleton.mp hy]; simp only [sgAt, Bool.false_eq_true, if_false]; exact idx_get h
    · cases hy
  · split at hy
    · rename_i h; rw [List.mem_singleton.mp hy]; simp only [sgAt, if_true]; exact idx_get h
    · cases hy
section
variable {a b : List Nat} {n : Int}
theorem next_wr (W : Whl a b n) {R : Rw} {B c : Nat} {t : List Nat} (ok : RwOk a.length R B) (h : ∀ e ∈ R, ∃ ss, Wr a b n t e ss) : ∀ e ∈ nextR a b R c, ∃ ss, Wr a b n (t ++ [c]) e ss := fun e he => by
  obtain ⟨y, hy, rfl⟩ := List.mem_map.mp he
  have hm := minRs_mem (rs := R.map fun e => e.2 ++ seg a.length e.1 y) fun z => ok.ne (List.map_eq_nil_iff.mp z)
  obtain ⟨e', he', q⟩ := List.mem_map.mp hm
  obtain ⟨ss, w⟩ := h e' he'
  have hyl := sps_pl W y hy
  have hlo := W.lo
  have sl := seg_len (k := a.length) (by omega) e'.1 y
  refine ⟨ss ++ [y], fun x hx => ?_, ?_, ?_, ?_, fun d => ?_, fun d => ?_⟩
  · rcases List.mem_append.mp hx with hx | hx
    · exact w.pl x hx
    · rw [List.mem_singleton.mp hx]; exact hyl
  · rw [List.map_append, w.sg, List.map_singleton, sps_sg y hy]
  · simp only
    rw [← q]
    exact pul_app w.pu (seg_pul _ _ _)
  · simp only
    rw [← q, List.length_append, List.length_append, List.length_singleton, Nat.mul_add]
    have := w.ln
    omega
  · simp only
    rw [← q, spo_append, w.sp d, w.st d, (seg_run W.n1 (ok.pl e' he') hyl d).1, List.map_append]
    rfl
  · simp only
    rw [← q, stps_append, w.st d, (seg_run W.n1 (ok.pl e' he') hyl d).2]
theorem dp_wr (W : Whl a b n) : ∀ (t : List Nat) (R : Rw) (B : Nat) (t0 : List Nat), RwOk a.length R B → (∀ c ∈ t, c ∈ a ∨ c ∈ b) → (∀ e ∈ R, ∃ ss, Wr a b n t0 e ss) → ∀ e ∈ dpR a b t R, ∃ ss, Wr a b n (t0 ++ t) e ss
  | [], R, B, t0, ok, _, h => by simpa [dpR] using h
  | c :: t, R, B, t0, ok, ht, h => by
    have := dp_wr W t (nextR a b R c) (B + 40) (t0 ++ [c]) (next_ok W ok (ht c List.mem_cons_self)) (fun d hd => ht d (List.mem_cons_of_mem _ hd)) (next_wr W ok h)
    rw [List.append_assoc, List.singleton_append] at this
    exact this
/-- the least row writes the text, and from other places what stands so much further on -/
theorem lst_wr (W : Whl a b n) {t : List Nat} (ht : ∀ c ∈ t, c ∈ a ∨ c ∈ b) : ∃ (e : (Nat × Bool) × List Nat) (ss : List (Nat × Bool)), e.2 = lstR a b t ∧ Wr a b n t e ss := by
  have ok := dp_ok W t lst0 0 (lst0_ok W) ht
  have hlo := W.lo
  have h0 : ∀ e ∈ lst0, ∃ ss, Wr a b n [] e ss := fun e he => by
    rw [List.mem_singleton.mp he]
    exact ⟨[], by simp, rfl, by simp, by simp, fun d => rfl, fun d => by simp [stps]⟩
  have all := dp_wr W t lst0 0 [] (lst0_ok W) ht h0
  have hm := minRs_mem (rs := (dpR a b t lst0).map (·.2)) fun z => ok.ne (List.map_eq_nil_iff.mp z)
  obtain ⟨e, he, q⟩ := List.mem_map.mp hm
  obtain ⟨ss, w⟩ := all e he
  exact ⟨e, ss, q, by simpa using w⟩
/-! ### texts drawn -/
theorem law_text_spec (W : Whl a b n) {ns : List Int} {t most : Nat} {r : Mem} (hm : most ≤ 100) (ht : t < 900000) : ∃ (text : List Nat) (t' : Nat), m_law_text_k04 [.scr ns, .ref 0, whD a b n, .int most] (twn t :: r) = .ok (.str text) (twn t' :: r) ∧ t' ≤ t + 2 * most + 4 ∧ text.length ≤ most ∧ ∀ c ∈ text, c ∈ a ∨ c ∈ b := by
  have key : ∃ d m', m_law_text_k04 [.scr ns, .ref 0, whD a b n, .int most] (twn t :: r) = .ok d m' ∧ ∃ (text : List Nat) (t' : Nat), d = .str text ∧ m' = twn t' :: r ∧ t' ≤ t + 2 * most + 4 ∧ text.length ≤ most ∧ ∀ c ∈ text, c ∈ a ∨ c ∈ b := by
    refine fn_wpE ?_
    have hlo := W.lo
    have hhi := W.hi
    have hsm := W.same
    have l : ∀ k : Nat, k ≤ 1000 → k ≤ lim := fun k hk => by unfold lim; omega
    have hne : a ++ b ≠ [] := fun z => by
      have h0 : (a ++ b).length = 0 := by rw [z]; rfl
      rw [List.length_append] at h0
      omega
    obtain ⟨c1, h1, p1⟩ := pick_str (ns := ns) (t := t) (r := r) hne (by omega)
    obtain ⟨c2, h2, p2⟩ := pick_str (ns := ns) (t := t + 1) (r := r) hne (by omega)
    obtain ⟨c3, h3, p3⟩ := pick_str (ns := ns) (t := t + 1 + 1) (r := r) hne (by omega)
    obtain ⟨k, hk, d1⟩ := draw_nat (ns := ns) (t := t + 1 + 1 + 1) (r := r) (many := most + 1) (by omega) (by omega)
    have e1 : ((most + 1 : Nat) : Int) = (most : Int) + 1 := by omega
    rw [e1] at d1
    have ik : inR (k : Int) = true := inR_nat (by omega)
    have i3 : inR 3 = true := inR_of (by decide) (by decide)
    have rg : List.range 3 = [0, 1, 2] := rfl
    have mab : ∀ c, c ∈ a ++ b → c ∈ a ∨ c ∈ b := fun c h => List.mem_append.mp h
    unfold b_law_text_k04
    refine Wp_seq (by simp [ixD, l _ (show a.length + b.length ≤ 1000 by omega)]; exact ⟨rfl, rfl⟩) ?_
    refine Wp_seq (by simp [i3, rg, l, lcL, p1, p2, p3]; exact ⟨rfl, rfl⟩) ?_
    refine Wp_seq (by simp; exact ⟨rfl, rfl⟩) ?_
    refine Wp_bind (Wp_for (m1 := twn (t + 1 + 1 + 1 + 1) :: r) (ds := (List.range k).map fun (k : Nat) => D.int k) (fun i g m => ∃ (x6 x8 : Option D) (made : List Nat), made.length = i ∧ (∀ c ∈ made, c ∈ a ∨ c ∈ b) ∧
      g = [some (.scr ns), some (.ref 0), some (whD a b n), some (.int most), some (.str (a ++ b)), some (.lst [.str [c1], .str [c2], .str [c3]]), x6, some (.str made), x8] ∧ m = twn (t + 1 + 1 + 1 + 1 + 2 * i) :: r) (by simp [d1, ik]) ⟨none, none, [], rfl, by simp, rfl, rfl⟩ ?step ?fin)
    case step =>
      rintro i d g m hd ⟨x6, x8, made, hml, hmp, rfl, rfl⟩
      have hi : i < k := by
        have := (List.getElem?_eq_some_iff.mp hd).1
        simpa using this
      obtain ⟨z, hz, d2⟩ := draw_nat (ns := ns) (t := t + 1 + 1 + 1 + 1 + 2 * i) (r := r) (many := 2) (by omega) (by omega)
      rw [show ((2 : Nat) : Int) = 2 from rfl] at d2
      have fin : ∀ c, (c ∈ a ∨ c ∈ b) → ∃ (x6 x8 : Option D) (made' : List Nat), made'.length = i + 1 ∧ (∀ c ∈ made', c ∈ a ∨ c ∈ b) ∧ made ++ [c] = made' := fun c hc => ⟨none, none, made ++ [c], by simp [hml], fun d hd => (List.mem_append.mp hd).elim (hmp d) fun h => by rw [List.mem_singleton.mp h]; exact hc, rfl⟩
      have lm : made.length + 1 ≤ lim := l _ (by omega)
      by_cases hz0 : z = 0
      · subst hz0
        obtain ⟨c, hc, p⟩ := pick_str (ns := ns) (t := t + 1 + 1 + 1 + 1 + 2 * i + 1) (r := r) hne (by omega)
        refine ⟨_, _, rfl, Wp_seq (by simp [d2]; exact ⟨rfl, rfl⟩) (Wp_of (o := .nx [some (.scr ns), some (.ref 0), some (whD a b n), some (.int most), some (.str (a ++ b)), some (.lst [.str [c1], .str [c2], .str [c3]]), some d, some (.str (made ++ [c])), some (.str (a ++ b))]) (m1 := twn (t + 1 + 1 + 1 + 1 + 2 * i + 1 + 1) :: r) (by simp [p, lm]) ?_)⟩
        exact ⟨_, _, made ++ [c], by simp [hml], fun d hd => (List.mem_append.mp hd).elim (hmp d) fun h => by rw [List.mem_singleton.mp h]; exact mab c hc, rfl, by rw [show t + 1 + 1 + 1 + 1 + 2 * i + 1 + 1 = t + 1 + 1 + 1 + 1 + 2 * (i + 1) by omega]⟩
      · have hz1 : z = 1 := by omega
        subst hz1
        obtain ⟨x, hx, p⟩ := pick_spec (ns := ns) (t := t + 1 + 1 + 1 + 1 + 2 * i + 1) (r := r) (xs := [.str [c1], .str [c2], .str [c3]]) (by simp) (by omega)
        obtain ⟨c, rfl, hc⟩ : ∃ c, x = .str [c] ∧ (c ∈ a ∨ c ∈ b) := by
          simp only [List.mem_cons, List.not_mem_nil, or_false] at hx
          rcases hx with rfl | rfl | rfl
          · exact ⟨c1, rfl, mab c1 h1⟩
          · exact ⟨c2, rfl, mab c2 h2⟩
          · exact ⟨c3, rfl, mab c3 h3⟩
        refine ⟨_, _, rfl, Wp_seq (by simp [d2]; exact ⟨rfl, rfl⟩) (Wp_of (o := .nx [some (.scr ns), some (.ref 0), some (whD a b n), some (.int most), some (.str (a ++ b)), some (.lst [.str [c1], .str [c2], .str [c3]]), some d, some (.str (made ++ [c])), some (.lst [.str [c1], .str [c2], .str [c3]])]) (m1 := twn (t + 1 + 1 + 1 + 1 + 2 * i + 1 + 1) :: r) (by simp [p, lm]) ?_)⟩
        exact ⟨_, _, made ++ [c], by simp [hml], fun d hd => (List.mem_append.mp hd).elim (hmp d) fun h => by rw [List.mem_singleton.mp h]; exact hc, rfl, by rw [show t + 1 + 1 + 1 + 1 + 2 * i + 1 + 1 = t + 1 + 1 + 1 + 1 + 2 * (i + 1) by omega]⟩
    case fin =>
      rintro g m ⟨x6, x8, made, hml, hmp, rfl, rfl⟩
      simp only [List.length_map, List.length_range] at hml ⊢
      refine Wp_of (o := .rt (.str made)) (m1 := twn (t + 1 + 1 + 1 + 1 + 2 * k) :: r) (by simp) ?_
      exact ⟨.str made, twn (t + 1 + 1 + 1 + 1 + 2 * k) :: r, .inl rfl, by simp [gcR], made, t + 1 + 1 + 1 + 1 + 2 * k, rfl, rfl, by omega, by omega, hmp⟩
  obtain ⟨d, m', e, text, t', rfl, rfl, h1, h2, h3⟩ := key
  exact ⟨text, t', e, h1, h2, h3⟩
end
end LW
/-! PvF: searched tells a shortest row that shows just the text. -/
namespace LW
/-- a shortest row that shows just a text from a stand on -/
structure Sho (v : Wl) (s : Std) (t q : List Nat) : Prop where
  pu : Pls q
  sh : (v.run s q).2 = t
  le : ∀ q', Pls q' → (v.run s q').2 = t → q.length ≤ q'.length
theorem Sho.len {v : Wl} {s : Std} {t q q' : List Nat} (h : Sho v s t q) (h' : Sho v s t q') : q.length = q'.length := Nat.le_antisymm (h.le q' h'.pu h'.sh) (h'.le q h.pu h.sh)
theorem wl_pls (f : Bool) : wl f ∈ pls := by cases f <;> simp [wl, pls]
theorem pls_of_pul {q : List Nat} (h : ∀ c ∈ q, IsPul c) : Pls q := fun c hc => pul_pls (h c hc)
theorem show_ex {v : Wl} (hv : v.ok) : ∀ (t : List Nat), (∀ c ∈ t, c ∈ v.a ∨ c ∈ v.b) → ∀ s : Std, s.p < v.a.length → ∃ q, Pls q ∧ (v.run s q).2 = t
  | [], _, s, _ => ⟨[], (fun c hc => nomatch hc), rfl⟩
  | c :: t, h, s, hs => by
    have hl := hv.lo
    obtain ⟨k, f, hk, hsg⟩ : ∃ k f, k < v.a.length ∧ sgAt v.a v.b (k, f) = c := by
      rcases h c List.mem_cons_self with hc | hc
      · exact ⟨idx v.a c, false, idx_lt hc, by simp only [sgAt, Bool.false_eq_true, if_false]; exact idx_get hc⟩
      · exact ⟨idx v.b c, true, by rw [← hv.same]; exact idx_lt hc, by simp only [sgAt, if_true]; exact idx_get hc⟩
    obtain ⟨r1, r2⟩ := seg_run (l := v.a.length) (n := v.n) hv.n1 (x := (s.p, f)) (y := (k, f)) hs hk 0
    simp only [Nat.add_zero, Nat.mod_eq_of_lt hs, Nat.mod_eq_of_lt hk] at r1 r2
    have st : stp v.a.length v.n s (wl f) = ⟨s.p, f, 0⟩ := by cases f <;> simp [stp, wl]
    obtain ⟨q, hq, hsh⟩ := show_ex hv t (fun d hd => h d (List.mem_cons_of_mem _ hd)) ⟨k, f, 0⟩ hk
    refine ⟨wl f :: (seg v.a.length (s.p, f) (k, f) ++ q), fun d hd => ?_, ?_⟩
    · rcases List.mem_cons.mp hd with rfl | hd
      · exact wl_pls f
      · rcases List.mem_append.mp hd with hd | hd
        · exact pul_pls (seg_pul _ _ _ d hd)
        · exact hq d hd
    · have e : v.run s (wl f :: (seg v.a.length (s.p, f) (k, f) ++ q)) = run v.a v.b v.n s (wl f :: (seg v.a.length (s.p, f) (k, f) ++ q)) := rfl
      rw [e, run_spo]
      have nw : ¬ wl f = 112 := by cases f <;> decide
      simp only [spo, st, if_neg nw, List.nil_append]
      rw [spo_append, r1, r2, List.map_append]
      have e2 : (v.run ⟨k, f, 0⟩ q).2 = (spo v.a.length v.n ⟨k, f, 0⟩ q).map (sgAt v.a v.b) := by
        show (run v.a v.b v.n ⟨k, f, 0⟩ q).2 = _
        rw [run_spo]
      rw [← e2, hsh]
      simp [hsg]
theorem searched_spec {v : Wl} (hv : v.ok) (hl : v.a.length ≤ 12) {s0 : Std} (h0 : s0.p < v.a.length) (hi : (s0.i : Int) ≤ v.a.length * (v.n + 1)) {t : List Nat} (ht : ∀ c ∈ t, c ∈ v.a ∨ c ∈ v.b) (htl : t.length ≤ 12) {r : Mem} (hr : ∀ x ∈ r, MO.cl r.length x = true) :
    ∃ q, m_searched [v.D, stD s0, .str t] r = .ok (.str q) r ∧ Sho v s0 t q := by
  have n1 := hv.n1
  have n3 := hv.n3
  have hlo := hv.lo
  obtain ⟨B, hB⟩ : ∃ B : Nat, (B : Int) = (v.a.length : Int) * (v.n + 1) := ⟨((v.a.length : Int) * (v.n + 1)).toNat, by
    have : (0 : Int) ≤ (v.a.length : Int) * (v.n + 1) := Int.mul_nonneg (by omega) (by omega)
    omega⟩
  have hB1 : (v.a.length : Int) * v.n ≤ B := by
    rw [hB, Int.mul_add]
    omega
  have hB2 : B ≤ 48 := by
    have : (v.a.length : Int) * (v.n + 1) ≤ 12 * 4 := Int.mul_le_mul (by omega) (by omega) (by omega) (by omega)
    omega
  have hin : s0.in_ v.a B := ⟨h0, by
    have : (s0.i : Int) ≤ B := by rw [hB]; exact hi
    split <;> omega⟩
  obtain ⟨U, hUd⟩ : ∃ U, U = (allS v.a.length B).flatMap fun s => (List.range (t.length + 1)).map fun k => (s, k) := ⟨_, rfl⟩
  have hU : ∀ r s, Pls r → go (seS v t) (s0, 0) r = some s → s ∈ U := fun r s _ h => by
    obtain ⟨g1, g2, g3, g4⟩ := se_go r _ _ h
    rw [hUd]
    refine List.mem_flatMap.mpr ⟨s.1, ?_, List.mem_map.mpr ⟨s.2, List.mem_range.mpr (by have := g4 (Nat.zero_le _); omega), rfl⟩⟩
    rw [g1]
    exact mem_allS (run_in hlo hB1 r s0 hin)
  have hUl : U.length ≤ 90000 := by
    rw [hUd]
    simp only [List.length_flatMap, List.length_map, List.length_range]
    have h1 := allS_bd (l := v.a.length) (B := B) hl hB2
    have h3 : ((allS v.a.length B).map fun _ => t.length + 1).sum = (allS v.a.length B).length * (t.length + 1) := by
      generalize allS v.a.length B = l
      induction l with
      | nil => simp
      | cons x l ih => simp only [List.map_cons, List.sum_cons, ih, List.length_cons, Nat.add_mul]; omega
    rw [h3]
    exact Nat.le_trans (Nat.mul_le_mul h1 (show t.length + 1 ≤ 13 by omega)) (by decide)
  have st := BInv.start (B := seS v t) (s0, 0)
  have fu := bfs_fuel hU 100000 0 _ _ st (by simp; omega)
  have sp := bfs_spec 100000 0 _ _ st
  obtain ⟨q0, hq0, hs0⟩ := show_ex hv t ht s0 h0
  have gq : ∀ q', (v.run s0 q').2 = t → go (seS v t) (s0, 0) q' = some ((v.run s0 q').1, t.length) := fun q' h => by
    have := go_se (v := v) (text := t) q' (s0, 0) ⟨[], by simp [h]⟩
    rw [this]
    simp [h]
  have gl : ∀ s : Std, (seS v t).goal (s, t.length) = true := fun s => by simp [seS]
  cases hb : bfs (seS v t) 100000 [(s0, 0)] [([], (s0, 0))] with
  | none => exact absurd hb fu
  | some res =>
    cases res with
    | none =>
      have := (sp.2 hb q0 _ hq0 (gq q0 hs0)).1
      rw [gl] at this
      cases this
    | some q =>
      obtain ⟨hp, hf⟩ := sp.1 q hb
      have fnd : Sho v s0 t q := by
        rcases hf with ⟨u, g1, g2, g3⟩ | hf
        · obtain ⟨a1, a2, a3, a4⟩ := se_go q _ _ g1
          have hu : u.2 = t.length := by simpa [seS] using g2
          have hlen : (v.run s0 q).2.length = t.length := by have a2' : u.2 = 0 + (v.run s0 q).2.length := a2; omega
          have hsh : (v.run s0 q).2 = t := by
            have a3' : (v.run s0 q).2 = (t.drop 0).take (v.run s0 q).2.length := a3
            rw [hlen, List.drop_zero, List.take_length] at a3'
            exact a3'
          refine ⟨hp, hsh, fun q' hp' hs' => ?_⟩
          by_cases hlt : q'.length < q.length
          · have := (g3 q' _ hp' hlt (gq q' hs')).1
            rw [gl] at this
            cases this
          · omega
        · obtain ⟨_, _, _, _, _, hh, _⟩ := hf
          cases hh
      refine ⟨q, ?_, fnd⟩
      obtain ⟨m', tt, em, htt, hw⟩ := se_while (r := r) (x1 := some (stD s0)) hv h0 hU (by omega) 100000 0 0 _ _ none none none none none none none st (by simp) (by omega) q hb
      have l : ∀ k : Nat, k ≤ 10 → k ≤ lim := fun k hk => by unfold lim; omega
      have tk : D.tkey (.tup [stD s0, .int 0]) = true := tkey_se (s0, 0)
      have m0 : r ++ [MO.gd [D.tup [stD s0, .int 0]] [.bl true]] = mem0 r 0 seD [(s0, 0)] := rfl
      refine fn_wp ?_
      unfold b_searched
      refine Wp_seq (by simp [l, tk, -D.tkey]; exact ⟨rfl, rfl⟩) ?_
      refine Wp_seq (by simp [l]; exact ⟨rfl, rfl⟩) ?_
      rw [m0]
      exact Wp_of (o := .rt (.str q)) (m1 := m') hw ⟨.inl rfl, gc_mem rfl hr tt em htt⟩
end LW
/-! PvG: stands drawn, odd stands, need_short, row_from, least_from. -/
namespace LW
def oddS (k : Nat) (n : Int) : List D := [.non, .int 5, .tup [], .tup [.int 0, .str [108]], .tup [.int k, .str [108], .int 0], .tup [.int (-1), .str [108], .int 0], .tup [.int 0, .str [120], .int 0], .tup [.int 0, .str [108], .int (-1)], .lst [.int 0, .str [108], .int 0], .tup [.int 0, .non, .int 0],
  .tup [.int 0, .str [108], .int ((k : Int) * (n + 1) + 1)], .tup [.bl true, .str [108], .int 0], .tup [.int 0, .str [108, 102], .int 0], .str [48, 108, 48]]
section
variable {a b : List Nat} {n : Int} {m : Mem}
theorem need_stand_odd (W : Whl a b n) {d : D} (h : d ∈ oddS a.length n) : m_need_stand [whD a b n, d] m = .exc "NoStand" m := by
  have e := need_wheels_spec W m
  have g1 := big_of (i := (a.length : Int)) (by omega) (by have := W.hi; omega)
  have l : ∀ k : Nat, k ≤ 20 → k ≤ lim := fun k hk => by unfold lim; omega
  have hlo := W.lo
  have c1 : ¬ ((a.length : Int) ≤ (a.length : Int) - 1) := by omega
  have c2 : (0 : Int) ≤ (a.length : Int) - 1 := by omega
  have c3 : ¬ ((a.length : Int) * (n + 1) + 1 ≤ (a.length : Int) * (n + 1)) := by omega
  have c4 : ¬ ((a.length : Int) < 1) := by omega
  have n1 := W.n1
  have c5 : 0 ≤ (a.length : Int) * (n + 1) + 1 := by have : 0 ≤ (a.length : Int) * (n + 1) := Int.mul_nonneg (by omega) (by omega); omega
  have pl : ∀ m, m_places_of [whD a b n] m = .ok (.int a.length) m := fun m => by simp [m_places_of, b_places_of, fnS, gcR, ixD]
  simp only [oddS, List.mem_cons, List.not_mem_nil, or_false] at h
  rcases h with rfl | rfl | rfl | rfl | rfl | rfl | rfl | rfl | rfl | rfl | rfl | rfl | rfl | rfl <;>
    simp [m_need_stand, b_need_stand, e, m_is_stand, b_is_stand, m_is_whole, b_is_whole, fnS, gcR, l, pl, g1, c1, c2, c3, c4, c5, ixD]
theorem odd_stand_spec {ns : List Int} {t : Nat} {r : Mem} (hk : a.length ≤ 30) (n1 : 1 ≤ n) (n3 : n ≤ 3) (ht : t < 1000000) : ∃ x ∈ oddS a.length n, m_law_odd_stand [.scr ns, .ref 0, .int a.length, .int n] (twn t :: r) = .ok x (twn (t + 1) :: r) := by
  have l : ∀ k : Nat, k ≤ 20 → k ≤ lim := fun k hk => by unfold lim; omega
  have g1 := big_of (i := (a.length : Int)) (by omega) (by omega)
  obtain ⟨x, hx, e⟩ := pick_spec (ns := ns) (t := t) (r := r) (xs := oddS a.length n) (by unfold oddS; exact List.cons_ne_nil _ _) ht
  refine ⟨x, hx, ?_⟩
  unfold oddS at e
  simp [m_law_odd_stand, b_law_odd_stand, fnS, l, g1, e, gcR]
theorem law_stand_spec {ns : List Int} {t : Nat} {r : Mem} (W : Whl a b n) (ht : t < 900000) : ∃ s : Std, s.ok a n ∧ m_law_stand [.scr ns, .ref 0, whD a b n] (twn t :: r) = .ok (stD s) (twn (t + 4) :: r) := by
  have g1 := big_of (i := (a.length : Int)) (by omega) (by have := W.hi; omega)
  have hlo := W.lo
  have hn1 := W.n1
  have hn3 := W.n3
  have c3 : 3 ≤ lim := by unfold lim; omega
  have c4 : 4 ≤ lim := by unfold lim; omega
  have c2 : 2 ≤ lim := by unfold lim; omega
  have nn : 0 ≤ (a.length : Int) * n := Int.mul_nonneg (by omega) (by omega)
  have e5 : (a.length : Int) * (n + 1) = a.length * n + a.length := by rw [Int.mul_add, Int.mul_one]
  obtain ⟨q, hq⟩ : ∃ q : Nat, (q : Int) = a.length * (n + 1) + 1 := ⟨(a.length * (n + 1) + 1).toNat, by omega⟩
  obtain ⟨i, hi, e1⟩ := draw_nat (ns := ns) (t := t) (r := r) (many := q) (by omega) (by omega)
  rw [hq] at e1
  obtain ⟨x, hx, e2⟩ := pick_spec (ns := ns) (t := t + 1) (r := r) (xs := [.int 0, .int 0, .int (i : Int), .int (a.length * n)]) (by simp) (by omega)
  obtain ⟨k, rfl, hk⟩ : ∃ k : Nat, x = .int k ∧ (k : Int) ≤ a.length * (n + 1) := by
    simp only [List.mem_cons, List.not_mem_nil, or_false] at hx
    rcases hx with rfl | rfl | rfl | rfl
    · exact ⟨0, rfl, by omega⟩
    · exact ⟨0, rfl, by omega⟩
    · exact ⟨i, rfl, by omega⟩
    · exact ⟨((a.length : Int) * n).toNat, by rw [Int.toNat_of_nonneg nn], by omega⟩
  obtain ⟨p, hp, e3⟩ := draw_nat (ns := ns) (t := t + 1 + 1) (r := r) (many := a.length) (by omega) (by omega)
  obtain ⟨y, hy, e4⟩ := pick_spec (ns := ns) (t := t + 1 + 1 + 1) (r := r) (xs := [.str [108], .str [102]]) (by simp) (by omega)
  obtain ⟨f, rfl⟩ : ∃ f, y = .str [wc f] := by
    simp only [List.mem_cons, List.not_mem_nil, or_false] at hy
    rcases hy with rfl | rfl
    · exact ⟨false, rfl⟩
    · exact ⟨true, rfl⟩
  refine ⟨⟨p, f, k⟩, ⟨hp, hk⟩, ?_⟩
  simp only [wc] at e4
  simp [m_law_stand, b_law_stand, fnS, g1, c2, c3, c4, e1, e2, e3, e4, gcR, ixD]
theorem need_short_spec (W : Whl a b n) {s : Std} (hs : s.ok a n) {t : List Nat} (h1 : t.length ≤ 12) (ht : ∀ c ∈ t, c ∈ a ∨ c ∈ b) : m_need_short [whD a b n, stD s, .str t] m = .ok .non m := by
  have e0 := need_stand_spec W hs m
  have e1 := are_signs_spec (s := t) (lo := 0) (hi := 12) (by omega) (by omega) (by omega) (fun c hc => (ht c hc).elim (W.sa c) (W.sb c)) m
  have hhi := W.hi
  have hsm := W.same
  have l : ∀ k : Nat, k ≤ 1000 → k ≤ lim := fun k hk => by unfold lim; omega
  have c : lcL (nmG 3) yesT (noX (opE inD (vE 3) (opE addD (opE LW.getD (vE 0) (cE (.int 0))) (opE LW.getD (vE 0) (cE (.int 1)))))) [some (whD a b n), some (stD s), some (.str t), none] (t.map fun c => .str [c]) m = .ok ((t.map fun c => D.str [c]).map fun _ => .bl true) m := by
    refine lcL_map fun d hd => ?_
    obtain ⟨c, hc, rfl⟩ := List.mem_map.mp hd
    refine ⟨_, rfl, ?_⟩
    simp [ixD, l _ (show a.length + b.length ≤ 1000 by omega)]
    exact ht c hc
  simp [m_need_short, b_need_short, fnS, e0, e1, c, l t.length (by omega), gcR]
theorem row_from_spec (W : Whl a b n) (hl : a.length ≤ 12) {s : Std} (hs : s.ok a n) {t : List Nat} (h1 : t.length ≤ 12) (ht : ∀ c ∈ t, c ∈ a ∨ c ∈ b) (hm : ∀ x ∈ m, MO.cl m.length x = true) : ∃ q, m_row_from [whD a b n, stD s, .str t] m = .ok (.str q) m ∧ m_least_from [whD a b n, stD s, .str t] m = .ok (.int q.length) m ∧ Sho ⟨a, b, n⟩ s t q := by
  have e1 := need_short_spec (m := m) W hs h1 ht
  obtain ⟨q, e2, sh⟩ := searched_spec (v := ⟨a, b, n⟩) W hl hs.1 hs.2 ht h1 hm
  have e2' : m_searched [whD a b n, stD s, .str t] m = .ok (.str q) m := e2
  exact ⟨q, by simp [m_row_from, b_row_from, fnS, e1, e2'], by simp [m_least_from, b_least_from, fnS, e1, e2'], sh⟩
end
end LW
/-! PvH: best_stand. -/
namespace LW
abbrev T3 := Nat × Nat × Nat
def trD (x : T3) : D := .tup [.int x.1, .int x.2.1, .int x.2.2]
def tlt (x y : T3) : Prop := x.1 < y.1 ∨ (x.1 = y.1 ∧ (x.2.1 < y.2.1 ∨ (x.2.1 = y.2.1 ∧ x.2.2 < y.2.2)))
theorem trD_lt (x y : T3) : D.lt (trD x) (trD y) = true ↔ tlt x y := by
  obtain ⟨a, b, c⟩ := x
  obtain ⟨d, e, f⟩ := y
  simp only [trD, D.lt, D.ltL, eqv_int, tlt]
  by_cases h1 : a = d
  · subst h1
    by_cases h2 : b = e
    · subst h2
      by_cases h3 : c = f
      · subst h3; simp
      · have : ¬ ((c : Int) = (f : Int)) := by omega
        simp [this]
    · have : ¬ ((b : Int) = (e : Int)) := by omega
      simp [this, h2]
  · have : ¬ ((a : Int) = (d : Int)) := by omega
    simp [this, h1]
theorem minL_tr : ∀ (xs : List T3) (x : T3), ∃ y ∈ x :: xs, minL (trD x) (xs.map trD) = trD y ∧ ∀ z ∈ x :: xs, ¬ tlt z y
  | [], x => ⟨x, List.mem_cons_self, rfl, fun z hz => by rw [List.mem_singleton.mp hz]; unfold tlt; omega⟩
  | w :: xs, x => by
    have hm : minL (trD x) ((w :: xs).map trD) = minL (trD (if D.lt (trD w) (trD x) then w else x)) (xs.map trD) := by
      unfold minL
      simp only [List.map_cons, List.foldl_cons]
      split <;> rfl
    by_cases h : D.lt (trD w) (trD x) = true
    · obtain ⟨y, hy, e, hz⟩ := minL_tr xs w
      refine ⟨y, List.mem_cons_of_mem _ hy, by rw [hm, if_pos h]; exact e, fun z hz' => ?_⟩
      have hw := hz w List.mem_cons_self
      have hx := (trD_lt w x).mp h
      rcases List.mem_cons.mp hz' with rfl | hz'
      · intro q
        apply hw
        unfold tlt at *
        omega
      · exact hz z hz'
    · obtain ⟨y, hy, e, hz⟩ := minL_tr xs x
      have hx : ¬ tlt w x := fun q => h ((trD_lt w x).mpr q)
      have hxx := hz x List.mem_cons_self
      refine ⟨y, ?_, by rw [hm, if_neg h]; exact e, fun z hz' => ?_⟩
      · rcases List.mem_cons.mp hy with rfl | hy
        · exact List.mem_cons_self
        · exact List.mem_cons_of_mem _ (List.mem_cons_of_mem _ hy)
      · rcases List.mem_cons.mp hz' with rfl | hz'
        · exact hxx
        · rcases List.mem_cons.mp hz' with rfl | hz'
          · intro q
            apply hxx
            unfold tlt at *
            omega
          · exact hz z (List.mem_cons_of_mem _ hz')
theorem minB_tr {m : Mem} {d : D} {xs : List T3} (hd : lstOf m d = some (xs.map trD)) (h : xs ≠ []) : ∃ y ∈ xs, minB m [d] = some (trD y) ∧ ∀ z ∈ xs, ¬ tlt z y := by
  cases xs with
  | nil => exact absurd rfl h
  | cons x xs =>
    obtain ⟨y, hy, e, hz⟩ := minL_tr xs x
    refine ⟨y, hy, ?_, hz⟩
    unfold minB
    simp only [hd, List.map_cons]
    have al : (xs.map trD).all (D.alk 6 (trD x)) = true := by
      rw [List.all_eq_true]
      intro d hd
      obtain ⟨w, _, rfl⟩ := List.mem_map.mp hd
      simp [trD, D.alk, D.alkL]
    rw [al, if_pos (by simp [trD, D.alk, D.alkL]), e]
mutual
theorem d_mono {k : Nat} : ∀ (d : D), D.cl k d = true → D.cl (k + 1) d = true
  | .tup ds, h => by simp only [D.cl] at h ⊢; exact dL_mono ds h
  | .tpx ds, h => by simp only [D.cl] at h ⊢; exact dL_mono ds h
  | .lst ds, h => by simp only [D.cl] at h ⊢; exact dL_mono ds h
  | .dct ks vs, h => by simp only [D.cl, Bool.and_eq_true] at h ⊢; exact ⟨dL_mono ks h.1, dL_mono vs h.2⟩
  | .gdz ks vs, h => by simp only [D.cl, Bool.and_eq_true] at h ⊢; exact ⟨dL_mono ks h.1, dL_mono vs h.2⟩
  | .ref j, h => by simp only [D.cl, decide_eq_true_eq] at h ⊢; omega
  | .non, _ => by simp [D.cl]
  | .bl _, _ => by simp [D.cl]
  | .int _, _ => by simp [D.cl]
  | .str _, _ => by simp [D.cl]
  | .scr _, _ => by simp [D.cl]
  | .ty _, _ => by simp [D.cl]
  | .fn _, _ => by simp [D.cl]
  | .exc _, _ => by simp [D.cl]
theorem dL_mono {k : Nat} : ∀ (ds : List D), D.clL k ds = true → D.clL (k + 1) ds = true
  | [], _ => by simp [D.clL]
  | d :: ds, h => by
    simp only [D.clL, Bool.and_eq_true] at h ⊢
    exact ⟨d_mono d h.1, dL_mono ds h.2⟩
end
theorem mo_mono {k : Nat} {x : MO} (h : MO.cl k x = true) : MO.cl (k + 1) x = true := by
  cases x with
  | lst ds => exact dL_mono ds h
  | dct ks vs => simp only [MO.cl, Bool.and_eq_true] at h ⊢; exact ⟨dL_mono ks h.1, dL_mono vs h.2⟩
  | ins c fs => exact dL_mono _ h
  | gd ks vs => simp only [MO.cl, Bool.and_eq_true] at h ⊢; exact ⟨dL_mono ks h.1, dL_mono vs h.2⟩
  | gone => rfl
section
variable {a b : List Nat} {n : Int} {m : Mem}
def bfN (f : Bool) : Nat := if f then 1 else 0
/-- the lengths from all stands without idle steps, wheel by wheel -/
def bsL (l : Nat) (L : Bool → Nat → Nat) (f : Bool) : List T3 := (List.range l).map fun p => (L f p, bfN f, p)
def bsB : Sm := (exS (mtE appM (vE 2) (consA (tupE (consA (bE lenB (consA (callE m_searched (consA (vE 0) (consA (tupE (consA (vE 5) (consA (vE 4) (consA (cE (.int 0)) nilA)))) (consA (vE 1) nilA)))) nilA)) (consA (vE 3) (consA (vE 5) nilA)))) nilA)))
theorem bs_in (W : Whl a b n) (hl : a.length ≤ 12) {t : List Nat} (h1 : t.length ≤ 12) (ht : ∀ c ∈ t, c ∈ a ∨ c ∈ b) (hm : ∀ x ∈ m, MO.cl m.length x = true) (L : Bool → Nat → Nat)
    (hL : ∀ f p, p < a.length → ∀ q, Sho ⟨a, b, n⟩ ⟨p, f, 0⟩ t q → q.length = L f p) (f : Bool) : ∀ (ps : List Nat) (acc : List T3) (x5 : Option D), (∀ p ∈ ps, p < a.length) → acc.length + ps.length ≤ 100 →
    ∃ y5, forL (nmG 5) bsB (ps.map fun (p : Nat) => D.int p) [some (whD a b n), some (.str t), some (.ref m.length), some (.int (bfN f)), some (.str [wl f]), x5, none] (m ++ [.lst (acc.map trD)]) = .ok (.nx [some (whD a b n), some (.str t), some (.ref m.length), some (.int (bfN f)), some (.str [wl f]), y5, none]) (m ++ [.lst ((acc ++ ps.map fun p => (L f p, bfN f, p)).map trD)])
  | [], acc, x5, _, _ => ⟨x5, by simp [forL]⟩
  | p :: ps, acc, x5, hp, ha => by
    have n1 := W.n1
    have l : ∀ k : Nat, k ≤ 100 → k ≤ lim := fun k hk => by unfold lim; omega
    have nn : (0 : Int) ≤ (a.length : Int) * (n + 1) := Int.mul_nonneg (by omega) (by omega)
    have hm2 : ∀ x ∈ m ++ [MO.lst (acc.map trD)], MO.cl (m ++ [MO.lst (acc.map trD)]).length x = true := fun x hx => by
      have mono : ∀ (k : Nat) (x : MO), MO.cl k x = true → MO.cl (k + 1) x = true := fun k x h => mo_mono h
      rcases List.mem_append.mp hx with hx | hx
      · rw [List.length_append]
        exact mono _ x (hm x hx)
      · rw [List.mem_singleton.mp hx]
        have : ∀ (j : Nat) (xs : List T3), D.clL j (xs.map trD) = true := fun j xs => by
          induction xs with
          | nil => simp [D.clL]
          | cons y ys ih => simp [D.clL, D.cl, trD, ih]
        simp only [MO.cl, this]
    obtain ⟨q, eq, sh⟩ := searched_spec (v := ⟨a, b, n⟩) W hl (s0 := ⟨p, f, 0⟩) (hp p List.mem_cons_self) (by show ((0 : Nat) : Int) ≤ _; omega) ht h1 hm2
    have eq' : m_searched [whD a b n, .tup [.int p, .str [wl f], .int 0], .str t] (m ++ [MO.lst (acc.map trD)]) = .ok (.str q) (m ++ [MO.lst (acc.map trD)]) := eq
    have ql := hL f p (hp p List.mem_cons_self) q sh
    obtain ⟨y5, ih⟩ := bs_in W hl h1 ht hm L hL f ps (acc ++ [(L f p, bfN f, p)]) (some (.int p)) (fun q hq => hp q (List.mem_cons_of_mem _ hq)) (by simp at ha ⊢; omega)
    refine ⟨y5, ?_⟩
    have al : acc.length < lim := by have := l 100 (by decide); simp at ha; omega
    rw [List.map_cons, forL_cons]
    have step : bsB [some (whD a b n), some (.str t), some (.ref m.length), some (.int (bfN f)), some (.str [wl f]), some (.int p), none] (m ++ [.lst (acc.map trD)]) = .ok (.nx [some (whD a b n), some (.str t), some (.ref m.length), some (.int (bfN f)), some (.str [wl f]), some (.int p), none]) (m ++ [.lst ((acc ++ [(L f p, bfN f, p)]).map trD)]) := by
      unfold bsB
      simp [l, eq', ql, al, trD]
    simp only [nmG, LW.R.bind_ok, List.set_cons_succ, List.set_cons_zero, step, ih]
    rw [List.map_cons, List.append_assoc, List.singleton_append]
theorem best_stand_spec (W : Whl a b n) (hl : a.length ≤ 12) {t : List Nat} (h1 : t.length ≤ 12) (ht : ∀ c ∈ t, c ∈ a ∨ c ∈ b) (hm : ∀ x ∈ m, MO.cl m.length x = true) (L : Bool → Nat → Nat)
    (hL : ∀ f p, p < a.length → ∀ q, Sho ⟨a, b, n⟩ ⟨p, f, 0⟩ t q → q.length = L f p) :
    ∃ f p, p < a.length ∧ m_best_stand [whD a b n, .str t] m = .ok (.tup [.int p, .str [wl f], .int 0]) m ∧ ∀ f' p', p' < a.length → ¬ tlt (L f' p', bfN f', p') (L f p, bfN f, p) := by
  have hlo := W.lo
  have n1 := W.n1
  have l : ∀ k : Nat, k ≤ 100 → k ≤ lim := fun k hk => by unfold lim; omega
  have nn : (0 : Int) ≤ (a.length : Int) * (n + 1) := Int.mul_nonneg (by omega) (by omega)
  have e0 := need_short_spec (m := m) W (s := st0) ⟨by show 0 < a.length; omega, by show ((0 : Nat) : Int) ≤ _; omega⟩ h1 ht
  rw [show stD st0 = .tup [.int 0, .str [108], .int 0] from rfl] at e0
  have rl : ∀ p ∈ List.range a.length, p < a.length := fun p hp => List.mem_range.mp hp
  obtain ⟨y1, b1⟩ := bs_in W hl h1 ht hm L hL false (List.range a.length) [] none rl (by simp; omega)
  obtain ⟨y2, b2⟩ := bs_in W hl h1 ht hm L hL true (List.range a.length) (bsL a.length L false) y1 rl (by simp [bsL]; omega)
  have ik : inR (a.length : Int) = true := inR_nat (by omega)
  obtain ⟨xs, hxs⟩ : ∃ xs, xs = bsL a.length L false ++ bsL a.length L true := ⟨_, rfl⟩
  have hmem : ∀ f p, p < a.length → (L f p, bfN f, p) ∈ xs := fun f p hp => by
    rw [hxs]
    cases f with
    | false => exact List.mem_append_left _ (List.mem_map.mpr ⟨p, List.mem_range.mpr hp, rfl⟩)
    | true => exact List.mem_append_right _ (List.mem_map.mpr ⟨p, List.mem_range.mpr hp, rfl⟩)
  have hne : xs ≠ [] := fun z => by have := hmem false 0 (by omega); rw [z] at this; cases this
  obtain ⟨y, hy, emin, hz⟩ := minB_tr (m := m ++ [MO.lst (xs.map trD)]) (d := .ref m.length) (xs := xs) (by simp [lstOf]) hne
  obtain ⟨f, p, hp, rfl⟩ : ∃ f p, p < a.length ∧ y = (L f p, bfN f, p) := by
    rw [hxs] at hy
    rcases List.mem_append.mp hy with hy | hy
    · obtain ⟨p, hp, rfl⟩ := List.mem_map.mp hy; exact ⟨false, p, List.mem_range.mp hp, rfl⟩
    · obtain ⟨p, hp, rfl⟩ := List.mem_map.mp hy; exact ⟨true, p, List.mem_range.mp hp, rfl⟩
  refine ⟨f, p, hp, ?_, fun f' p' hp' => hz _ (hmem f' p' hp')⟩
  have loop : forL (tupG (consG (nmG 3) (consG (nmG 4) nilG))) (forS (itR1 (bE lenB (consA (opE LW.getD (vE 0) (cE (.int 0))) nilA))) (nmG 5) bsB) [.tup [.int 0, .str [108]], .tup [.int 1, .str [102]]] [some (whD a b n), some (.str t), some (.ref m.length), none, none, none, none] (m ++ [.lst []]) = .ok (.nx [some (whD a b n), some (.str t), some (.ref m.length), some (.int 1), some (.str [102]), y2, none]) (m ++ [.lst (xs.map trD)]) := by
    have it : ∀ g3 g4 g5 m', forS (itR1 (bE lenB (consA (opE LW.getD (vE 0) (cE (.int 0))) nilA))) (nmG 5) bsB [some (whD a b n), some (.str t), some (.ref m.length), g3, g4, g5, none] m' = forL (nmG 5) bsB ((List.range a.length).map fun (p : Nat) => D.int p) [some (whD a b n), some (.str t), some (.ref m.length), g3, g4, g5, none] m' := fun g3 g4 g5 m' => by
      simp [ixD, ik]
    simp only [bfN, wl, Bool.false_eq_true, if_false, if_true, List.map_nil, List.nil_append] at b1 b2
    have hb : ((List.range a.length).map fun p => (L false p, 0, p)) = bsL a.length L false := rfl
    rw [hb] at b1
    rw [forL_cons]
    have t1 : tupG (consG (nmG 3) (consG (nmG 4) nilG)) (.tup [.int 0, .str [108]]) [some (whD a b n), some (.str t), some (.ref m.length), none, none, none, none] (m ++ [.lst []]) = .ok [some (whD a b n), some (.str t), some (.ref m.length), some (.int 0), some (.str [108]), none, none] (m ++ [.lst []]) := rfl
    rw [t1, LW.R.bind_ok, it]
    have b1' : forL (nmG 5) bsB ((List.range a.length).map fun (p : Nat) => D.int p) [some (whD a b n), some (.str t), some (.ref m.length), some (.int 0), some (.str [108]), none, none] (m ++ [.lst []]) = _ := b1
    rw [b1', LW.R.bind_ok]
    dsimp only
    rw [forL_cons]
    have t2 : tupG (consG (nmG 3) (consG (nmG 4) nilG)) (.tup [.int 1, .str [102]]) [some (whD a b n), some (.str t), some (.ref m.length), some (.int 0), some (.str [108]), y1, none] (m ++ [.lst ((bsL a.length L false).map trD)]) = .ok [some (whD a b n), some (.str t), some (.ref m.length), some (.int 1), some (.str [102]), y1, none] (m ++ [.lst ((bsL a.length L false).map trD)]) := rfl
    rw [show ((0 : Nat) : Int) = 0 from rfl, t2, LW.R.bind_ok, it]
    have b2' : forL (nmG 5) bsB ((List.range a.length).map fun (p : Nat) => D.int p) [some (whD a b n), some (.str t), some (.ref m.length), some (.int 1), some (.str [102]), y1, none] (m ++ [.lst ((bsL a.length L false).map trD)]) = _ := b2
    rw [b2', LW.R.bind_ok]
    dsimp only
    rw [forL_nil, hxs]
    rfl
  unfold bsB at loop
  have gm := gc_mem (m := m ++ [MO.lst (xs.map trD)]) (d := .tup [.int p, .str [wl f], .int 0]) (r := m) (by simp [D.cl, D.clL]) hm [MO.lst (xs.map trD)] rfl (by simp)
  have en : enumD [D.str [108], .str [102]] = [.tup [.int 0, .str [108]], .tup [.int 1, .str [102]]] := rfl
  have emin' : minB (m ++ [MO.lst (xs.map trD)]) [.ref m.length] = some (.tup [.int (L f p), .int (bfN f), .int p]) := emin
  unfold m_best_stand fnS b_best_stand
  cases f with
  | false =>
    simp only [bfN, wl, Bool.false_eq_true, if_false] at emin' gm ⊢
    simp [e0, l, en, loop, emin', ixD, gm]
  | true =>
    simp only [bfN, wl, if_true] at emin' gm ⊢
    simp [e0, l, en, loop, emin', ixD, gm]
end
end LW
/-! PvI: the price of a list of spots; least rows from stands without idle steps; wheels turned, swapped; signs_near. -/
namespace LW
abbrev Sp := Nat × Bool
def cst (l : Nat) : Sp → List Sp → Nat
  | _, [] => 0
  | x, y :: ys => (seg l x y).length + cst l y ys
def segs (l : Nat) : Sp → List Sp → List Nat
  | _, [] => []
  | x, y :: ys => seg l x y ++ segs l y ys
theorem segs_len (l : Nat) : ∀ (ss : List Sp) (x : Sp), (segs l x ss).length = cst l x ss
  | [], _ => rfl
  | y :: ys, x => by rw [segs, cst, List.length_append, segs_len l ys y]
theorem segs_pul (l : Nat) : ∀ (ss : List Sp) (x : Sp), ∀ c ∈ segs l x ss, IsPul c
  | [], _ => by simp [segs]
  | y :: ys, x => by rw [segs]; exact pul_app (seg_pul _ _ _) (segs_pul l ys y)
theorem segs_spo {l : Nat} {n : Int} (hn : 1 ≤ n) : ∀ (ss : List Sp) (x : Sp), x.1 < l → (∀ y ∈ ss, y.1 < l) → spo l n ⟨x.1, x.2, 0⟩ (segs l x ss) = ss
  | [], _, _, _ => rfl
  | y :: ys, x, hx, hy => by
    have h1 := hy y List.mem_cons_self
    have r := seg_run (n := n) hn hx h1 0
    rw [Nat.add_zero, Nat.add_zero, Nat.mod_eq_of_lt hx, Nat.mod_eq_of_lt h1] at r
    rw [segs, spo_append, r.1, r.2, segs_spo hn ys y h1 fun z hz => hy z (List.mem_cons_of_mem _ hz)]
    rfl
theorem md {l p q : Nat} (hp : p < l) (hq : q < l) : (q + l - p) % l = if p ≤ q then q - p else q + l - p := by
  split
  · rw [show q + l - p = (q - p) + l by omega, Nat.add_mod_right, Nat.mod_eq_of_lt (by omega)]
  · rw [Nat.mod_eq_of_lt (by omega)]
theorem seg_ln (l : Nat) (x y : Sp) : (seg l x y).length = (y.1 + l - x.1) % l + (if x.2 = y.2 then 0 else 1) + 1 := by
  unfold seg
  by_cases h : x.2 = y.2 <;> simp [h]
theorem cst_low {l : Nat} {n : Int} : ∀ (row : List Nat) (s : Std), s.p < l → cst l (s.p, s.f) (spo l n s row) ≤ row.length
  | [], s, _ => Nat.le_refl _
  | c :: row, s, hs => by
    have ih := cst_low (l := l) (n := n) row (stp l n s c) (stp_lt hs)
    have hb := spo_lt (n := n) row (stp l n s c) (stp_lt hs)
    rw [spo, List.length_cons]
    have key : ∀ (x : Sp) (ys : List Sp), (∀ y ∈ ys, y.1 < l) → x.1 < l → cst l x ys ≤ row.length → (x = (s.p, s.f) ∨ x.1 = s.p ∨ x.1 = (s.p + 1) % l ∧ x.2 = s.f) → cst l (s.p, s.f) ys ≤ row.length + 1 := fun x ys hy hx h1 h2 => by
      cases ys with
      | nil => exact Nat.zero_le _
      | cons y ys =>
        have hy1 := hy y List.mem_cons_self
        rw [cst] at h1 ⊢
        rw [seg_ln] at h1 ⊢
        simp only at h1 ⊢
        rw [md hs hy1]
        rw [md hx hy1] at h1
        rcases h2 with rfl | h2 | ⟨h2, h3⟩
        · simp only at h1
          omega
        · rw [h2] at h1
          have : (if s.f = y.2 then 0 else 1) ≤ 1 + (if x.2 = y.2 then 0 else 1) := by split <;> split <;> omega
          split at h1 <;> split <;> omega
        · rw [h3] at h1
          have e : (s.p + 1) % l = if s.p + 1 < l then s.p + 1 else 0 := by
            split
            · exact Nat.mod_eq_of_lt (by omega)
            · rw [show s.p + 1 = l by omega, Nat.mod_self]
          rw [e] at h2
          split at h2 <;> split at h1 <;> split <;> omega
    by_cases hc : c = 112
    · subst hc
      have e : stp l n s 112 = ⟨s.p, s.f, 0⟩ := rfl
      rw [e] at ih ⊢
      simp only [if_true, List.singleton_append, cst]
      rw [seg_ln]
      simp only [if_true]
      rw [md hs hs, if_pos (Nat.le_refl _)]
      simp only at ih
      omega
    · rw [if_neg hc, List.nil_append]
      refine key _ _ hb (stp_lt hs) ih ?_
      by_cases h1 : c = 115
      · subst h1
        simp only [stp, if_true]
        by_cases hq : s.p = 0 ∧ (l : Int) * n ≤ (s.i : Int)
        · rw [if_pos hq]; exact .inl rfl
        · rw [if_neg hq]; exact .inr (.inr ⟨rfl, rfl⟩)
      · refine .inr (.inl ?_)
        simp only [stp, if_neg h1, if_neg hc]
/-! ### shortest rows by spots -/
section
variable {a b : List Nat} {n : Int}
theorem pul_pls2 {q : List Nat} (h : ∀ c ∈ q, IsPul c) : Pls q := fun c hc => pul_pls (h c hc)
theorem Sho.to (W : Whl a b n) {x : Sp} (hx : x.1 < a.length) {t q : List Nat} (h : Sho ⟨a, b, n⟩ ⟨x.1, x.2, 0⟩ t q) {ss : List Sp} (hs : ∀ y ∈ ss, y.1 < a.length) (e : ss.map (sgAt a b) = t) : q.length ≤ cst a.length x ss := by
  rw [← segs_len]
  refine h.le _ (pul_pls2 (segs_pul _ _ _)) ?_
  show (run a b n _ _).2 = t
  rw [run_spo, segs_spo W.n1 ss x hx hs, e]
theorem Sho.from_ {s : Std} (hs : s.p < a.length) {t q : List Nat} (h : Sho ⟨a, b, n⟩ s t q) : ∃ ss : List Sp, (∀ y ∈ ss, y.1 < a.length) ∧ ss.map (sgAt a b) = t ∧ cst a.length (s.p, s.f) ss ≤ q.length := by
  refine ⟨spo a.length n s q, spo_lt q s hs, ?_, cst_low q s hs⟩
  have := h.sh
  change (run a b n s q).2 = t at this
  rw [run_spo] at this
  exact this
/-- each spot goes to one of the other wheels with the same sign, and prices stay -/
theorem sho_le {a' b' : List Nat} {n' : Int} (W' : Whl a' b' n') (hl : a'.length = a.length) {x : Sp} (hx : x.1 < a.length) {t q q' : List Nat} (g : Sp → Sp) (h1 : ∀ y : Sp, y.1 < a.length → (g y).1 < a.length ∧ sgAt a' b' (g y) = sgAt a b y)
    (h2 : ∀ y z : Sp, y.1 < a.length → z.1 < a.length → (seg a.length (g y) (g z)).length = (seg a.length y z).length) (h : Sho ⟨a, b, n⟩ ⟨x.1, x.2, 0⟩ t q) (h' : Sho ⟨a', b', n'⟩ ⟨(g x).1, (g x).2, 0⟩ t q') : q'.length ≤ q.length := by
  obtain ⟨ss, s1, s2, s3⟩ := h.from_ hx
  have c : ∀ (ss : List Sp) (x : Sp), x.1 < a.length → (∀ y ∈ ss, y.1 < a.length) → cst a.length (g x) (ss.map g) = cst a.length x ss := by
    intro ss
    induction ss with
    | nil => intro x _ _; rfl
    | cons y ys ih =>
      intro x hx hy
      rw [List.map_cons, cst, cst, h2 x y hx (hy y List.mem_cons_self), ih y (hy y List.mem_cons_self) fun z hz => hy z (List.mem_cons_of_mem _ hz)]
  have := h'.to W' (by rw [hl]; exact (h1 x hx).1) (ss := ss.map g) (fun y hy => by
    obtain ⟨z, hz, rfl⟩ := List.mem_map.mp hy
    rw [hl]
    exact (h1 z (s1 z hz)).1) (by
    rw [List.map_map, ← s2]
    exact List.map_congr_left fun y hy => (h1 y (s1 y hy)).2)
  rw [hl, c ss x hx s1] at this
  exact Nat.le_trans this s3
theorem mod_back {l p k : Nat} (hk : k < l) (hp : p < l) : ((k + l - p) % l + p) % l = k := by
  rw [Nat.mod_add_mod, show k + l - p + p = k + l by omega, Nat.add_mod_right, Nat.mod_eq_of_lt hk]
theorem sgAt_turn (W : Whl a b n) {p : Nat} (hp : p < a.length) {x : Sp} (hx : x.1 < a.length) : sgAt (a.drop p ++ a.take p) (b.drop p ++ b.take p) x = sgAt a b ((x.1 + p) % a.length, x.2) := by
  have hb := W.same
  unfold sgAt
  cases x.2 with
  | false => simp only [Bool.false_eq_true, if_false]; exact getD_turn (by omega) hx
  | true =>
    simp only [if_true]
    have := getD_turn (a := b) (p := p) (k := x.1) (by omega) (by omega)
    rw [hb] at this
    exact this
theorem mod_sh {l p q d : Nat} (hp : p < l) (hq : q < l) (hd : d < l) : ((q + d) % l + l - (p + d) % l) % l = (q + l - p) % l := by
  have e : ∀ k, k < l → (k + d) % l = if k + d < l then k + d else k + d - l := fun k hk => by
    split
    · exact Nat.mod_eq_of_lt (by omega)
    · rw [show k + d = (k + d - l) + l by omega, Nat.add_mod_right, Nat.mod_eq_of_lt (by omega)]
      omega
  have h1 : (p + d) % l < l := Nat.mod_lt _ (by omega)
  have h2 : (q + d) % l < l := Nat.mod_lt _ (by omega)
  rw [md h1 h2, md hp hq, e p hp, e q hq]
  split <;> split <;> split <;> split <;> omega
theorem turn_len (W : Whl a b n) {p : Nat} (hp : p < a.length) {x : Sp} (hx : x.1 < a.length) {t q q' : List Nat} (h : Sho ⟨a, b, n⟩ ⟨x.1, x.2, 0⟩ t q) (h' : Sho ⟨a.drop p ++ a.take p, b.drop p ++ b.take p, n⟩ ⟨(x.1 + a.length - p) % a.length, x.2, 0⟩ t q') : q'.length = q.length := by
  have hl : (a.drop p ++ a.take p).length = a.length := by simp; omega
  have hlo := W.lo
  have ml : ∀ k, k % a.length < a.length := fun k => Nat.mod_lt _ (by omega)
  apply Nat.le_antisymm
  · refine sho_le (turned_whl W hp) hl hx (fun y => ((y.1 + a.length - p) % a.length, y.2)) (fun y hy => ⟨ml _, ?_⟩) (fun y z hy hz => ?_) h h'
    · rw [sgAt_turn W hp (ml _)]
      simp only
      rw [mod_back hy hp]
    · rw [seg_ln, seg_ln]
      simp only
      have := mod_sh (l := a.length) (p := (y.1 + a.length - p) % a.length) (q := (z.1 + a.length - p) % a.length) (d := p) (ml _) (ml _) hp
      rw [mod_back hy hp, mod_back hz hp] at this
      rw [this]
  · have h2 : Sho ⟨a, b, n⟩ ⟨((x.1 + a.length - p) % a.length + p) % a.length, x.2, 0⟩ t q := by rw [mod_back hx hp]; exact h
    refine sho_le (a := a.drop p ++ a.take p) (x := ((x.1 + a.length - p) % a.length, x.2)) W hl.symm (by rw [hl]; exact ml _) (fun y => ((y.1 + p) % a.length, y.2)) (fun y hy => ?_) (fun y z hy hz => ?_) h' h2
    · rw [hl] at hy ⊢
      exact ⟨ml _, (sgAt_turn W hp hy).symm⟩
    · rw [hl] at hy hz ⊢
      rw [seg_ln, seg_ln]
      simp only
      rw [mod_sh hy hz hp]
theorem exlf2 (c : Nat) : exlf (exlf c) = c := by
  unfold exlf
  by_cases h1 : c = 108
  · simp [h1]
  · by_cases h2 : c = 102 <;> simp [h1, h2]
theorem run_flip (W : Whl a b n) {s : Std} {row : List Nat} (hr : ∀ c ∈ row, IsPul c) : (run b a n s.flip (row.map exlf)).2 = (run a b n s row).2 := by
  rw [run_spo, run_spo, W.same, spo_flip row s hr, List.map_map]
  refine List.map_congr_left fun x _ => ?_
  obtain ⟨k, f⟩ := x
  cases f <;> rfl
theorem flip_le (W : Whl a b n) {s : Std} {t q q' : List Nat} (h : Sho ⟨a, b, n⟩ s t q) (h' : Sho ⟨b, a, n⟩ s.flip t q') : q'.length ≤ q.length := by
  have hp : ∀ c ∈ q, IsPul c := fun c hc => pls_pul c (h.pu c hc)
  have := h'.le (q.map exlf) (pul_pls2 fun c hc => by
    obtain ⟨d, hd, rfl⟩ := List.mem_map.mp hc
    exact exlf_pul (hp d hd)) (by
    show (run b a n s.flip (q.map exlf)).2 = t
    rw [run_flip W hp]
    exact h.sh)
  rw [List.length_map] at this
  exact this
theorem flip_len (W : Whl a b n) {s : Std} {t q q' : List Nat} (h : Sho ⟨a, b, n⟩ s t q) (h' : Sho ⟨b, a, n⟩ s.flip t q') : q'.length = q.length := by
  refine Nat.le_antisymm (flip_le W h h') (flip_le (swapped_whl W) h' ?_)
  have : s.flip.flip = s := by unfold Std.flip; simp
  rw [this]
  exact h
end
end LW
/-! PvJ: all signs, sorted, by what they are; signs_near; texts drawn of all signs. -/
namespace LW
theorem insN_comm (x y : Nat) : ∀ l : List Nat, insN x (insN y l) = insN y (insN x l)
  | [] => by
    simp only [insN]
    by_cases h : x ≤ y
    · by_cases h2 : y ≤ x
      · have : x = y := by omega
        subst this; rfl
      · simp [h, h2, insN]
    · have h2 : y ≤ x := by omega
      simp [h, h2, insN]
  | z :: l => by
    have ih := insN_comm x y l
    by_cases h1 : x ≤ z <;> by_cases h2 : y ≤ z
    · simp only [insN, h1, h2, if_true]
      by_cases h : x ≤ y
      · by_cases h3 : y ≤ x
        · have : x = y := by omega
          subst this; rfl
        · simp [h, h3, insN, h2]
      · have h3 : y ≤ x := by omega
        simp [h, h3, insN, h1]
    · have h3 : x ≤ y := by omega
      have h4 : ¬ y ≤ x := by omega
      simp [insN, h1, h2, h4]
    · have h3 : y ≤ x := by omega
      have h4 : ¬ x ≤ y := by omega
      simp [insN, h1, h2, h4]
    · simp [insN, h1, h2, ih]
theorem sortN_congr {l l' : List Nat} (h : l.Perm l') : sortN l = sortN l' := by
  induction h with
  | nil => rfl
  | cons x _ ih => simp only [sortN, ih]
  | swap x y l => simp only [sortN]; exact insN_comm _ _ _
  | trans _ _ ih1 ih2 => exact ih1.trans ih2
theorem dedup_nd : ∀ l : List Nat, (dedup l).Nodup
  | [] => List.nodup_nil
  | x :: r => by
    rw [dedup, List.nodup_cons]
    refine ⟨fun h => ?_, (dedup_nd r).filter _⟩
    have := (List.mem_filter.mp h).2
    simp at this
theorem perm_nd {α : Type} [DecidableEq α] : ∀ {l l' : List α}, l.Nodup → l'.Nodup → (∀ x, x ∈ l ↔ x ∈ l') → l.Perm l'
  | [], l', _, _, h => by
    cases l' with
    | nil => exact .refl _
    | cons y r => exact absurd ((h y).mpr List.mem_cons_self) (by simp)
  | x :: l, l', h1, h2, h => by
    have hx : x ∈ l' := (h x).mp List.mem_cons_self
    have p := List.perm_cons_erase hx
    obtain ⟨n1, n2⟩ := List.nodup_cons.mp h1
    refine (List.Perm.cons x (perm_nd n2 (h2.erase x) fun y => ?_)).trans p.symm
    rw [h2.mem_erase_iff]
    constructor
    · intro hy
      exact ⟨fun e => n1 (e ▸ hy), (h y).mp (List.mem_cons_of_mem _ hy)⟩
    · rintro ⟨h3, h4⟩
      rcases List.mem_cons.mp ((h y).mpr h4) with e | e
      · exact absurd e h3
      · exact e
theorem sgs_congr {a b a' b' : List Nat} (h : ∀ c, (c ∈ a ∨ c ∈ b) ↔ (c ∈ a' ∨ c ∈ b')) : sgs a b = sgs a' b' :=
  sortN_congr (perm_nd (dedup_nd _) (dedup_nd _) fun c => by rw [mem_dedup, mem_dedup, List.mem_append, List.mem_append]; exact h c)
section
variable {a b : List Nat} {n : Int} {m : Mem}
theorem ones_cl (j : Nat) : ∀ l : List Nat, D.clL j (l.map fun c => D.str [c]) = true
  | [] => by simp [D.clL]
  | c :: l => by simp [D.clL, D.cl, ones_cl j l]
theorem cl_snoc {r : Mem} {o : MO} (hr : ∀ x ∈ r, MO.cl r.length x = true) (ho : MO.cl (r.length + 1) o = true) : ∀ x ∈ r ++ [o], MO.cl (r ++ [o]).length x = true := fun x hx => by
  rw [List.length_append]
  rcases List.mem_append.mp hx with hx | hx
  · exact mo_mono (hr x hx)
  · rw [List.mem_singleton.mp hx]; exact ho
def snB : Sm := (ifS (tE (opE leD (bE lenB (consA (callE m_searched (consA (vE 0) (consA (vE 1) (consA (vE 4) nilA)))) nilA)) (vE 2))) (exS (mtE appM (vE 3) (consA (vE 4) nilA))) nxS)
theorem sn_loop (W : Whl a b n) (hl : a.length ≤ 12) {s : Std} (hs : s.ok a n) (k : Int) (hm : ∀ x ∈ m, MO.cl m.length x = true) (L : Nat → Nat) (hL : ∀ c, (c ∈ a ∨ c ∈ b) → ∀ q, Sho ⟨a, b, n⟩ s [c] q → q.length = L c) : ∀ (cs acc : List Nat) (x4 : Option D), (∀ c ∈ cs, c ∈ a ∨ c ∈ b) → acc.length + cs.length ≤ 100 →
    ∃ y4, forL (nmG 4) snB (cs.map fun c => .str [c]) [some (whD a b n), some (stD s), some (.int k), some (.ref m.length), x4] (m ++ [.lst (acc.map fun c => .str [c])]) = .ok (.nx [some (whD a b n), some (stD s), some (.int k), some (.ref m.length), y4]) (m ++ [.lst ((acc ++ cs.filter fun c => decide ((L c : Int) ≤ k)).map fun c => .str [c])])
  | [], acc, x4, _, _ => ⟨x4, by simp [forL]⟩
  | c :: cs, acc, x4, hc, ha => by
    have c1 := hc c List.mem_cons_self
    have hm2 := cl_snoc (r := m) (o := .lst (acc.map fun c => .str [c])) hm (ones_cl _ _)
    obtain ⟨q, eq, sh⟩ := searched_spec (v := ⟨a, b, n⟩) W hl (s0 := s) hs.1 hs.2 (t := [c]) (fun d hd => by rw [List.mem_singleton.mp hd]; exact c1) (by simp) hm2
    have eq' : m_searched [whD a b n, stD s, .str [c]] (m ++ [.lst (acc.map fun c => .str [c])]) = .ok (.str q) (m ++ [.lst (acc.map fun c => .str [c])]) := eq
    have ql := hL c c1 q sh
    have al : acc.length < lim := by simp at ha; unfold lim; omega
    rw [List.map_cons, forL_cons]
    by_cases hk : (L c : Int) ≤ k
    · obtain ⟨y4, ih⟩ := sn_loop W hl hs k hm L hL cs (acc ++ [c]) (some (.str [c])) (fun d hd => hc d (List.mem_cons_of_mem _ hd)) (by simp at ha ⊢; omega)
      refine ⟨y4, ?_⟩
      have one : snB [some (whD a b n), some (stD s), some (.int k), some (.ref m.length), some (.str [c])] (m ++ [.lst (acc.map fun c => .str [c])]) = .ok (.nx [some (whD a b n), some (stD s), some (.int k), some (.ref m.length), some (.str [c])]) (m ++ [.lst ((acc ++ [c]).map fun c => .str [c])]) := by
        unfold snB
        simp [eq', ql, hk, al]
      simp only [nmG, LW.R.bind_ok, List.set_cons_succ, List.set_cons_zero, one, ih]
      rw [List.filter_cons, if_pos (by simpa using hk), List.append_assoc, List.singleton_append]
    · obtain ⟨y4, ih⟩ := sn_loop W hl hs k hm L hL cs acc (some (.str [c])) (fun d hd => hc d (List.mem_cons_of_mem _ hd)) (by simp at ha ⊢; omega)
      refine ⟨y4, ?_⟩
      have one : snB [some (whD a b n), some (stD s), some (.int k), some (.ref m.length), some (.str [c])] (m ++ [.lst (acc.map fun c => .str [c])]) = .ok (.nx [some (whD a b n), some (stD s), some (.int k), some (.ref m.length), some (.str [c])]) (m ++ [.lst (acc.map fun c => .str [c])]) := by
        unfold snB
        simp [eq', ql, hk, al]
      simp only [nmG, LW.R.bind_ok, List.set_cons_succ, List.set_cons_zero, one, ih]
      rw [List.filter_cons, if_neg (by simpa using hk)]
def nearL (a b : List Nat) (L : Nat → Nat) (k : Int) : List Nat := (sgs a b).filter fun c => decide ((L c : Int) ≤ k)
theorem signs_near_spec (W : Whl a b n) (hl : a.length ≤ 12) {s : Std} (hs : s.ok a n) (k : Int) (hm : ∀ x ∈ m, MO.cl m.length x = true) (L : Nat → Nat) (hL : ∀ c, (c ∈ a ∨ c ∈ b) → ∀ q, Sho ⟨a, b, n⟩ s [c] q → q.length = L c) :
    m_signs_near [whD a b n, stD s, .int k] m = .ok (.str (nearL a b L k)) m := by
  have e0 := need_short_spec (m := m) W hs (t := []) (by simp) (by simp)
  have hsm := W.same
  have sl := sgs_len a b
  have l : ∀ k : Nat, k ≤ 100 → k ≤ lim := fun k hk => by unfold lim; omega
  obtain ⟨y4, loop⟩ := sn_loop W hl hs k hm L hL (sgs a b) [] none (fun c hc => mem_sgs.mp hc) (by simp; omega)
  unfold snB at loop
  have so := fun m => sorted_sgs (a := a) (b := b) m (by omega)
  have fl : (nearL a b L k).length ≤ lim := by
    have := List.length_filter_le (fun c => decide ((L c : Int) ≤ k)) (sgs a b)
    unfold nearL
    exact l _ (by omega)
  have jo := join_ones (fun c : Nat => c) (nearL a b L k) (m ++ [.lst ((nearL a b L k).map fun c => .str [c])]) fl
  have jr : joinD (m ++ [.lst ((nearL a b L k).map fun c => .str [c])]) (.str []) (.ref m.length) = some (.str (nearL a b L k)) := by
    simp only [List.map_id'] at jo
    rw [← jo]
    simp [joinD]
  have gm := gc_mem (m := m ++ [MO.lst ((nearL a b L k).map fun c => .str [c])]) (d := .str (nearL a b L k)) (r := m) rfl hm [.lst ((nearL a b L k).map fun c => .str [c])] rfl (by simp)
  rw [List.nil_append, List.map_nil] at loop
  have lab : a.length + b.length ≤ lim := l _ (by omega)
  unfold nearL at jr gm
  simp [m_signs_near, b_signs_near, fnS, e0, l, lab, so, loop, jr, gm, ixD]
  rfl
theorem pick_sgs {ns : List Int} {t : Nat} {r : Mem} (h : Whl a b n) (ht : t < 1000000) : ∃ o, (o ∈ a ∨ o ∈ b) ∧ m_law_pick [.scr ns, .ref 0, .lst ((sgs a b).map fun c => .str [c])] (twn t :: r) = .ok (.str [o]) (twn (t + 1) :: r) := by
  have hne : (sgs a b).map (fun c => D.str [c]) ≠ [] := by
    have hm : a[0]'(by have := h.lo; omega) ∈ sgs a b := mem_sgs.mpr (.inl (List.getElem_mem _))
    intro z
    have := List.map_eq_nil_iff.mp z
    rw [this] at hm
    simp at hm
  obtain ⟨x, hx, e⟩ := pick_spec (ns := ns) (t := t) (r := r) hne ht
  obtain ⟨o, ho, rfl⟩ := List.mem_map.mp hx
  exact ⟨o, mem_sgs.mp ho, e⟩
theorem law_textS_spec {ns : List Int} {t most : Nat} {r : Mem} (W : Whl a b n) (hm : most ≤ 1000) (ht : t < 900000) : ∃ (text : List Nat) (t' : Nat), m_law_text [.scr ns, .ref 0, whD a b n, .int most] (twn t :: r) = .ok (.str text) (twn t' :: r) ∧ t' ≤ t + most + 1 ∧ text.length ≤ most ∧ ∀ c ∈ text, c ∈ a ∨ c ∈ b := by
  obtain ⟨k, hk, d1⟩ := draw_nat (ns := ns) (t := t) (r := r) (many := most + 1) (by omega) (by omega)
  have e1 : ((most + 1 : Nat) : Int) = (most : Int) + 1 := by omega
  rw [e1] at d1
  have loop := lcL_inv (t := nmG 5) (e := noX (callE m_law_pick (consA (vE 0) (consA (vE 1) (consA (vE 4) nilA)))))
    (g := [some (.scr ns), some (.ref 0), some (whD a b n), some (.int most), some (.lst ((sgs a b).map fun c => .str [c])), none]) (ds := (List.range k).map fun (i : Nat) => D.int i) (fun i acc m => ∃ row : List Nat, acc = row.map (fun c => D.str [c]) ∧ row.length = i ∧ (∀ c ∈ row, c ∈ a ∨ c ∈ b) ∧ m = twn (t + 1 + i) :: r) ?step (m := twn (t + 1) :: r) ⟨[], rfl, rfl, by simp, rfl⟩
  case step =>
    rintro i d acc m hd ⟨row, rfl, hl, hr, rfl⟩
    have hi : i < k := by
      have := (List.getElem?_eq_some_iff.mp hd).1
      simpa using this
    obtain ⟨c, hc, p1⟩ := pick_sgs (ns := ns) (t := t + 1 + i) (r := r) W (by omega)
    refine ⟨_, _, rfl, .str [c], twn (t + 1 + i + 1) :: r, ?_, row ++ [c], by simp, by simp [hl], ?_, rfl⟩
    · simp [p1]
    · intro d' hd'
      rcases List.mem_append.mp hd' with h | h
      · exact hr d' h
      · rw [List.mem_singleton.mp h]; exact hc
  obtain ⟨ys, m', e, row, rfl, hl, hr, rfl⟩ := loop
  simp only [List.length_map, List.length_range] at hl e
  refine ⟨row, t + 1 + k, ?_, by omega, by omega, hr⟩
  have hin : inR (k : Int) = true := inR_nat (by omega)
  have hlm : k ≤ lim := by unfold lim; omega
  have hhi := W.hi
  have hsm := W.same
  have lab : a.length + b.length ≤ lim := by unfold lim; omega
  have so := fun m => sorted_sgs (a := a) (b := b) m (by omega)
  have hj := join_ones (fun c : Nat => c) row (twn (t + 1 + k) :: r) (by rw [hl]; exact hlm)
  simp only [List.map_id'] at hj
  simp [m_law_text, b_law_text, fnS, d1, hin, hlm, e, hj, gcR, lab, so, ixD]
end
end LW
namespace LW
section
variable {a b : List Nat} {n : Int} {m : Mem}
open Classical in
/-- how long a shortest row is -/
noncomputable def lenS (v : Wl) (s : Std) (t : List Nat) : Nat := if h : ∃ q, Sho v s t q then (choose h).length else 0
theorem lenS_eq {v : Wl} {s : Std} {t q : List Nat} (h : Sho v s t q) : q.length = lenS v s t := by
  have e : ∃ q, Sho v s t q := ⟨q, h⟩
  unfold lenS
  rw [dif_pos e]
  exact h.len (Classical.choose_spec e)
theorem sho_ex (W : Whl a b n) (hl : a.length ≤ 12) {s : Std} (hs : s.ok a n) {t : List Nat} (h1 : t.length ≤ 12) (ht : ∀ c ∈ t, c ∈ a ∨ c ∈ b) : ∃ q, Sho ⟨a, b, n⟩ s t q := by
  obtain ⟨q, _, _, h⟩ := row_from_spec (m := []) W hl hs h1 ht (by simp)
  exact ⟨q, h⟩
theorem least_from_len (W : Whl a b n) (hl : a.length ≤ 12) {s : Std} (hs : s.ok a n) {t : List Nat} (h1 : t.length ≤ 12) (ht : ∀ c ∈ t, c ∈ a ∨ c ∈ b) (hm : ∀ x ∈ m, MO.cl m.length x = true) : m_least_from [whD a b n, stD s, .str t] m = .ok (.int (lenS ⟨a, b, n⟩ s t)) m := by
  obtain ⟨q, _, e, h⟩ := row_from_spec (m := m) W hl hs h1 ht hm
  rw [e, lenS_eq h]
theorem ok0 (W : Whl a b n) {p : Nat} (hp : p < a.length) (f : Bool) : Std.ok a n ⟨p, f, 0⟩ := by
  have := W.n1
  have nn : (0 : Int) ≤ (a.length : Int) * (n + 1) := Int.mul_nonneg (by omega) (by omega)
  exact ⟨hp, by show ((0 : Nat) : Int) ≤ _; omega⟩
theorem flip_ok (W : Whl a b n) {s : Std} (h : s.ok a n) : s.flip.ok b n := by
  unfold Std.ok
  rw [W.same]
  exact h
theorem lenS_turn (W : Whl a b n) (hl : a.length ≤ 12) {p : Nat} (hp : p < a.length) {x : Nat} (hx : x < a.length) (f : Bool) {t : List Nat} (h1 : t.length ≤ 12) (ht : ∀ c ∈ t, c ∈ a ∨ c ∈ b) :
    lenS ⟨a.drop p ++ a.take p, b.drop p ++ b.take p, n⟩ ⟨(x + a.length - p) % a.length, f, 0⟩ t = lenS ⟨a, b, n⟩ ⟨x, f, 0⟩ t := by
  have hal : (a.drop p ++ a.take p).length = a.length := by simp; omega
  obtain ⟨q, hq⟩ := sho_ex W hl (ok0 W hx f) h1 ht
  have W' := turned_whl W hp
  obtain ⟨q', hq'⟩ := sho_ex W' (by rw [hal]; exact hl) (ok0 W' (p := (x + a.length - p) % a.length) (by rw [hal]; exact Nat.mod_lt _ (by omega)) f) h1 (fun c hc => by
    rw [List.mem_append, List.mem_append]
    have pa : (a.drop p ++ a.take p).Perm a := List.perm_append_comm.trans (by rw [List.take_append_drop])
    have pb : (b.drop p ++ b.take p).Perm b := List.perm_append_comm.trans (by rw [List.take_append_drop])
    rcases ht c hc with h | h
    · exact .inl (List.mem_append.mp (pa.mem_iff.mpr h))
    · exact .inr (List.mem_append.mp (pb.mem_iff.mpr h)))
  rw [← lenS_eq hq, ← lenS_eq hq']
  exact turn_len (x := (x, f)) W hp hx hq hq'
theorem lenS_flip (W : Whl a b n) (hl : a.length ≤ 12) {s : Std} (hs : s.ok a n) {t : List Nat} (h1 : t.length ≤ 12) (ht : ∀ c ∈ t, c ∈ a ∨ c ∈ b) : lenS ⟨b, a, n⟩ s.flip t = lenS ⟨a, b, n⟩ s t := by
  obtain ⟨q, hq⟩ := sho_ex W hl hs h1 ht
  obtain ⟨q', hq'⟩ := sho_ex (swapped_whl W) (by rw [W.same]; exact hl) (flip_ok W hs) h1 (fun c hc => (ht c hc).symm)
  rw [← lenS_eq hq, ← lenS_eq hq']
  exact flip_len W hq hq'
theorem mod_on {l p k : Nat} (hk : k < l) (hp : p < l) : ((k + p) % l + l - p) % l = k := by
  rw [md hp (Nat.mod_lt _ (by omega))]
  by_cases h : k + p < l
  · rw [Nat.mod_eq_of_lt h, if_pos (by omega)]
    omega
  · have e : (k + p) % l = k + p - l := by
      rw [show k + p = (k + p - l) + l by omega, Nat.add_mod_right, Nat.mod_eq_of_lt (by omega)]
      omega
    rw [e, if_neg (by omega)]
    omega
theorem turn_mem (p c : Nat) : (c ∈ a.drop p ++ a.take p ∨ c ∈ b.drop p ++ b.take p) ↔ (c ∈ a ∨ c ∈ b) := by
  have pa : (a.drop p ++ a.take p).Perm a := List.perm_append_comm.trans (by rw [List.take_append_drop])
  have pb : (b.drop p ++ b.take p).Perm b := List.perm_append_comm.trans (by rw [List.take_append_drop])
  rw [pa.mem_iff, pb.mem_iff]
end
theorem pure_law_k39 : ∀ ns : List Int, ns.length ≤ 63 → ∃ m', m_law_k39 [.scr ns] [] = .ok (.bl true) m' := by
  intro ns hns
  have t0 : MO.lst [] = twn 0 := rfl
  have cl : ∀ t, ∀ x ∈ [twn t], MO.cl [twn t].length x = true := fun t x hx => by rw [List.mem_singleton.mp hx]; exact cl_twn _ _
  have l : ∀ q : Nat, q ≤ 100 → q ≤ lim := fun q hq => by unfold lim; omega
  obtain ⟨a, b, n, t1, e1, ht1, h2, h9, hsm, na, nb, sa, sb, n1, n3⟩ := wheels_spec (ns := ns) (t := 0) (most := 6) (r := []) (by decide) (by decide) (by decide) Cl_nil
  have W : Whl a b n := ⟨h2, by omega, hsm, na, nb, fun c hc => sg13_sub (sa c hc), fun c hc => sg13_sub (sb c hc), n1, n3⟩
  rw [show ((6 : Nat) : Int) = 6 from rfl] at e1
  obtain ⟨p, hp, e2⟩ := draw_nat (ns := ns) (t := t1) (r := []) (many := a.length) (by omega) (by omega)
  obtain ⟨w, hw, e3⟩ := pick_spec (ns := ns) (t := t1 + 1) (r := []) (xs := [.str [108], .str [102]]) (by simp) (by omega)
  obtain ⟨f, rfl⟩ : ∃ f, w = .str [wl f] := by
    simp only [List.mem_cons, List.not_mem_nil, or_false] at hw
    rcases hw with rfl | rfl
    · exact ⟨false, rfl⟩
    · exact ⟨true, rfl⟩
  obtain ⟨t, t2, e4, ht2, htl, htm⟩ := law_textS_spec W (ns := ns) (t := t1 + 1 + 1) (most := 4) (r := []) (by decide) (by omega)
  rw [show ((4 : Nat) : Int) = 4 from rfl] at e4
  obtain ⟨d, hd, e5⟩ := draw_nat (ns := ns) (t := t2) (r := []) (many := a.length) (by omega) (by omega)
  obtain ⟨s, hs, e6⟩ := law_stand_spec (ns := ns) (t := t2 + 1) (r := []) W (by omega)
  have hl12 : a.length ≤ 12 := by omega
  have ht12 : t.length ≤ 12 := by omega
  -- turned
  have WT := turned_whl W hd
  have TL : (a.drop d ++ a.take d).length = a.length := by simp; omega
  have ht3 : ∀ c ∈ t, c ∈ a.drop d ++ a.take d ∨ c ∈ b.drop d ++ b.take d := fun c hc => (turn_mem d c).mpr (htm c hc)
  have tu := fun m => turned_spec W hd m
  have sg : sgs (a.drop d ++ a.take d) (b.drop d ++ b.take d) = sgs a b := sgs_congr fun c => turn_mem d c
  have lt_ : ∀ x f, x < a.length → ∀ t : List Nat, t.length ≤ 12 → (∀ c ∈ t, c ∈ a ∨ c ∈ b) → lenS ⟨a.drop d ++ a.take d, b.drop d ++ b.take d, n⟩ ⟨(x + a.length - d) % a.length, f, 0⟩ t = lenS ⟨a, b, n⟩ ⟨x, f, 0⟩ t := fun x f hx t h1 h2 => lenS_turn W hl12 hd hx f h1 h2
  generalize hA : a.drop d ++ a.take d = A at *
  generalize hB : b.drop d ++ b.take d = B at *
  have pm := pymod (k := a.length) (p := d) (q := p) (by omega) hd hp
  have hq := Nat.mod_lt (p + a.length - d) (show 0 < a.length by omega)
  obtain ⟨q, hqd⟩ : ∃ q, q = (p + a.length - d) % a.length := ⟨_, rfl⟩
  rw [← hqd] at pm hq
  have qo : Std.ok A n ⟨q, f, 0⟩ := ok0 WT (by omega) f
  have po : Std.ok a n ⟨p, f, 0⟩ := ok0 W hp f
  have la : (0 : Int) < (a.length : Int) := by omega
  -- swapped
  have WS := swapped_whl W
  have sw := fun m => swapped_spec W m
  have swt := fun m => swapped_spec WT m
  have so := flip_ok W hs
  have sgS : sgs b a = sgs a b := sgs_congr fun c => Or.comm
  -- the prices
  have lf1 := fun m hm => least_from_len (m := m) WT (by omega) qo ht12 ht3 hm
  have lf2 := fun m hm => least_from_len (m := m) W hl12 po ht12 htm hm
  have lf3 := fun m hm => least_from_len (m := m) WS (by omega) so ht12 (fun c hc => (htm c hc).symm) hm
  have lf4 := fun m hm => least_from_len (m := m) W hl12 hs ht12 htm hm
  have q1 := lt_ p f hp t ht12 htm
  rw [← hqd] at q1
  rw [lenS_flip W hl12 hs ht12 htm] at lf3
  rw [q1] at lf1
  -- signs near
  have one : ∀ c, (c ∈ a ∨ c ∈ b) → ∀ e ∈ [c], e ∈ a ∨ e ∈ b := fun c hc e he => by rw [List.mem_singleton.mp he]; exact hc
  have sn1 := fun m hm => signs_near_spec (m := m) WT (by omega) qo 4 hm (fun c => lenS ⟨a, b, n⟩ ⟨p, f, 0⟩ [c]) (fun c hc q' hq' => by
    rw [lenS_eq hq', hqd]
    exact lt_ p f hp [c] (by simp) (one c ((turn_mem d c).mp (by rw [hA, hB]; exact hc))))
  have sn2 := fun m hm => signs_near_spec (m := m) W hl12 po 4 hm (fun c => lenS ⟨a, b, n⟩ ⟨p, f, 0⟩ [c]) (fun c hc q' hq' => lenS_eq hq')
  have sn3 := fun m hm => signs_near_spec (m := m) WS (by omega) so 3 hm (fun c => lenS ⟨a, b, n⟩ s [c]) (fun c hc q' hq' => by
    rw [lenS_eq hq']
    exact lenS_flip W hl12 hs (by simp) (one c hc.symm))
  have sn4 := fun m hm => signs_near_spec (m := m) W hl12 hs 3 hm (fun c => lenS ⟨a, b, n⟩ s [c]) (fun c hc q' hq' => lenS_eq hq')
  have nr1 : nearL A B (fun c => lenS ⟨a, b, n⟩ ⟨p, f, 0⟩ [c]) 4 = nearL a b (fun c => lenS ⟨a, b, n⟩ ⟨p, f, 0⟩ [c]) 4 := by unfold nearL; rw [sg]
  have nr2 : nearL b a (fun c => lenS ⟨a, b, n⟩ s [c]) 3 = nearL a b (fun c => lenS ⟨a, b, n⟩ s [c]) 3 := by unfold nearL; rw [sgS]
  rw [nr1] at sn1
  rw [nr2] at sn3
  -- the best stands
  obtain ⟨f1, p1, hp1, bs1, mn1⟩ := best_stand_spec (m := [twn (t2 + 1 + 4)]) W hl12 ht12 htm (cl _) (fun f p => lenS ⟨a, b, n⟩ ⟨p, f, 0⟩ t) (fun f p _ q h => lenS_eq h)
  obtain ⟨f2, p2, hp2, bs2, mn2⟩ := best_stand_spec (m := [twn (t2 + 1 + 4)]) WS (by omega) ht12 (fun c hc => (htm c hc).symm) (cl _) (fun f p => lenS ⟨b, a, n⟩ ⟨p, f, 0⟩ t) (fun f p _ q h => lenS_eq h)
  obtain ⟨f3, p3, hp3, bs3, mn3⟩ := best_stand_spec (m := [twn (t2 + 1 + 4)]) WT (by omega) ht12 ht3 (cl _) (fun f p => lenS ⟨A, B, n⟩ ⟨p, f, 0⟩ t) (fun f p _ q h => lenS_eq h)
  have le1 : ∀ f p, p < a.length → lenS ⟨a, b, n⟩ ⟨p1, f1, 0⟩ t ≤ lenS ⟨a, b, n⟩ ⟨p, f, 0⟩ t := fun f p hp => by have := mn1 f p hp; unfold tlt at this; simp only at this; omega
  have le2 : ∀ f p, p < a.length → lenS ⟨b, a, n⟩ ⟨p2, f2, 0⟩ t ≤ lenS ⟨b, a, n⟩ ⟨p, f, 0⟩ t := fun f p hp => by have := mn2 f p (by omega); unfold tlt at this; simp only at this; omega
  have le3 : ∀ f p, p < a.length → lenS ⟨A, B, n⟩ ⟨p3, f3, 0⟩ t ≤ lenS ⟨A, B, n⟩ ⟨p, f, 0⟩ t := fun f p hp => by have := mn3 f p (by omega); unfold tlt at this; simp only at this; omega
  have fl : ∀ f p, p < a.length → lenS ⟨b, a, n⟩ ⟨p, !f, 0⟩ t = lenS ⟨a, b, n⟩ ⟨p, f, 0⟩ t := fun f p hp => lenS_flip W hl12 (ok0 W hp f) ht12 htm
  have be2 : lenS ⟨b, a, n⟩ ⟨p2, f2, 0⟩ t = lenS ⟨a, b, n⟩ ⟨p1, f1, 0⟩ t := by
    apply Nat.le_antisymm
    · have := le2 (!f1) p1 hp1
      rw [fl f1 p1 hp1] at this
      exact this
    · have := le1 (!f2) p2 (by omega)
      have h := fl (!f2) p2 (by omega)
      rw [Bool.not_not] at h
      omega
  have be3 : lenS ⟨A, B, n⟩ ⟨p3, f3, 0⟩ t = lenS ⟨a, b, n⟩ ⟨p1, f1, 0⟩ t := by
    apply Nat.le_antisymm
    · have := le3 f1 ((p1 + a.length - d) % a.length) (Nat.mod_lt _ (by omega))
      rw [lt_ p1 f1 hp1 t ht12 htm] at this
      exact this
    · have := le1 f3 ((p3 + d) % a.length) (Nat.mod_lt _ (by omega))
      have h := lt_ ((p3 + d) % a.length) f3 (Nat.mod_lt _ (by omega)) t ht12 htm
      rw [mod_on (by omega) hd] at h
      omega
  have lb1 := fun m hm => least_from_len (m := m) W hl12 (ok0 W hp1 f1) ht12 htm hm
  have lb2 := fun m hm => least_from_len (m := m) WS (by omega) (ok0 WS hp2 f2) ht12 (fun c hc => (htm c hc).symm) hm
  have lb3 := fun m hm => least_from_len (m := m) WT (by omega) (ok0 WT hp3 f3) ht12 ht3 hm
  rw [be2] at lb2
  rw [be3] at lb3
  obtain ⟨row, rf, _, sh⟩ := row_from_spec (m := [twn (t2 + 1 + 4)]) WT (by omega) qo ht12 ht3 (cl _)
  have rl := lenS_eq sh
  rw [q1] at rl
  have lw := fun m hm => least_from_len (m := m) (swapped_whl WT) (by rw [WT.same]; omega) (flip_ok WT qo) ht12 (fun c hc => (ht3 c hc).symm) hm
  rw [lenS_flip WT (by omega) qo ht12 ht3, q1] at lw
  -- as they stand in the run
  have c1 : ∀ t, [twn t] = [twn t] := fun _ => rfl
  have x1 : ∀ k, m_least_from [whD A B n, .tup [.int q, .str [wl f], .int 0], .str t] [twn k] = .ok (.int (lenS ⟨a, b, n⟩ ⟨p, f, 0⟩ t)) [twn k] := fun k => lf1 _ (cl k)
  have x2 : ∀ k, m_least_from [whD a b n, .tup [.int p, .str [wl f], .int 0], .str t] [twn k] = .ok (.int (lenS ⟨a, b, n⟩ ⟨p, f, 0⟩ t)) [twn k] := fun k => lf2 _ (cl k)
  have x3 : ∀ k, m_least_from [whD b a n, .tup [.int s.p, .str [wl (!s.f)], .int s.i], .str t] [twn k] = .ok (.int (lenS ⟨a, b, n⟩ s t)) [twn k] := fun k => lf3 _ (cl k)
  have x4 : ∀ k, m_least_from [whD a b n, .tup [.int s.p, .str [wl s.f], .int s.i], .str t] [twn k] = .ok (.int (lenS ⟨a, b, n⟩ s t)) [twn k] := fun k => lf4 _ (cl k)
  have y1 : ∀ k, m_signs_near [whD A B n, .tup [.int q, .str [wl f], .int 0], .int 4] [twn k] = _ := fun k => sn1 _ (cl k)
  have y2 : ∀ k, m_signs_near [whD a b n, .tup [.int p, .str [wl f], .int 0], .int 4] [twn k] = _ := fun k => sn2 _ (cl k)
  have y3 : ∀ k, m_signs_near [whD b a n, .tup [.int s.p, .str [wl (!s.f)], .int s.i], .int 3] [twn k] = _ := fun k => sn3 _ (cl k)
  have y4 : ∀ k, m_signs_near [whD a b n, .tup [.int s.p, .str [wl s.f], .int s.i], .int 3] [twn k] = _ := fun k => sn4 _ (cl k)
  have z1 : ∀ k, m_least_from [whD a b n, .tup [.int p1, .str [wl f1], .int 0], .str t] [twn k] = .ok (.int (lenS ⟨a, b, n⟩ ⟨p1, f1, 0⟩ t)) [twn k] := fun k => lb1 _ (cl k)
  have z2 : ∀ k, m_least_from [whD b a n, .tup [.int p2, .str [wl f2], .int 0], .str t] [twn k] = .ok (.int (lenS ⟨a, b, n⟩ ⟨p1, f1, 0⟩ t)) [twn k] := fun k => lb2 _ (cl k)
  have z3 : ∀ k, m_least_from [whD A B n, .tup [.int p3, .str [wl f3], .int 0], .str t] [twn k] = .ok (.int (lenS ⟨a, b, n⟩ ⟨p1, f1, 0⟩ t)) [twn k] := fun k => lb3 _ (cl k)
  have z4 : m_row_from [whD A B n, .tup [.int q, .str [wl f], .int 0], .str t] [twn (t2 + 1 + 4)] = .ok (.str row) [twn (t2 + 1 + 4)] := rf
  have z5 : ∀ k, m_least_from [whD B A n, .tup [.int q, .str [wl (!f)], .int 0], .str t] [twn k] = .ok (.int (lenS ⟨a, b, n⟩ ⟨p, f, 0⟩ t)) [twn k] := fun k => lw _ (cl k)
  have e6' : m_law_stand [.scr ns, .ref 0, whD a b n] [twn (t2 + 1)] = .ok (.tup [.int s.p, .str [wl s.f], .int s.i]) [twn (t2 + 1 + 4)] := e6
  refine law_end ?_
  unfold b_law_k39
  refine Rt_seq (by simp [l, t0]; exact ⟨rfl, rfl⟩) ?_
  refine Rt_seq (by simp [e1]; exact ⟨rfl, rfl⟩) ?_
  refine Rt_seq (by simp; exact ⟨rfl, rfl⟩) ?_
  refine Rt_seq (by simp [e2, e3, l]; exact ⟨rfl, rfl⟩) ?_
  refine Rt_seq (by simp [e4]; exact ⟨rfl, rfl⟩) ?_
  refine Rt_seq (by simp [e5]; exact ⟨rfl, rfl⟩) ?_
  refine Rt_seq (by simp [tu]; exact ⟨rfl, rfl⟩) ?_
  refine Rt_seq (by simp [pm, l, la, show 0 < a.length by omega]; exact ⟨rfl, rfl⟩) ?_
  refine Rt_seq (by simp [x1, x2, l]; exact ⟨rfl, rfl⟩) ?_
  refine Rt_seq (by simp [y1, y2, l]; exact ⟨rfl, rfl⟩) ?_
  refine Rt_seq (g1 := [some (.scr ns), some (.ref 0), some (whD a b n), some (.int a.length), some (.int p), some (.str [wl f]), some (.str t), some (.int d), some (whD A B n), some (.tup [.int q, .str [wl f], .int 0]), some (.str [wl (!f)]), none, none, none, none]) (m1 := [twn (t2 + 1)]) (by cases f <;> simp [wl]) ?_
  refine Rt_seq (by simp [e6']; exact ⟨rfl, rfl⟩) ?_
  refine Rt_seq (g1 := [some (.scr ns), some (.ref 0), some (whD a b n), some (.int a.length), some (.int p), some (.str [wl f]), some (.str t), some (.int d), some (whD A B n), some (.tup [.int q, .str [wl f], .int 0]), some (.str [wl (!f)]), some (.tup [.int s.p, .str [wl s.f], .int s.i]), some (.tup [.int s.p, .str [wl (!s.f)], .int s.i]), none, none]) (m1 := [twn (t2 + 1 + 4)]) (by cases s.f <;> simp [wl, l]) ?_
  refine Rt_seq (by simp [sw, x3, x4]; exact ⟨rfl, rfl⟩) ?_
  refine Rt_seq (by simp [sw, y3, y4]; exact ⟨rfl, rfl⟩) ?_
  refine Rt_seq (by simp [bs1]; exact ⟨rfl, rfl⟩) ?_
  refine Rt_seq (by simp [sw, bs2, z1, z2]; exact ⟨rfl, rfl⟩) ?_
  refine Rt_seq (by simp [bs3, z1, z3]; exact ⟨rfl, rfl⟩) ?_
  refine Rt_seq (by simp [z4]; exact ⟨rfl, rfl⟩) ?_
  refine Rt_end (m1 := [twn (t2 + 1 + 4)]) ?_
  simp [swt, z5, l, rl]
end LW
namespace LW.K39
open PySem PySem.Spec PyProof.Rows L2
theorem all_mk {P : Program} {w : World} {K : PySem.W.Frag} {h : Heap} {mg : Str → Option Value} {fa : Addr} (X : K.In h) (G : h.Ns mainGlobals mg) (hfa : mg "law" = some (.ref fa))
    {f0 : Addr} {od0 an0 : Option Addr} {sl0 : Array (Option Value)} {oc0 kV0 dc0 pm0 cd0 ct0 : Value}
    {f1 : Addr} {od1 an1 : Option Addr} {sl1 : Array (Option Value)} {oc1 kV1 dc1 pm1 cd1 ct1 : Value}
    {f2 : Addr} {od2 an2 : Option Addr} {sl2 : Array (Option Value)} {oc2 kV2 dc2 pm2 cd2 ct2 : Value}
    {f3 : Addr} {od3 an3 : Option Addr} {sl3 : Array (Option Value)} {oc3 kV3 dc3 pm3 cd3 ct3 : Value}
    {f4 : Addr} {od4 an4 : Option Addr} {sl4 : Array (Option Value)} {oc4 kV4 dc4 pm4 cd4 ct4 : Value}
    {f5 : Addr} {od5 an5 : Option Addr} {sl5 : Array (Option Value)} {oc5 kV5 dc5 pm5 cd5 ct5 : Value}
    {f6 : Addr} {od6 an6 : Option Addr} {sl6 : Array (Option Value)} {oc6 kV6 dc6 pm6 cd6 ct6 : Value}
    {f7 : Addr} {od7 an7 : Option Addr} {sl7 : Array (Option Value)} {oc7 kV7 dc7 pm7 cd7 ct7 : Value}
    {f8 : Addr} {od8 an8 : Option Addr} {sl8 : Array (Option Value)} {oc8 kV8 dc8 pm8 cd8 ct8 : Value}
    {f9 : Addr} {od9 an9 : Option Addr} {sl9 : Array (Option Value)} {oc9 kV9 dc9 pm9 cd9 ct9 : Value}
    {f10 : Addr} {od10 an10 : Option Addr} {sl10 : Array (Option Value)} {oc10 kV10 dc10 pm10 cd10 ct10 : Value}
    {f11 : Addr} {od11 an11 : Option Addr} {sl11 : Array (Option Value)} {oc11 kV11 dc11 pm11 cd11 ct11 : Value}
    {f12 : Addr} {od12 an12 : Option Addr} {sl12 : Array (Option Value)} {oc12 kV12 dc12 pm12 cd12 ct12 : Value}
    {f13 : Addr} {od13 an13 : Option Addr} {sl13 : Array (Option Value)} {oc13 kV13 dc13 pm13 cd13 ct13 : Value}
    {f14 : Addr} {od14 an14 : Option Addr} {sl14 : Array (Option Value)} {oc14 kV14 dc14 pm14 cd14 ct14 : Value}
    {f15 : Addr} {od15 an15 : Option Addr} {sl15 : Array (Option Value)} {oc15 kV15 dc15 pm15 cd15 ct15 : Value}
    {f16 : Addr} {od16 an16 : Option Addr} {sl16 : Array (Option Value)} {oc16 kV16 dc16 pm16 cd16 ct16 : Value}
    {f17 : Addr} {od17 an17 : Option Addr} {sl17 : Array (Option Value)} {oc17 kV17 dc17 pm17 cd17 ct17 : Value}
    {f18 : Addr} {od18 an18 : Option Addr} {sl18 : Array (Option Value)} {oc18 kV18 dc18 pm18 cd18 ct18 : Value}
    {f19 : Addr} {od19 an19 : Option Addr} {sl19 : Array (Option Value)} {oc19 kV19 dc19 pm19 cd19 ct19 : Value}
    {f20 : Addr} {od20 an20 : Option Addr} {sl20 : Array (Option Value)} {oc20 kV20 dc20 pm20 cd20 ct20 : Value}
    {f21 : Addr} {od21 an21 : Option Addr} {sl21 : Array (Option Value)} {oc21 kV21 dc21 pm21 cd21 ct21 : Value}
    {f22 : Addr} {od22 an22 : Option Addr} {sl22 : Array (Option Value)} {oc22 kV22 dc22 pm22 cd22 ct22 : Value}
    {f23 : Addr} {od23 an23 : Option Addr} {sl23 : Array (Option Value)} {oc23 kV23 dc23 pm23 cd23 ct23 : Value}
    {f24 : Addr} {od24 an24 : Option Addr} {sl24 : Array (Option Value)} {oc24 kV24 dc24 pm24 cd24 ct24 : Value}
    {f25 : Addr} {od25 an25 : Option Addr} {sl25 : Array (Option Value)} {oc25 kV25 dc25 pm25 cd25 ct25 : Value}
    {f26 : Addr} {od26 an26 : Option Addr} {sl26 : Array (Option Value)} {oc26 kV26 dc26 pm26 cd26 ct26 : Value}
    {t_LEAST : Tok}
    {t_MOST : Tok}
    {t_PULSES : Tok}
    {t_SHORT : Tok}
    {t_SIGNS : Tok}
    {t_TURNS : Tok}
    {x_NoPlace : Addr}
    {x_NoStand : Addr}
    {x_NoText : Addr}
    {x_NoWheels : Addr}
    (a0 : PySem.W.nsIn K mainGlobals "_law_cell_at" = some (some (.ref f0)))
    (l0 : K.lookup f0 = some ⟨oc0, od0, .func (PySem.W.fnOf "_law_cell_at" "_law_cell_at" (defArgs s_law_cell_at) (defBody s_law_cell_at) (defScope s_law_cell_at) .none kV0 dc0 pm0 an0 cd0 ct0), sl0⟩)
    (c0 : PySem.W.codeIn K cd0 "_law_cell_at" = true)
    (k0 : PySem.W.keepIn K (.ref f0) = true)
    (a1 : PySem.W.nsIn K mainGlobals "_law_mixed" = some (some (.ref f1)))
    (l1 : K.lookup f1 = some ⟨oc1, od1, .func (PySem.W.fnOf "_law_mixed" "_law_mixed" (defArgs s_law_mixed) (defBody s_law_mixed) (defScope s_law_mixed) .none kV1 dc1 pm1 an1 cd1 ct1), sl1⟩)
    (c1 : PySem.W.codeIn K cd1 "_law_mixed" = true)
    (k1 : PySem.W.keepIn K (.ref f1) = true)
    (a2 : PySem.W.nsIn K mainGlobals "_law_draw" = some (some (.ref f2)))
    (l2 : K.lookup f2 = some ⟨oc2, od2, .func (PySem.W.fnOf "_law_draw" "_law_draw" (defArgs s_law_draw) (defBody s_law_draw) (defScope s_law_draw) .none kV2 dc2 pm2 an2 cd2 ct2), sl2⟩)
    (c2 : PySem.W.codeIn K cd2 "_law_draw" = true)
    (k2 : PySem.W.keepIn K (.ref f2) = true)
    (a3 : PySem.W.nsIn K mainGlobals "_law_wheel" = some (some (.ref f3)))
    (l3 : K.lookup f3 = some ⟨oc3, od3, .func (PySem.W.fnOf "_law_wheel" "_law_wheel" (defArgs s_law_wheel) (defBody s_law_wheel) (defScope s_law_wheel) .none kV3 dc3 pm3 an3 cd3 ct3), sl3⟩)
    (c3 : PySem.W.codeIn K cd3 "_law_wheel" = true)
    (k3 : PySem.W.keepIn K (.ref f3) = true)
    (a4 : PySem.W.nsIn K mainGlobals "_law_wheels" = some (some (.ref f4)))
    (l4 : K.lookup f4 = some ⟨oc4, od4, .func (PySem.W.fnOf "_law_wheels" "_law_wheels" (defArgs s_law_wheels) (defBody s_law_wheels) (defScope s_law_wheels) .none kV4 dc4 pm4 an4 cd4 ct4), sl4⟩)
    (c4 : PySem.W.codeIn K cd4 "_law_wheels" = true)
    (k4 : PySem.W.keepIn K (.ref f4) = true)
    (a5 : PySem.W.nsIn K mainGlobals "_law_pick" = some (some (.ref f5)))
    (l5 : K.lookup f5 = some ⟨oc5, od5, .func (PySem.W.fnOf "_law_pick" "_law_pick" (defArgs s_law_pick) (defBody s_law_pick) (defScope s_law_pick) .none kV5 dc5 pm5 an5 cd5 ct5), sl5⟩)
    (c5 : PySem.W.codeIn K cd5 "_law_pick" = true)
    (k5 : PySem.W.keepIn K (.ref f5) = true)
    (a6 : PySem.W.nsIn K mainGlobals "_law_text" = some (some (.ref f6)))
    (l6 : K.lookup f6 = some ⟨oc6, od6, .func (PySem.W.fnOf "_law_text" "_law_text" (defArgs s_law_text) (defBody s_law_text) (defScope s_law_text) .none kV6 dc6 pm6 an6 cd6 ct6), sl6⟩)
    (c6 : PySem.W.codeIn K cd6 "_law_text" = true)
    (k6 : PySem.W.keepIn K (.ref f6) = true)
    (a7 : PySem.W.nsIn K mainGlobals "is_whole" = some (some (.ref f7)))
    (l7 : K.lookup f7 = some ⟨oc7, od7, .func (PySem.W.fnOf "is_whole" "is_whole" (defArgs s_is_whole) (defBody s_is_whole) (defScope s_is_whole) .none kV7 dc7 pm7 an7 cd7 ct7), sl7⟩)
    (c7 : PySem.W.codeIn K cd7 "is_whole" = true)
    (k7 : PySem.W.keepIn K (.ref f7) = true)
    (a8 : PySem.W.nsIn K mainGlobals "are_signs" = some (some (.ref f8)))
    (l8 : K.lookup f8 = some ⟨oc8, od8, .func (PySem.W.fnOf "are_signs" "are_signs" (defArgs s_are_signs) (defBody s_are_signs) (defScope s_are_signs) .none kV8 dc8 pm8 an8 cd8 ct8), sl8⟩)
    (c8 : PySem.W.codeIn K cd8 "are_signs" = true)
    (k8 : PySem.W.keepIn K (.ref f8) = true)
    (a9 : PySem.W.nsIn K mainGlobals "is_wheel" = some (some (.ref f9)))
    (l9 : K.lookup f9 = some ⟨oc9, od9, .func (PySem.W.fnOf "is_wheel" "is_wheel" (defArgs s_is_wheel) (defBody s_is_wheel) (defScope s_is_wheel) .none kV9 dc9 pm9 an9 cd9 ct9), sl9⟩)
    (c9 : PySem.W.codeIn K cd9 "is_wheel" = true)
    (k9 : PySem.W.keepIn K (.ref f9) = true)
    (a10 : PySem.W.nsIn K mainGlobals "is_wheels" = some (some (.ref f10)))
    (l10 : K.lookup f10 = some ⟨oc10, od10, .func (PySem.W.fnOf "is_wheels" "is_wheels" (defArgs s_is_wheels) (defBody s_is_wheels) (defScope s_is_wheels) .none kV10 dc10 pm10 an10 cd10 ct10), sl10⟩)
    (c10 : PySem.W.codeIn K cd10 "is_wheels" = true)
    (k10 : PySem.W.keepIn K (.ref f10) = true)
    (a11 : PySem.W.nsIn K mainGlobals "need_wheels" = some (some (.ref f11)))
    (l11 : K.lookup f11 = some ⟨oc11, od11, .func (PySem.W.fnOf "need_wheels" "need_wheels" (defArgs s_need_wheels) (defBody s_need_wheels) (defScope s_need_wheels) .none kV11 dc11 pm11 an11 cd11 ct11), sl11⟩)
    (c11 : PySem.W.codeIn K cd11 "need_wheels" = true)
    (k11 : PySem.W.keepIn K (.ref f11) = true)
    (a12 : PySem.W.nsIn K mainGlobals "places_of" = some (some (.ref f12)))
    (l12 : K.lookup f12 = some ⟨oc12, od12, .func (PySem.W.fnOf "places_of" "places_of" (defArgs s_places_of) (defBody s_places_of) (defScope s_places_of) .none kV12 dc12 pm12 an12 cd12 ct12), sl12⟩)
    (c12 : PySem.W.codeIn K cd12 "places_of" = true)
    (k12 : PySem.W.keepIn K (.ref f12) = true)
    (a13 : PySem.W.nsIn K mainGlobals "turned" = some (some (.ref f13)))
    (l13 : K.lookup f13 = some ⟨oc13, od13, .func (PySem.W.fnOf "turned" "turned" (defArgs s_turned) (defBody s_turned) (defScope s_turned) .none kV13 dc13 pm13 an13 cd13 ct13), sl13⟩)
    (c13 : PySem.W.codeIn K cd13 "turned" = true)
    (k13 : PySem.W.keepIn K (.ref f13) = true)
    (a14 : PySem.W.nsIn K mainGlobals "_law_stand" = some (some (.ref f14)))
    (l14 : K.lookup f14 = some ⟨oc14, od14, .func (PySem.W.fnOf "_law_stand" "_law_stand" (defArgs s_law_stand) (defBody s_law_stand) (defScope s_law_stand) .none kV14 dc14 pm14 an14 cd14 ct14), sl14⟩)
    (c14 : PySem.W.codeIn K cd14 "_law_stand" = true)
    (k14 : PySem.W.keepIn K (.ref f14) = true)
    (a15 : PySem.W.nsIn K mainGlobals "is_stand" = some (some (.ref f15)))
    (l15 : K.lookup f15 = some ⟨oc15, od15, .func (PySem.W.fnOf "is_stand" "is_stand" (defArgs s_is_stand) (defBody s_is_stand) (defScope s_is_stand) .none kV15 dc15 pm15 an15 cd15 ct15), sl15⟩)
    (c15 : PySem.W.codeIn K cd15 "is_stand" = true)
    (k15 : PySem.W.keepIn K (.ref f15) = true)
    (a16 : PySem.W.nsIn K mainGlobals "need_stand" = some (some (.ref f16)))
    (l16 : K.lookup f16 = some ⟨oc16, od16, .func (PySem.W.fnOf "need_stand" "need_stand" (defArgs s_need_stand) (defBody s_need_stand) (defScope s_need_stand) .none kV16 dc16 pm16 an16 cd16 ct16), sl16⟩)
    (c16 : PySem.W.codeIn K cd16 "need_stand" = true)
    (k16 : PySem.W.keepIn K (.ref f16) = true)
    (a17 : PySem.W.nsIn K mainGlobals "need_short" = some (some (.ref f17)))
    (l17 : K.lookup f17 = some ⟨oc17, od17, .func (PySem.W.fnOf "need_short" "need_short" (defArgs s_need_short) (defBody s_need_short) (defScope s_need_short) .none kV17 dc17 pm17 an17 cd17 ct17), sl17⟩)
    (c17 : PySem.W.codeIn K cd17 "need_short" = true)
    (k17 : PySem.W.keepIn K (.ref f17) = true)
    (a18 : PySem.W.nsIn K mainGlobals "is_caught" = some (some (.ref f18)))
    (l18 : K.lookup f18 = some ⟨oc18, od18, .func (PySem.W.fnOf "is_caught" "is_caught" (defArgs s_is_caught) (defBody s_is_caught) (defScope s_is_caught) .none kV18 dc18 pm18 an18 cd18 ct18), sl18⟩)
    (c18 : PySem.W.codeIn K cd18 "is_caught" = true)
    (k18 : PySem.W.keepIn K (.ref f18) = true)
    (a19 : PySem.W.nsIn K mainGlobals "pulsed" = some (some (.ref f19)))
    (l19 : K.lookup f19 = some ⟨oc19, od19, .func (PySem.W.fnOf "pulsed" "pulsed" (defArgs s_pulsed) (defBody s_pulsed) (defScope s_pulsed) .none kV19 dc19 pm19 an19 cd19 ct19), sl19⟩)
    (c19 : PySem.W.codeIn K cd19 "pulsed" = true)
    (k19 : PySem.W.keepIn K (.ref f19) = true)
    (a20 : PySem.W.nsIn K mainGlobals "searched" = some (some (.ref f20)))
    (l20 : K.lookup f20 = some ⟨oc20, od20, .func (PySem.W.fnOf "searched" "searched" (defArgs s_searched) (defBody s_searched) (defScope s_searched) .none kV20 dc20 pm20 an20 cd20 ct20), sl20⟩)
    (c20 : PySem.W.codeIn K cd20 "searched" = true)
    (k20 : PySem.W.keepIn K (.ref f20) = true)
    (a21 : PySem.W.nsIn K mainGlobals "best_stand" = some (some (.ref f21)))
    (l21 : K.lookup f21 = some ⟨oc21, od21, .func (PySem.W.fnOf "best_stand" "best_stand" (defArgs s_best_stand) (defBody s_best_stand) (defScope s_best_stand) .none kV21 dc21 pm21 an21 cd21 ct21), sl21⟩)
    (c21 : PySem.W.codeIn K cd21 "best_stand" = true)
    (k21 : PySem.W.keepIn K (.ref f21) = true)
    (a22 : PySem.W.nsIn K mainGlobals "row_from" = some (some (.ref f22)))
    (l22 : K.lookup f22 = some ⟨oc22, od22, .func (PySem.W.fnOf "row_from" "row_from" (defArgs s_row_from) (defBody s_row_from) (defScope s_row_from) .none kV22 dc22 pm22 an22 cd22 ct22), sl22⟩)
    (c22 : PySem.W.codeIn K cd22 "row_from" = true)
    (k22 : PySem.W.keepIn K (.ref f22) = true)
    (a23 : PySem.W.nsIn K mainGlobals "least_from" = some (some (.ref f23)))
    (l23 : K.lookup f23 = some ⟨oc23, od23, .func (PySem.W.fnOf "least_from" "least_from" (defArgs s_least_from) (defBody s_least_from) (defScope s_least_from) .none kV23 dc23 pm23 an23 cd23 ct23), sl23⟩)
    (c23 : PySem.W.codeIn K cd23 "least_from" = true)
    (k23 : PySem.W.keepIn K (.ref f23) = true)
    (a24 : PySem.W.nsIn K mainGlobals "signs_near" = some (some (.ref f24)))
    (l24 : K.lookup f24 = some ⟨oc24, od24, .func (PySem.W.fnOf "signs_near" "signs_near" (defArgs s_signs_near) (defBody s_signs_near) (defScope s_signs_near) .none kV24 dc24 pm24 an24 cd24 ct24), sl24⟩)
    (c24 : PySem.W.codeIn K cd24 "signs_near" = true)
    (k24 : PySem.W.keepIn K (.ref f24) = true)
    (a25 : PySem.W.nsIn K mainGlobals "swapped" = some (some (.ref f25)))
    (l25 : K.lookup f25 = some ⟨oc25, od25, .func (PySem.W.fnOf "swapped" "swapped" (defArgs s_swapped) (defBody s_swapped) (defScope s_swapped) .none kV25 dc25 pm25 an25 cd25 ct25), sl25⟩)
    (c25 : PySem.W.codeIn K cd25 "swapped" = true)
    (k25 : PySem.W.keepIn K (.ref f25) = true)
    (a26 : PySem.W.nsIn K mainGlobals "law" = some (some (.ref f26)))
    (l26 : K.lookup f26 = some ⟨oc26, od26, .func (PySem.W.fnOf "law" "law" (defArgs s_law_k39) (defBody s_law_k39) (defScope s_law_k39) .none kV26 dc26 pm26 an26 cd26 ct26), sl26⟩)
    (c26 : PySem.W.codeIn K cd26 "law" = true)
    (k26 : PySem.W.keepIn K (.ref f26) = true)
    (z_all : PySem.W.nsIn K mainGlobals "all" = some none)
    (z_bool : PySem.W.nsIn K mainGlobals "bool" = some none)
    (z_enumerate : PySem.W.nsIn K mainGlobals "enumerate" = some none)
    (z_int : PySem.W.nsIn K mainGlobals "int" = some none)
    (z_isinstance : PySem.W.nsIn K mainGlobals "isinstance" = some none)
    (z_len : PySem.W.nsIn K mainGlobals "len" = some none)
    (z_list : PySem.W.nsIn K mainGlobals "list" = some none)
    (z_min : PySem.W.nsIn K mainGlobals "min" = some none)
    (z_range : PySem.W.nsIn K mainGlobals "range" = some none)
    (z_set : PySem.W.nsIn K mainGlobals "set" = some none)
    (z_sorted : PySem.W.nsIn K mainGlobals "sorted" = some none)
    (z_str : PySem.W.nsIn K mainGlobals "str" = some none)
    (z_tuple : PySem.W.nsIn K mainGlobals "tuple" = some none)
    (n_LEAST : PySem.W.nsIn K mainGlobals "LEAST" = some (some (.int 2 t_LEAST)))
    (n_MOST : PySem.W.nsIn K mainGlobals "MOST" = some (some (.int 30 t_MOST)))
    (n_PULSES : PySem.W.nsIn K mainGlobals "PULSES" = some (some (.str "splf" t_PULSES)))
    (n_SHORT : PySem.W.nsIn K mainGlobals "SHORT" = some (some (.int 12 t_SHORT)))
    (n_SIGNS : PySem.W.nsIn K mainGlobals "SIGNS" = some (some (.str "abcdefghijklmnopqrstuvwxyz0123456789 .,-" t_SIGNS)))
    (n_TURNS : PySem.W.nsIn K mainGlobals "TURNS" = some (some (.int 3 t_TURNS)))
    (n_NoPlace : PySem.W.nsIn K mainGlobals "NoPlace" = some (some (.ref x_NoPlace)))
    (q_NoPlace : PySem.W.excIn K x_NoPlace [.type "ValueError", .type "Exception", .type "BaseException", .type "object"] "ValueError.__new__" = true)
    (p_NoPlace : PySem.W.keepIn K (.ref x_NoPlace) = true)
    (e_NoPlace : PySem.W.subIn K (.ref x_NoPlace) (.type "BaseException") = some true)
    (t_NoPlace : PySem.W.typeIn K (.ref x_NoPlace) = some (.type "type"))
    (n_NoStand : PySem.W.nsIn K mainGlobals "NoStand" = some (some (.ref x_NoStand)))
    (q_NoStand : PySem.W.excIn K x_NoStand [.type "ValueError", .type "Exception", .type "BaseException", .type "object"] "ValueError.__new__" = true)
    (p_NoStand : PySem.W.keepIn K (.ref x_NoStand) = true)
    (e_NoStand : PySem.W.subIn K (.ref x_NoStand) (.type "BaseException") = some true)
    (t_NoStand : PySem.W.typeIn K (.ref x_NoStand) = some (.type "type"))
    (n_NoText : PySem.W.nsIn K mainGlobals "NoText" = some (some (.ref x_NoText)))
    (q_NoText : PySem.W.excIn K x_NoText [.type "ValueError", .type "Exception", .type "BaseException", .type "object"] "ValueError.__new__" = true)
    (p_NoText : PySem.W.keepIn K (.ref x_NoText) = true)
    (e_NoText : PySem.W.subIn K (.ref x_NoText) (.type "BaseException") = some true)
    (t_NoText : PySem.W.typeIn K (.ref x_NoText) = some (.type "type"))
    (n_NoWheels : PySem.W.nsIn K mainGlobals "NoWheels" = some (some (.ref x_NoWheels)))
    (q_NoWheels : PySem.W.excIn K x_NoWheels [.type "ValueError", .type "Exception", .type "BaseException", .type "object"] "ValueError.__new__" = true)
    (p_NoWheels : PySem.W.keepIn K (.ref x_NoWheels) = true)
    (e_NoWheels : PySem.W.subIn K (.ref x_NoWheels) (.type "BaseException") = some true)
    (t_NoWheels : PySem.W.typeIn K (.ref x_NoWheels) = some (.type "type")) :
    ∃ fd : FuncData, (∀ (s : Shared) (u : Value), BindsTo s fd ⟨[u], []⟩ [("script", u)]) ∧ ∀ base : Heap, K.In base → base.Ns mainGlobals mg → FnOk P w K mg base (L2.CX P w) 8 fa fd ["script"] (spTop K) := by
  have e := hfa.symm.trans (PySem.W.mg_of X G a26)
  cases e
  have F0 := fun_mk (st := s_law_cell_at) l0 c0 k0
  have B0 := F0.binds (ps := ["script", "k"]) fun _ _ _ _ _ _ us hl => match us, hl with | [_, _], _ => rfl
  have F1 := fun_mk (st := s_law_mixed) l1 c1 k1
  have B1 := F1.binds (ps := ["script", "k", "many"]) fun _ _ _ _ _ _ us hl => match us, hl with | [_, _, _], _ => rfl
  have F2 := fun_mk (st := s_law_draw) l2 c2 k2
  have B2 := F2.binds (ps := ["script", "town", "many"]) fun _ _ _ _ _ _ us hl => match us, hl with | [_, _, _], _ => rfl
  have F3 := fun_mk (st := s_law_wheel) l3 c3 k3
  have B3 := F3.binds (ps := ["script", "town", "many"]) fun _ _ _ _ _ _ us hl => match us, hl with | [_, _, _], _ => rfl
  have F4 := fun_mk (st := s_law_wheels) l4 c4 k4
  have B4 := F4.binds (ps := ["script", "town", "most"]) fun _ _ _ _ _ _ us hl => match us, hl with | [_, _, _], _ => rfl
  have F5 := fun_mk (st := s_law_pick) l5 c5 k5
  have B5 := F5.binds (ps := ["script", "town", "some"]) fun _ _ _ _ _ _ us hl => match us, hl with | [_, _, _], _ => rfl
  have F6 := fun_mk (st := s_law_text) l6 c6 k6
  have B6 := F6.binds (ps := ["script", "town", "wheels", "most"]) fun _ _ _ _ _ _ us hl => match us, hl with | [_, _, _, _], _ => rfl
  have F7 := fun_mk (st := s_is_whole) l7 c7 k7
  have B7 := F7.binds (ps := ["thing", "low", "most"]) fun _ _ _ _ _ _ us hl => match us, hl with | [_, _, _], _ => rfl
  have F8 := fun_mk (st := s_are_signs) l8 c8 k8
  have B8 := F8.binds (ps := ["thing", "low", "most"]) fun _ _ _ _ _ _ us hl => match us, hl with | [_, _, _], _ => rfl
  have F9 := fun_mk (st := s_is_wheel) l9 c9 k9
  have B9 := F9.binds (ps := ["thing"]) fun _ _ _ _ _ _ us hl => match us, hl with | [_], _ => rfl
  have F10 := fun_mk (st := s_is_wheels) l10 c10 k10
  have B10 := F10.binds (ps := ["thing"]) fun _ _ _ _ _ _ us hl => match us, hl with | [_], _ => rfl
  have F11 := fun_mk (st := s_need_wheels) l11 c11 k11
  have B11 := F11.binds (ps := ["thing"]) fun _ _ _ _ _ _ us hl => match us, hl with | [_], _ => rfl
  have F12 := fun_mk (st := s_places_of) l12 c12 k12
  have B12 := F12.binds (ps := ["wheels"]) fun _ _ _ _ _ _ us hl => match us, hl with | [_], _ => rfl
  have F13 := fun_mk (st := s_turned) l13 c13 k13
  have B13 := F13.binds (ps := ["wheels", "places"]) fun _ _ _ _ _ _ us hl => match us, hl with | [_, _], _ => rfl
  have F14 := fun_mk (st := s_law_stand) l14 c14 k14
  have B14 := F14.binds (ps := ["script", "town", "wheels"]) fun _ _ _ _ _ _ us hl => match us, hl with | [_, _, _], _ => rfl
  have F15 := fun_mk (st := s_is_stand) l15 c15 k15
  have B15 := F15.binds (ps := ["wheels", "thing"]) fun _ _ _ _ _ _ us hl => match us, hl with | [_, _], _ => rfl
  have F16 := fun_mk (st := s_need_stand) l16 c16 k16
  have B16 := F16.binds (ps := ["wheels", "thing"]) fun _ _ _ _ _ _ us hl => match us, hl with | [_, _], _ => rfl
  have F17 := fun_mk (st := s_need_short) l17 c17 k17
  have B17 := F17.binds (ps := ["wheels", "stand", "text"]) fun _ _ _ _ _ _ us hl => match us, hl with | [_, _, _], _ => rfl
  have F18 := fun_mk (st := s_is_caught) l18 c18 k18
  have B18 := F18.binds (ps := ["wheels", "stand"]) fun _ _ _ _ _ _ us hl => match us, hl with | [_, _], _ => rfl
  have F19 := fun_mk (st := s_pulsed) l19 c19 k19
  have B19 := F19.binds (ps := ["wheels", "stand", "pulse"]) fun _ _ _ _ _ _ us hl => match us, hl with | [_, _, _], _ => rfl
  have F20 := fun_mk (st := s_searched) l20 c20 k20
  have B20 := F20.binds (ps := ["wheels", "stand", "text"]) fun _ _ _ _ _ _ us hl => match us, hl with | [_, _, _], _ => rfl
  have F21 := fun_mk (st := s_best_stand) l21 c21 k21
  have B21 := F21.binds (ps := ["wheels", "text"]) fun _ _ _ _ _ _ us hl => match us, hl with | [_, _], _ => rfl
  have F22 := fun_mk (st := s_row_from) l22 c22 k22
  have B22 := F22.binds (ps := ["wheels", "stand", "text"]) fun _ _ _ _ _ _ us hl => match us, hl with | [_, _, _], _ => rfl
  have F23 := fun_mk (st := s_least_from) l23 c23 k23
  have B23 := F23.binds (ps := ["wheels", "stand", "text"]) fun _ _ _ _ _ _ us hl => match us, hl with | [_, _, _], _ => rfl
  have F24 := fun_mk (st := s_signs_near) l24 c24 k24
  have B24 := F24.binds (ps := ["wheels", "stand", "many"]) fun _ _ _ _ _ _ us hl => match us, hl with | [_, _, _], _ => rfl
  have F25 := fun_mk (st := s_swapped) l25 c25 k25
  have B25 := F25.binds (ps := ["wheels"]) fun _ _ _ _ _ _ us hl => match us, hl with | [_], _ => rfl
  have F26 := fun_mk (st := s_law_k39) l26 c26 k26
  have B26 := F26.binds (ps := ["script"]) fun _ _ _ _ _ _ us hl => match us, hl with | [_], _ => rfl
  let T : Txt ⟨K, fun c => none, fun c => if c = "NoPlace" then .ref x_NoPlace else if c = "NoStand" then .ref x_NoStand else if c = "NoText" then .ref x_NoText else if c = "NoWheels" then .ref x_NoWheels else .none, none, w⟩ mg := { f_law_cell_at := _, fd_law_cell_at := _, F_law_cell_at := F0, g_law_cell_at := PySem.W.mg_of X G a0, b_law_cell_at := B0, f_law_mixed := _, fd_law_mixed := _, F_law_mixed := F1, g_law_mixed := PySem.W.mg_of X G a1, b_law_mixed := B1, f_law_draw := _, fd_law_draw := _, F_law_draw := F2, g_law_draw := PySem.W.mg_of X G a2, b_law_draw := B2, f_law_wheel := _, fd_law_wheel := _, F_law_wheel := F3, g_law_wheel := PySem.W.mg_of X G a3, b_law_wheel := B3, f_law_wheels := _, fd_law_wheels := _, F_law_wheels := F4, g_law_wheels := PySem.W.mg_of X G a4, b_law_wheels := B4, f_law_pick := _, fd_law_pick := _, F_law_pick := F5, g_law_pick := PySem.W.mg_of X G a5, b_law_pick := B5, f_law_text := _, fd_law_text := _, F_law_text := F6, g_law_text := PySem.W.mg_of X G a6, b_law_text := B6, f_is_whole := _, fd_is_whole := _, F_is_whole := F7, g_is_whole := PySem.W.mg_of X G a7, b_is_whole := B7, f_are_signs := _, fd_are_signs := _, F_are_signs := F8, g_are_signs := PySem.W.mg_of X G a8, b_are_signs := B8, f_is_wheel := _, fd_is_wheel := _, F_is_wheel := F9, g_is_wheel := PySem.W.mg_of X G a9, b_is_wheel := B9, f_is_wheels := _, fd_is_wheels := _, F_is_wheels := F10, g_is_wheels := PySem.W.mg_of X G a10, b_is_wheels := B10, f_need_wheels := _, fd_need_wheels := _, F_need_wheels := F11, g_need_wheels := PySem.W.mg_of X G a11, b_need_wheels := B11, f_places_of := _, fd_places_of := _, F_places_of := F12, g_places_of := PySem.W.mg_of X G a12, b_places_of := B12, f_turned := _, fd_turned := _, F_turned := F13, g_turned := PySem.W.mg_of X G a13, b_turned := B13, f_law_stand := _, fd_law_stand := _, F_law_stand := F14, g_law_stand := PySem.W.mg_of X G a14, b_law_stand := B14, f_is_stand := _, fd_is_stand := _, F_is_stand := F15, g_is_stand := PySem.W.mg_of X G a15, b_is_stand := B15, f_need_stand := _, fd_need_stand := _, F_need_stand := F16, g_need_stand := PySem.W.mg_of X G a16, b_need_stand := B16, f_need_short := _, fd_need_short := _, F_need_short := F17, g_need_short := PySem.W.mg_of X G a17, b_need_short := B17, f_is_caught := _, fd_is_caught := _, F_is_caught := F18, g_is_caught := PySem.W.mg_of X G a18, b_is_caught := B18, f_pulsed := _, fd_pulsed := _, F_pulsed := F19, g_pulsed := PySem.W.mg_of X G a19, b_pulsed := B19, f_searched := _, fd_searched := _, F_searched := F20, g_searched := PySem.W.mg_of X G a20, b_searched := B20, f_best_stand := _, fd_best_stand := _, F_best_stand := F21, g_best_stand := PySem.W.mg_of X G a21, b_best_stand := B21, f_row_from := _, fd_row_from := _, F_row_from := F22, g_row_from := PySem.W.mg_of X G a22, b_row_from := B22, f_least_from := _, fd_least_from := _, F_least_from := F23, g_least_from := PySem.W.mg_of X G a23, b_least_from := B23, f_signs_near := _, fd_signs_near := _, F_signs_near := F24, g_signs_near := PySem.W.mg_of X G a24, b_signs_near := B24, f_swapped := _, fd_swapped := _, F_swapped := F25, g_swapped := PySem.W.mg_of X G a25, b_swapped := B25, f_law_k39 := _, fd_law_k39 := _, F_law_k39 := F26, g_law_k39 := PySem.W.mg_of X G a26, b_law_k39 := B26, z_all := PySem.W.mg_none_of X G z_all, z_bool := PySem.W.mg_none_of X G z_bool, z_enumerate := PySem.W.mg_none_of X G z_enumerate, z_int := PySem.W.mg_none_of X G z_int, z_isinstance := PySem.W.mg_none_of X G z_isinstance, z_len := PySem.W.mg_none_of X G z_len, z_list := PySem.W.mg_none_of X G z_list, z_min := PySem.W.mg_none_of X G z_min, z_range := PySem.W.mg_none_of X G z_range, z_set := PySem.W.mg_none_of X G z_set, z_sorted := PySem.W.mg_none_of X G z_sorted, z_str := PySem.W.mg_none_of X G z_str, z_tuple := PySem.W.mg_none_of X G z_tuple, k_LEAST := con_int (PySem.W.mg_of X G n_LEAST), k_MOST := con_int (PySem.W.mg_of X G n_MOST), k_PULSES := con_str (PySem.W.mg_of X G n_PULSES) (by decide +kernel) (by decide +kernel), k_SHORT := con_int (PySem.W.mg_of X G n_SHORT), k_SIGNS := con_str (PySem.W.mg_of X G n_SIGNS) (by decide +kernel) (by decide +kernel), k_TURNS := con_int (PySem.W.mg_of X G n_TURNS), x_NoPlace := x_NoPlace, q_NoPlace := q_NoPlace, n_NoPlace := PySem.W.mg_of X G n_NoPlace, p_NoPlace := p_NoPlace, e_NoPlace := e_NoPlace, t_NoPlace := t_NoPlace, c_NoPlace := rfl, x_NoStand := x_NoStand, q_NoStand := q_NoStand, n_NoStand := PySem.W.mg_of X G n_NoStand, p_NoStand := p_NoStand, e_NoStand := e_NoStand, t_NoStand := t_NoStand, c_NoStand := rfl, x_NoText := x_NoText, q_NoText := q_NoText, n_NoText := PySem.W.mg_of X G n_NoText, p_NoText := p_NoText, e_NoText := e_NoText, t_NoText := t_NoText, c_NoText := rfl, x_NoWheels := x_NoWheels, q_NoWheels := q_NoWheels, n_NoWheels := PySem.W.mg_of X G n_NoWheels, p_NoWheels := p_NoWheels, e_NoWheels := e_NoWheels, t_NoWheels := t_NoWheels, c_NoWheels := rfl }
  exact ⟨PySem.W.fnOf "law" "law" (defArgs s_law_k39) (defBody s_law_k39) (defScope s_law_k39) .none kV26 dc26 pm26 an26 cd26 ct26, fun s v => .of_eq rfl, fun base _ _ => (ok_law_k39 T).imp fun vs H Q E h => top_imp pure_law_k39 vs H Q E h⟩
end LW.K39
open PySem PySem.W PyProof.Rows
set_option maxHeartbeats 0 in
theorem PySem.Challenge.cw_letterwheels_k39_whole_starts_turned_holds : PySem.Challenge.rw_letterwheels_k39_whole_starts_turned.Holds := by
  w_on; o_law; k_head; (case hw => w_witness2)
  k_fill
  refine L2.walk_of (l := PySem.Challenge.rw_letterwheels_k39_whole_starts_turned) (n := 63) (k := 8) (x := "script") (CX := fun w => L2.CX PySem.Challenge.rw_letterwheels_k39_whole_starts_turned.prog w) (sp := fun w => LW.spTop _) rfl (by decide) rfl ⟨rfl, by decide, by decide⟩ (fun w h Y => PySem.W.kIn_of Y) ?F (fun _ _ a ns hl hO hS => ⟨a, ns, rfl, hS, hO, hl, fun _ _ e => e⟩) (fun _ H s e s' h => LW.cx_no H s e s' h)
  case F =>
    intro w mg fa h KX G hmg
    refine' LW.K39.all_mk KX G hmg ?a0 ?l0 ?c0 ?k0 ?a1 ?l1 ?c1 ?k1 ?a2 ?l2 ?c2 ?k2 ?a3 ?l3 ?c3 ?k3 ?a4 ?l4 ?c4 ?k4 ?a5 ?l5 ?c5 ?k5 ?a6 ?l6 ?c6 ?k6 ?a7 ?l7 ?c7 ?k7 ?a8 ?l8 ?c8 ?k8 ?a9 ?l9 ?c9 ?k9 ?a10 ?l10 ?c10 ?k10 ?a11 ?l11 ?c11 ?k11 ?a12 ?l12 ?c12 ?k12 ?a13 ?l13 ?c13 ?k13 ?a14 ?l14 ?c14 ?k14 ?a15 ?l15 ?c15 ?k15 ?a16 ?l16 ?c16 ?k16 ?a17 ?l17 ?c17 ?k17 ?a18 ?l18 ?c18 ?k18 ?a19 ?l19 ?c19 ?k19 ?a20 ?l20 ?c20 ?k20 ?a21 ?l21 ?c21 ?k21 ?a22 ?l22 ?c22 ?k22 ?a23 ?l23 ?c23 ?k23 ?a24 ?l24 ?c24 ?k24 ?a25 ?l25 ?c25 ?k25 ?a26 ?l26 ?c26 ?k26 ?z_all ?z_bool ?z_enumerate ?z_int ?z_isinstance ?z_len ?z_list ?z_min ?z_range ?z_set ?z_sorted ?z_str ?z_tuple ?n_LEAST ?n_MOST ?n_PULSES ?n_SHORT ?n_SIGNS ?n_TURNS ?n_NoPlace ?q_NoPlace ?p_NoPlace ?e_NoPlace ?t_NoPlace ?n_NoStand ?q_NoStand ?p_NoStand ?e_NoStand ?t_NoStand ?n_NoText ?q_NoText ?p_NoText ?e_NoText ?t_NoText ?n_NoWheels ?q_NoWheels ?p_NoWheels ?e_NoWheels ?t_NoWheels
    (case a0 => k_is)
    (case l0 => k_is)
    (case c0 => k_is)
    (case k0 => k_is)
    (case a1 => k_is)
    (case l1 => k_is)
    (case c1 => k_is)
    (case k1 => k_is)
    (case a2 => k_is)
    (case l2 => k_is)
    (case c2 => k_is)
    (case k2 => k_is)
    (case a3 => k_is)
    (case l3 => k_is)
    (case c3 => k_is)
    (case k3 => k_is)
    (case a4 => k_is)
    (case l4 => k_is)
    (case c4 => k_is)
    (case k4 => k_is)
    (case a5 => k_is)
    (case l5 => k_is)
    (case c5 => k_is)
    (case k5 => k_is)
    (case a6 => k_is)
    (case l6 => k_is)
    (case c6 => k_is)
    (case k6 => k_is)
    (case a7 => k_is)
    (case l7 => k_is)
    (case c7 => k_is)
    (case k7 => k_is)
    (case a8 => k_is)
    (case l8 => k_is)
    (case c8 => k_is)
    (case k8 => k_is)
    (case a9 => k_is)
    (case l9 => k_is)
    (case c9 => k_is)
    (case k9 => k_is)
    (case a10 => k_is)
    (case l10 => k_is)
    (case c10 => k_is)
    (case k10 => k_is)
    (case a11 => k_is)
    (case l11 => k_is)
    (case c11 => k_is)
    (case k11 => k_is)
    (case a12 => k_is)
    (case l12 => k_is)
    (case c12 => k_is)
    (case k12 => k_is)
    (case a13 => k_is)
    (case l13 => k_is)
    (case c13 => k_is)
    (case k13 => k_is)
    (case a14 => k_is)
    (case l14 => k_is)
    (case c14 => k_is)
    (case k14 => k_is)
    (case a15 => k_is)
    (case l15 => k_is)
    (case c15 => k_is)
    (case k15 => k_is)
    (case a16 => k_is)
    (case l16 => k_is)
    (case c16 => k_is)
    (case k16 => k_is)
    (case a17 => k_is)
    (case l17 => k_is)
    (case c17 => k_is)
    (case k17 => k_is)
    (case a18 => k_is)
    (case l18 => k_is)
    (case c18 => k_is)
    (case k18 => k_is)
    (case a19 => k_is)
    (case l19 => k_is)
    (case c19 => k_is)
    (case k19 => k_is)
    (case a20 => k_is)
    (case l20 => k_is)
    (case c20 => k_is)
    (case k20 => k_is)
    (case a21 => k_is)
    (case l21 => k_is)
    (case c21 => k_is)
    (case k21 => k_is)
    (case a22 => k_is)
    (case l22 => k_is)
    (case c22 => k_is)
    (case k22 => k_is)
    (case a23 => k_is)
    (case l23 => k_is)
    (case c23 => k_is)
    (case k23 => k_is)
    (case a24 => k_is)
    (case l24 => k_is)
    (case c24 => k_is)
    (case k24 => k_is)
    (case a25 => k_is)
    (case l25 => k_is)
    (case c25 => k_is)
    (case k25 => k_is)
    (case a26 => k_is)
    (case l26 => k_is)
    (case c26 => k_is)
    (case k26 => k_is)
    (case z_all => k_is)
    (case z_bool => k_is)
    (case z_enumerate => k_is)
    (case z_int => k_is)
    (case z_isinstance => k_is)
    (case z_len => k_is)
    (case z_list => k_is)
    (case z_min => k_is)
    (case z_range => k_is)
    (case z_set => k_is)
    (case z_sorted => k_is)
    (case z_str => k_is)
    (case z_tuple => k_is)
    (case n_LEAST => k_is)
    (case n_MOST => k_is)
    (case n_PULSES => k_is)
    (case n_SHORT => k_is)
    (case n_SIGNS => k_is)
    (case n_TURNS => k_is)
    (case n_NoPlace => k_is)
    (case q_NoPlace => k_exc)
    (case p_NoPlace => k_is)
    (case e_NoPlace => k_is)
    (case t_NoPlace => k_is)
    (case n_NoStand => k_is)
    (case q_NoStand => k_exc)
    (case p_NoStand => k_is)
    (case e_NoStand => k_is)
    (case t_NoStand => k_is)
    (case n_NoText => k_is)
    (case q_NoText => k_exc)
    (case p_NoText => k_is)
    (case e_NoText => k_is)
    (case t_NoText => k_is)
    (case n_NoWheels => k_is)
    (case q_NoWheels => k_exc)
    (case p_NoWheels => k_is)
    (case e_NoWheels => k_is)
    (case t_NoWheels => k_is)
